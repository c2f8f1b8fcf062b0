import PyProof.Rows.All
import Wide.All
import OpenK.AllK
import Wide.FinOn
import HandS.ForMost
import HandS.ForExc
import HandS.TupAny
import HandS.Conv
import HandS.HeadHook1
import HandS.Words
import HandS.WordsExc
import HandS.Ends
import HandS.ExcOwn
import HandS.TupLe
import HandS.Wide
import HandS.Strs
import HandS.SetFor
import HandS.SortInts
import HandS.IsInst
import HandS.Zip
import HandS.Flow
import HandS.Style
import KE.GoesNew
import KE.GoesMore
import HandS.ExcValue
import HandS.ExcIs
import HandS.HeadHook2
import HandS.Text
import KE.KStateDown
import HandS.Defaults
import HandS.Head0
import HandS.Head1
import HandS.Head2
import HandS.HeadEnd
import HandS.HeadNt
import PyProof.ReprRoads
import PyProof.ReprBulk
import PyProof.Rows.RegStrFacts
import HandS.RaiseMore
import KE.GoesEnum
import HandS.TupMul
import KE.KItemsList
import KE.KDictZip
import HandS.ListItems
import KE.KTupSum
import HandS.ForDict
import HandS.Iter
import PyProof.AutoSeq1
import KE.DataMinMax
import PyProof.Rows.RowBridgeK
import KE.KDictSum
import KE.SortData
import KE.DataCmp
import KE.KDictCopyH
import HandS.DictTup
import PyProof.Transfer
import PyProof.SumAny
import HandS.WordsDict
import HandS.More
import PyProof.WalkInts
import PySem.Challenge.RW_sumorder_k30_names_taken_out
set_option Elab.async false
set_option linter.all false
set_option maxRecDepth 100000
set_option maxHeartbeats 0
set_option autoImplicit false
namespace HD
open PySem PyProof.Rows L2
def TupD (K : PySem.W.Frag) (H : Hp) (a : Addr) (xs : List V) : Prop :=
  (∃ o : Obj, H a = some (.frz o (.tup xs)) ∧ o.dict = none) ∨
    ∃ (o : Obj) (its : Array Value) (n : Nat), K.lookup a = some o ∧ o.cls = .type "tuple" ∧ o.data = .seq its n ∧ its.size ≤ sizeLine ∧ Vals xs its.toList ∧ o.dict = none
theorem TupD.sq {K : PySem.W.Frag} {H : Hp} {a : Addr} {xs : List V} (h : TupD K H a xs) : SqT K H a xs := by
  rcases h with ⟨o, h, _⟩ | ⟨o, its, n, h1, h2, h3, h4, h5, _⟩
  · exact .inl (.inr ⟨o, h⟩)
  · exact .inr ⟨o, its, n, h1, h2, h3, h4, h5⟩
theorem TupD.same {K : PySem.W.Frag} {H H' : Hp} {a : Addr} {xs : List V} (e : Same H H') (h : TupD K H a xs) : TupD K H' a xs := by
  rcases h with ⟨o, h, d⟩ | h
  · exact .inl ⟨o, e _ _ h, d⟩
  · exact .inr h
theorem TupD.noDict {X : Cx} {pins : List (Addr × Obj)} {σ : L2.St} {H : Hp} {s : Shared} {a : Addr} {xs : List V} (I : Inv X pins σ H s) (h : TupD X.K H a xs) : ∃ ob, s.heap.get? a = some ob ∧ ob.dict = none := by
  rcases h with ⟨o, h, d⟩ | ⟨o, its, n, h1, h2, h3, h4, h5, d⟩
  · obtain ⟨e, _⟩ := (show ObjOk X.prog X.w H s.heap a (.frz o (.tup xs)) from I.hok a _ h)
    exact ⟨o, e, d⟩
  · exact ⟨o, I.kIn a o h1, d⟩
def newT (H : Hp) (xs : List V) (Q : VK) : Prop := ∀ (p : Addr) (o : Obj), H p = none → o.dict = none → Q (.ref p) (upd H p (.frz o (.tup xs)))
theorem laidT {X : Cx} {pins : List (Addr × Obj)} {σ : L2.St} {H : Hp} {s : Shared} {Q : VK} {xs : List V} {its : List Value} {tk : Nat} (I : Inv X pins σ H s) (r : Vals xs its) (hz : xs.length ≤ sizeLine) (q : newT H xs Q) :
    EP X pins σ Q (.ref s.heap.objs.size) { s with heap := s.heap.push { cls := .type "tuple", data := .seq its.toArray }, toks := tk } := by
  have hf : H s.heap.objs.size = none := I.hok.fresh (Nat.le_refl _)
  refine ⟨.ref s.heap.objs.size, _, I.laid (t' := tk) (fun b u e => Heap.get?_push_of_some _ e) (Nat.le_refl _) ?_, rfl, q _ { cls := .type "tuple", data := .seq its.toArray } hf rfl⟩
  exact ⟨Heap.get?_push_size _ rfl, hz, its, r, IsTup.new _ _⟩
section
variable {X : Cx}
def tTupF (t : TA) : TE := fun σ H Q => t σ H fun xs H1 => xs.length ≤ sizeLine ∧ newT H1 xs Q
theorem pe_tupF {x1} {es : List Expr} {t : TA} {pos : Pos} (h : PA X es t) : PE X (.Tuple es x1 pos) (tTupF t) := by
  refine ⟨fun pins s σ H Q I hq => ?_⟩
  refine wpAny_Tuple_spliced (thn (h.run pos pins s σ H _ I hq) fun us s1 ⟨xs, H1, I1, r, z, q⟩ => ⟨by rw [← r.length]; exact z, ?_⟩)
  exact laidT (tk := s1.toks) I1 r z q
def rCatF (K : PySem.W.Frag) : R2 := fun x y H Q => ∃ a b xs ys, x = .ref a ∧ y = .ref b ∧ SqT K H a xs ∧ SqT K H b ys ∧ xs.length + ys.length ≤ sizeLine ∧
  (xs = [] → Q (.ref b) H) ∧ (xs ≠ [] → ys = [] → Q (.ref a) H) ∧ (xs ≠ [] → ys ≠ [] → newT H (xs ++ ys) Q)
theorem op_catF : OpR X (binaryOp .Add) (rCatF X.K) := by
  intro pins s σ H x y v u Q I rx ry h
  obtain ⟨a, b, xs, ys, rfl, rfl, ha, hb, hz, q0, q1, q2⟩ := h
  cases rx
  cases ry
  obtain ⟨its, r1, p1, _⟩ := I.tuple ha
  obtain ⟨its2, r2, p2, _⟩ := I.tuple hb
  by_cases hx : xs = []
  · subst hx
    cases r1
    exact cat_tup0 p1 p2 ⟨.ref b, H, I, rfl, q0 rfl⟩
  · refine HT.cat_tup p1 p2 (fun z => hx (r1.nil_iff.mp z)) (fun z => ⟨.ref a, H, I, rfl, q1 hx (r2.nil_iff.mp z)⟩) (fun z => ?_) (by rw [← r1.length, ← r2.length]; exact hz)
    exact laidT (tk := s.toks) I (r1.append r2) (by rw [List.length_append]; exact hz) (q2 hx fun w => z (r2.nil_iff.mpr w))
def rSlF (K : PySem.W.Frag) : V → Option Int → Option Int → Hp → VK → Prop := fun x lo hi H Q => ∃ a xs, x = .ref a ∧ SqT K H a xs ∧
  (HT.sIx xs.length 0 lo = 0 ∧ HT.sIx xs.length xs.length hi = xs.length → Q (.ref a) H) ∧ (¬ (HT.sIx xs.length 0 lo = 0 ∧ HT.sIx xs.length xs.length hi = xs.length) → newT H (cutV xs lo hi) Q)
theorem sl_tupF : SlR X (rSlF X.K) := by
  intro pins s σ H x v vl vu lo hi sl Q I rx hs pl pu h
  obtain ⟨a, xs, rfl, hx, q1, q2⟩ := h
  cases rx
  obtain ⟨its, r, ht, hz⟩ := I.tuple hx
  have hlen : its.toArray.size = xs.length := by
    rw [List.size_toArray]
    exact r.length.symm
  refine ⟨"tuple", _, PyProof.Rows.slot_tuple_getitem.lookup, ht.typeIs, ?_⟩
  by_cases hw : HT.sIx xs.length 0 lo = 0 ∧ HT.sIx xs.length xs.length hi = xs.length
  · exact getItem_tuple_whole ht hs pl pu (by rw [hlen]; exact hw) ⟨.ref a, H, I, rfl, q1 hw⟩
  · refine HT.getItem_tuple_cut ht hs pl pu (by rw [hlen]; exact hw) ?_ (by rw [hlen]; exact hz)
    rw [hlen]
    exact laidT (tk := s.toks) I ((r.drop (HT.sIx xs.length 0 lo)).take (HT.sIx xs.length xs.length hi - HT.sIx xs.length 0 lo)) (Nat.le_trans (cutV_length xs lo hi) hz) (q2 hw)
theorem call_tupleF : CallR X (.type "tuple") (fun xs H Q => ∃ p ys, xs = [.ref p] ∧ ((SqL X.K H p ys ∧ newT H ys Q) ∨ (SqT X.K H p ys ∧ Q (.ref p) H))) := by
  intro pins s σ H xs us Q I r h
  obtain ⟨p, ys, rfl, h⟩ := h
  obtain ⟨u, rfl, rx⟩ := vals1 r
  cases rx
  rcases h with ⟨hq, q⟩ | ⟨hq, q⟩
  · obtain ⟨its, r', pl, hz⟩ := I.list hq
    have hlen := r'.length
    refine call_tuple_list pl.isList (fun h' kp => ?_) (by simp only [List.size_toArray] <;> omega)
    have I1 : Inv X pins σ H { s with heap := h' } := I.kept (t' := s.toks) kp
    exact laidT (tk := s.toks) I1 r' hz q
  · obtain ⟨its, r', pl, hz⟩ := I.tuple hq
    exact call_tuple_same pl ⟨.ref p, H, I, rfl, q⟩
end
end HD
namespace HD
open PySem L2
abbrev clsV (K : PySem.W.Frag) (x : Str) : Value := .ref (He.ga K x)
inductive D where
  | non | bl (b : Bool) | int (i : Int) | str (x : Str) | val (v : V)
  | lst (ds : List D) | tup (ds : List D) | fz (ds : List D) | tk (ds : List D)
  | exc (c : Str)
  | glo (x : Str)
  | dk (ks : List Key) (ds : List D)
  | dt (ks : List (List Int)) (ds : List D)
def hT (ks : List Int) : Int := reduceHash (Builtin.Tuple.tupleHashOf (ks.map hashInt))
def dtO (a : Addr) (kbs : List (List Int × Addr × V)) : HO := .ext fun h => kbs.length ≤ sizeLine ∧ (a == sysModules) = false ∧ (kbs.map (·.1)).Nodup ∧ ∃ (us : List Value) (o : Obj) (es : Array DictEntry) (ep : Nat),
  Vals (kbs.map (·.2.2)) us ∧ h.get? a = some o ∧ o.ExactDict ∧ o.data = .dict es ep ∧ es.toList = (kbs.zip us).map fun x => ⟨hT x.1.1, .ref x.1.2.1, x.2⟩
mutual
def Rep (K : PySem.W.Frag) (F : Hp) : D → V → Prop
  | .non, v => v = .non
  | .bl b, v => v = .bl b
  | .int i, v => v = .int i
  | .str x, v => v = .str x
  | .val u, v => v = u
  | .lst ds, v => ∃ a xs, v = .ref a ∧ F a = some (.lst xs) ∧ Reps K F ds xs
  | .fz ds, v => ∃ a xs, v = .ref a ∧ SqL K F a xs ∧ Reps K F ds xs
  | .tup ds, v => ∃ a xs, v = .ref a ∧ TupD K F a xs ∧ Reps K F ds xs
  | .tk ds, v => ∃ a xs, v = .ref a ∧ SqT K F a xs ∧ Reps K F ds xs
  | .glo x, v => v = .ref (He.ga K x)
  | .exc c, v => ∃ a oe, v = .ref a ∧ F a = some (.frz oe (.own a)) ∧ oe.cls = clsV K c ∧ oe.dict = none ∧ ∃ vs, oe.data = .fields vs
  | .dk ks ds, v => ∃ a od vs, v = .ref a ∧ F a = some (.frz od (.dK vs)) ∧ vs.map (·.1) = ks ∧ Reps K F ds (vs.map (·.2))
  | .dt ks ds, v => ∃ a od kbs, v = .ref a ∧ F a = some (.frz od (dtO a kbs)) ∧ kbs.map (·.1) = ks ∧ (∀ x ∈ kbs, TupD K F x.2.1 (x.1.map V.int)) ∧ Reps K F ds (kbs.map (·.2.2))
def Reps (K : PySem.W.Frag) (F : Hp) : List D → List V → Prop
  | [], vs => vs = []
  | d :: ds, vs => ∃ v r, vs = v :: r ∧ Rep K F d v ∧ Reps K F ds r
end
theorem SqT.same {K : PySem.W.Frag} {F F' : Hp} {a : Addr} {xs : List V} (e : Same F F') (h : SqT K F a xs) : SqT K F' a xs := by
  rcases h with (h | ⟨o, h⟩) | h
  · exact .inl (.inl (e _ _ h))
  · exact .inl (.inr ⟨o, e _ _ h⟩)
  · exact .inr h
section
variable {K : PySem.W.Frag} {F F' : Hp}
mutual
theorem Rep.same (e : Same F F') : ∀ {d : D} {v : V}, Rep K F d v → Rep K F' d v
  | .non, _, h => h
  | .bl _, _, h => h
  | .int _, _, h => h
  | .str _, _, h => h
  | .val _, _, h => h
  | .lst _, _, h => by
    obtain ⟨a, xs, rfl, hs, hr⟩ := h
    exact ⟨a, xs, rfl, e _ _ hs, Reps.same e hr⟩
  | .fz _, _, h => by
    obtain ⟨a, xs, rfl, hs, hr⟩ := h
    exact ⟨a, xs, rfl, e.seq hs, Reps.same e hr⟩
  | .tup _, _, h => by
    obtain ⟨a, xs, rfl, hs, hr⟩ := h
    exact ⟨a, xs, rfl, TupD.same e hs, Reps.same e hr⟩
  | .tk _, _, h => by
    obtain ⟨a, xs, rfl, hs, hr⟩ := h
    exact ⟨a, xs, rfl, SqT.same e hs, Reps.same e hr⟩
  | .glo _, _, h => h
  | .exc _, _, h => by
    obtain ⟨a, oe, rfl, hs, hr⟩ := h
    exact ⟨a, oe, rfl, e _ _ hs, hr⟩
  | .dk _ _, _, h => by
    obtain ⟨a, od, vs, rfl, hs, hk, hr⟩ := h
    exact ⟨a, od, vs, rfl, e _ _ hs, hk, Reps.same e hr⟩
  | .dt _ _, _, h => by
    obtain ⟨a, od, vs, rfl, hs, hk, ht, hr⟩ := h
    exact ⟨a, od, vs, rfl, e _ _ hs, hk, fun x hx => TupD.same e (ht x hx), Reps.same e hr⟩
theorem Reps.same (e : Same F F') : ∀ {ds : List D} {vs : List V}, Reps K F ds vs → Reps K F' ds vs
  | [], _, h => h
  | _ :: _, _, h => by
    obtain ⟨v, r, rfl, h1, h2⟩ := h
    exact ⟨v, r, rfl, Rep.same e h1, Reps.same e h2⟩
end
theorem Reps.nil : Reps K F [] [] := rfl
theorem Reps.cons {d : D} {v : V} {ds : List D} {vs : List V} (h : Rep K F d v) (t : Reps K F ds vs) : Reps K F (d :: ds) (v :: vs) := ⟨v, vs, rfl, h, t⟩
theorem Reps.length : ∀ {ds : List D} {vs : List V}, Reps K F ds vs → ds.length = vs.length
  | [], _, h => by
    have e : _ = [] := h
    rw [e]
    rfl
  | _ :: ds, _, h => by
    obtain ⟨v, r, rfl, _, h2⟩ := h
    rw [List.length_cons, List.length_cons, Reps.length h2]
theorem Reps.get : ∀ {ds : List D} {vs : List V} {i : Nat} {d : D}, Reps K F ds vs → ds[i]? = some d → ∃ v, vs[i]? = some v ∧ Rep K F d v
  | [], _, _, _, _, e => by simp at e
  | _ :: ds, _, 0, _, h, e => by
    obtain ⟨v, r, rfl, h1, _⟩ := h
    have e' := Option.some.inj e
    subst e'
    exact ⟨v, rfl, h1⟩
  | _ :: ds, _, i + 1, _, h, e => by
    obtain ⟨v, r, rfl, _, h2⟩ := h
    exact Reps.get (i := i) h2 e
theorem Reps.of_get : ∀ {ds : List D} {vs : List V}, ds.length = vs.length → (∀ (i : Nat) d v, ds[i]? = some d → vs[i]? = some v → Rep K F d v) → Reps K F ds vs
  | [], [], _, _ => rfl
  | [], _ :: _, e, _ => by simp at e
  | _ :: _, [], e, _ => by simp at e
  | d :: ds, v :: vs, e, h => ⟨v, vs, rfl, h 0 d v rfl rfl, Reps.of_get (by simpa using e) fun i d' v' h1 h2 => h (i + 1) d' v' h1 h2⟩
theorem Reps.append : ∀ {ds es : List D} {vs us : List V}, Reps K F ds vs → Reps K F es us → Reps K F (ds ++ es) (vs ++ us)
  | [], _, _, _, h, g => by
    have e : _ = [] := h
    rw [e]
    exact g
  | _ :: _, _, _, _, h, g => by
    obtain ⟨v, r, rfl, h1, h2⟩ := h
    exact ⟨v, _, rfl, h1, Reps.append h2 g⟩
theorem Reps.one {d : D} {v : V} (h : Rep K F d v) : Reps K F [d] [v] := .cons h .nil
theorem Reps.take {ds : List D} {vs : List V} (h : Reps K F ds vs) (n : Nat) : Reps K F (ds.take n) (vs.take n) := by
  refine Reps.of_get (by rw [List.length_take, List.length_take, h.length]) fun i d v h1 h2 => ?_
  rw [List.getElem?_take] at h1 h2
  split at h1
  · rename_i hi
    rw [if_pos hi] at h2
    obtain ⟨v', e, r⟩ := h.get h1
    rw [h2] at e
    cases e
    exact r
  · cases h1
theorem Reps.drop {ds : List D} {vs : List V} (h : Reps K F ds vs) (n : Nat) : Reps K F (ds.drop n) (vs.drop n) := by
  refine Reps.of_get (by rw [List.length_drop, List.length_drop, h.length]) fun i d v h1 h2 => ?_
  rw [List.getElem?_drop] at h1 h2
  obtain ⟨v', e, r⟩ := h.get h1
  rw [h2] at e
  cases e
  exact r
theorem Reps.set {ds : List D} {vs : List V} (h : Reps K F ds vs) (n : Nat) {d : D} {v : V} (hd : Rep K F d v) : Reps K F (ds.set n d) (vs.set n v) := by
  refine Reps.of_get (by rw [List.length_set, List.length_set, h.length]) fun i d' v' h1 h2 => ?_
  rw [List.getElem?_set] at h1 h2
  split at h1
  · rename_i hi
    rw [if_pos hi] at h2
    split at h1
    · split at h2
      · cases h1
        cases h2
        exact hd
      · cases h2
    · cases h1
  · rename_i hi
    rw [if_neg hi] at h2
    obtain ⟨w, e, r⟩ := h.get h1
    rw [h2] at e
    cases e
    exact r
theorem Reps.eraseIdx : ∀ {ds : List D} {vs : List V} (n : Nat), Reps K F ds vs → Reps K F (ds.eraseIdx n) (vs.eraseIdx n)
  | [], _, _, h => by
    have e : _ = [] := h
    rw [e]
    exact rfl
  | _ :: _, _, 0, h => by
    obtain ⟨v, r, rfl, _, h2⟩ := h
    exact h2
  | _ :: _, _, n + 1, h => by
    obtain ⟨v, r, rfl, h1, h2⟩ := h
    exact ⟨v, _, rfl, h1, Reps.eraseIdx n h2⟩
theorem Reps.ints : ∀ {ns : List Int} {vs : List V}, Reps K F (ns.map D.int) vs → vs = ns.map V.int
  | [], _, h => h
  | n :: ns, _, h => by
    obtain ⟨v, r, rfl, h1, h2⟩ := h
    have e : v = .int n := h1
    rw [e, Reps.ints (ns := ns) h2]
    rfl
theorem Reps.of_ints : ∀ (ns : List Int), Reps K F (ns.map D.int) (ns.map V.int)
  | [] => rfl
  | n :: ns => ⟨_, _, rfl, rfl, Reps.of_ints ns⟩
theorem Reps.bls : ∀ {bs : List Bool} {vs : List V}, Reps K F (bs.map D.bl) vs → vs = bs.map V.bl
  | [], _, h => h
  | n :: ns, _, h => by
    obtain ⟨v, r, rfl, h1, h2⟩ := h
    have e : v = .bl n := h1
    rw [e, Reps.bls (bs := ns) h2]
    rfl
end
inductive OC where
  | lst (ds : List D)
  | dk (kvs : List (Key × D))
  | dt (kvs : List (List Int × D))
  | ins (c : Str) (dx : Addr) (fs : List (Str × D))
  | own (x : Addr)
  | lkK (od : Obj) (vs : List (Key × V)) (kvs : List (Key × D))
  | lkT (od : Obj) (kbs : List (List Int × Addr × V)) (kvs : List (List Int × D))
def OC.ok (K : PySem.W.Frag) (F : Hp) (a : Addr) : OC → HO → Prop
  | .lst ds, o => ∃ vs, o = .lst vs ∧ Reps K F ds vs
  | .dk kvs, o => ∃ vs : List (Key × V), o = .dK vs ∧ vs.map (·.1) = kvs.map (·.1) ∧ Reps K F (kvs.map (·.2)) (vs.map (·.2))
  | .dt kvs, o => ∃ kbs : List (List Int × Addr × V), o = dtO a kbs ∧ kbs.map (·.1) = kvs.map (·.1) ∧ (∀ x ∈ kbs, TupD K F x.2.1 (x.1.map V.int)) ∧ Reps K F (kvs.map (·.2)) (kbs.map (·.2.2))
  | .ins c dx fs, o => ∃ vs : List (Str × V), o = .ins (He.ga K c) dx vs ∧ vs.map (·.1) = fs.map (·.1) ∧ Reps K F (fs.map (·.2)) (vs.map (·.2))
  | .own x, o => o = .own x
  | .lkK od vs kvs, o => o = .frz od (.dK vs) ∧ vs.map (·.1) = kvs.map (·.1) ∧ Reps K F (kvs.map (·.2)) (vs.map (·.2))
  | .lkT od kbs kvs, o => o = .frz od (dtO a kbs) ∧ kbs.map (·.1) = kvs.map (·.1) ∧ (∀ x ∈ kbs, TupD K F x.2.1 (x.1.map V.int)) ∧ Reps K F (kvs.map (·.2)) (kbs.map (·.2.2))
theorem OC.ok.same {K : PySem.W.Frag} {F F' : Hp} {a : Addr} (e : Same F F') : ∀ {c : OC} {o : HO}, OC.ok K F a c o → OC.ok K F' a c o
  | .lst _, _, ⟨vs, h1, h2⟩ => ⟨vs, h1, h2.same e⟩
  | .dk _, _, ⟨vs, h1, h2, h3⟩ => ⟨vs, h1, h2, h3.same e⟩
  | .dt _, _, ⟨vs, h1, h2, h3, h4⟩ => ⟨vs, h1, h2, fun x hx => TupD.same e (h3 x hx), h4.same e⟩
  | .ins _ _ _, _, ⟨vs, h1, h2, h3⟩ => ⟨vs, h1, h2, h3.same e⟩
  | .own _, _, h => h
  | .lkK _ _ _, _, ⟨h1, h2, h3⟩ => ⟨h1, h2, h3.same e⟩
  | .lkT _ _ _, _, ⟨h1, h2, h3, h4⟩ => ⟨h1, h2, fun x hx => TupD.same e (h3 x hx), h4.same e⟩
def Loose (o : HO) : Prop := (∀ xs, o ≠ .tup xs) ∧ ∀ od xs, o ≠ .frz od (.tup xs)
theorem OC.ok.loose {K : PySem.W.Frag} {F : Hp} {a : Addr} : ∀ {c : OC} {o : HO}, OC.ok K F a c o → Loose o
  | .lst _, _, ⟨vs, h1, _⟩ => by subst h1; exact ⟨fun _ z => (nomatch z), fun _ _ z => (nomatch z)⟩
  | .dk _, _, ⟨vs, h1, _⟩ => by subst h1; exact ⟨fun _ z => (nomatch z), fun _ _ z => (nomatch z)⟩
  | .dt _, _, ⟨vs, h1, _⟩ => by subst h1; exact ⟨fun _ z => (nomatch z), fun _ _ z => (nomatch z)⟩
  | .ins _ _ _, _, ⟨vs, h1, _⟩ => by subst h1; exact ⟨fun _ z => (nomatch z), fun _ _ z => (nomatch z)⟩
  | .own _, _, h => by
    have e : _ = HO.own _ := h
    subst e
    exact ⟨fun _ z => (nomatch z), fun _ _ z => (nomatch z)⟩
  | .lkK _ _ _, _, ⟨h1, _⟩ => by subst h1; exact ⟨fun _ z => (nomatch z), fun _ _ z => (nomatch z)⟩
  | .lkT _ _ _, _, ⟨h1, _⟩ => by subst h1; exact ⟨fun _ z => (nomatch z), fun _ _ z => (nomatch z)⟩
inductive Sl where
  | un
  | ext (d : D)
  | lst (a : Addr) (ds : List D)
  | al (i : Nat) (a : Addr)
  | reg (d : D) (cs : List (Addr × OC))
  | ar (i : Nat) (b : Addr)
def Sl.owned : Sl → List Addr
  | .lst a _ => [a]
  | .reg _ cs => cs.map (·.1)
  | _ => []
def cellOf : List (Addr × OC) → Addr → Option OC
  | [], _ => none
  | p :: r, b => if p.1 = b then some p.2 else cellOf r b
def SlOk (K : PySem.W.Frag) (F H : Hp) (v : V) : Sl → Prop
  | .un => True
  | .ext d => Rep K F d v
  | .lst a ds => v = .ref a ∧ F a = none ∧ ∃ vs, H a = some (.lst vs) ∧ Reps K F ds vs
  | .al _ a => v = .ref a
  | .ar _ b => v = .ref b
  | .reg d cs => Rep K F d v ∧ (cs.map (·.1)).Nodup ∧ ∀ p ∈ cs, F p.1 = none ∧ ∃ o, H p.1 = some o ∧ OC.ok K F p.1 p.2 o
theorem SlOk.ndo {K : PySem.W.Frag} {F H : Hp} {v : V} : ∀ {sl : Sl}, SlOk K F H v sl → sl.owned.Nodup
  | .un, _ => List.nodup_nil
  | .ext _, _ => List.nodup_nil
  | .al _ _, _ => List.nodup_nil
  | .lst _ _, _ => List.pairwise_singleton _ _
  | .ar _ _, _ => List.nodup_nil
  | .reg _ _, h => h.2.1
structure Ent where
  F0 : Hp
  H0 : Hp
  A0 : List Addr
abbrev Env' := List Sl
abbrev Tmp := List (V × Sl)
def ownedE (env : Env') : List Addr := env.flatMap Sl.owned
def ownedT (T : Tmp) : List Addr := T.flatMap fun p => p.2.owned
structure Holds (K : PySem.W.Frag) (e : Ent) (env : Env') (T : Tmp) (F : Hp) (σ : St) (H : Hp) : Prop where
  fh : Same F H
  len : env.length = σ.length
  slots : ∀ (i : Nat) sl, env[i]? = some sl → sl = .un ∨ ∃ v, σ[i]? = some (some v) ∧ SlOk K F H v sl
  temps : ∀ p ∈ T, SlOk K F H p.1 p.2
  nd : (ownedE env ++ ownedT T).Nodup
  s1 : Same e.F0 F
  s2 : ∀ a o, e.H0 a = some o → a ∉ e.A0 → H a = some o ∧ (e.F0 a = none → F a = none)
  s3 : ∀ a ∈ ownedE env ++ ownedT T, a ∈ e.A0 ∨ e.H0 a = none
structure Grow (F H F1 H1 : Hp) : Prop where
  ff : Same F F1
  hh : Same H H1
  fh : Same F1 H1
  new : ∀ a, F1 a ≠ none → F a ≠ none ∨ H a = none
theorem Grow.refl {F H : Hp} (h : Same F H) : Grow F H F H := ⟨Same.refl _, Same.refl _, h, fun _ z => .inl z⟩
theorem Grow.trans {F H F1 H1 F2 H2 : Hp} (g : Grow F H F1 H1) (k : Grow F1 H1 F2 H2) : Grow F H F2 H2 :=
  ⟨g.ff.trans k.ff, g.hh.trans k.hh, k.fh, fun a z => by
    rcases k.new a z with z | z
    · exact g.new a z
    · exact .inr (g.hh.free z)⟩
theorem Grow.frozen {F H : Hp} {p : Addr} {o : HO} (fh : Same F H) (n : H p = none) : Grow F H (upd F p o) (upd H p o) where
  ff := fun b x q => by
    rw [upd_ne (ne_of_none (fh _ _ q) n)]
    exact q
  hh := fun b x q => by
    rw [upd_ne (ne_of_none q n)]
    exact q
  fh := fun b x q => by
    by_cases e : b = p
    · subst e
      rw [upd_same] at q ⊢
      exact q
    · rw [upd_ne e] at q ⊢
      exact fh _ _ q
  new := fun a z => by
    by_cases e : a = p
    · subst e
      exact .inr n
    · rw [upd_ne e] at z
      exact .inl z
theorem Grow.loose {F H : Hp} {p : Addr} {o : HO} (fh : Same F H) (n : H p = none) : Grow F H F (upd H p o) where
  ff := Same.refl _
  hh := fun b x q => by
    rw [upd_ne (ne_of_none q n)]
    exact q
  fh := fun b x q => by
    rw [upd_ne (ne_of_none (fh _ _ q) n)]
    exact fh _ _ q
  new := fun a z => .inl z
theorem SlOk.grow {K : PySem.W.Frag} {F H F1 H1 : Hp} {v : V} (g : Grow F H F1 H1) : ∀ {sl : Sl}, SlOk K F H v sl → SlOk K F1 H1 v sl
  | .un, _ => trivial
  | .ext d, h => Rep.same g.ff h
  | .al _ _, h => h
  | .lst a ds, h => by
    obtain ⟨rfl, n, vs, hv, hr⟩ := h
    refine ⟨rfl, ?_, vs, g.hh _ _ hv, hr.same g.ff⟩
    cases q : F1 a with
    | none => rfl
    | some o =>
      rcases g.new a (by rw [q]; simp) with z | z
      · exact absurd n z
      · rw [hv] at z
        cases z
  | .ar _ _, h => h
  | .reg d cs, h => by
    obtain ⟨rd, nd, hc⟩ := h
    refine ⟨Rep.same g.ff rd, nd, fun p hp => ?_⟩
    obtain ⟨n, o, ho, ok⟩ := hc p hp
    refine ⟨?_, o, g.hh _ _ ho, ok.same g.ff⟩
    cases q : F1 p.1 with
    | none => rfl
    | some o' =>
      rcases g.new p.1 (by rw [q]; simp) with z | z
      · exact absurd n z
      · rw [ho] at z
        cases z
section
variable {K : PySem.W.Frag} {e : Ent} {env : Env'} {T : Tmp} {F F1 : Hp} {σ : St} {H H1 : Hp}
theorem Holds.ownedL (h : Holds K e env T F σ H) : ∀ a ∈ ownedE env ++ ownedT T, F a = none ∧ ∃ o, H a = some o ∧ Loose o := fun a ha => by
  have key : ∀ v (sl : Sl), SlOk K F H v sl → a ∈ sl.owned → F a = none ∧ ∃ o, H a = some o ∧ Loose o := fun v sl ok hm => by
    cases sl with
    | un => cases hm
    | ext d => cases hm
    | al i b => cases hm
    | lst b ds =>
      obtain ⟨_, n, vs, hv, _⟩ := ok
      have z : a = b := List.mem_singleton.mp hm
      subst z
      exact ⟨n, _, hv, ⟨fun _ z => (nomatch z), fun _ _ z => (nomatch z)⟩⟩
    | ar i b => cases hm
    | reg b cs =>
      obtain ⟨_, _, hc⟩ := ok
      obtain ⟨p, hp, rfl⟩ := List.mem_map.mp hm
      obtain ⟨n, o, ho, ok⟩ := hc p hp
      exact ⟨n, o, ho, ok.loose⟩
  rcases List.mem_append.mp ha with ha | ha
  · obtain ⟨sl, hs, hm⟩ := List.mem_flatMap.mp ha
    obtain ⟨i, hi, rfl⟩ := List.getElem_of_mem hs
    rcases h.slots i _ (List.getElem?_eq_getElem hi) with z | ⟨v, _, ok⟩
    · rw [z] at hm
      cases hm
    · exact key v _ ok hm
  · obtain ⟨p, hp, hm⟩ := List.mem_flatMap.mp ha
    exact key p.1 p.2 (h.temps p hp) hm
theorem Holds.ownedH (h : Holds K e env T F σ H) : ∀ a ∈ ownedE env ++ ownedT T, F a = none ∧ ∃ o, H a = some o := fun a ha => by
  obtain ⟨n, o, ho, _⟩ := h.ownedL a ha
  exact ⟨n, o, ho⟩
theorem Holds.grow (h : Holds K e env T F σ H) (g : Grow F H F1 H1) : Holds K e env T F1 σ H1 where
  fh := g.fh
  len := h.len
  slots := fun i sl q => by
    rcases h.slots i sl q with z | ⟨v, hv, ok⟩
    · exact .inl z
    · exact .inr ⟨v, hv, ok.grow g⟩
  temps := fun p hp => (h.temps p hp).grow g
  nd := h.nd
  s1 := h.s1.trans g.ff
  s2 := fun a o q n => by
    obtain ⟨q1, q2⟩ := h.s2 a o q n
    refine ⟨g.hh _ _ q1, fun z => ?_⟩
    cases r : F1 a with
    | none => rfl
    | some x =>
      rcases g.new a (by rw [r]; simp) with y | y
      · exact absurd (q2 z) y
      · rw [q1] at y
        cases y
  s3 := h.s3
theorem Holds.push {v : V} {sl : Sl} (h : Holds K e env T F σ H) (g : Grow F H F1 H1) (ok : SlOk K F1 H1 v sl) (own : ∀ a ∈ sl.owned, H a = none) : Holds K e env ((v, sl) :: T) F1 σ H1 := by
  have h1 := h.grow g
  have old := h.ownedH
  have ndo : sl.owned.Nodup := ok.ndo
  have dis : ∀ a ∈ sl.owned, a ∉ ownedE env ++ ownedT T := fun a ha hb => by
    obtain ⟨_, vs, q⟩ := old a hb
    rw [own a ha] at q
    cases q
  refine ⟨h1.fh, h1.len, h1.slots, fun p hp => ?_, ?_, h1.s1, h1.s2, fun a ha => ?_⟩
  · rcases List.mem_cons.mp hp with rfl | hp
    · exact ok
    · exact h1.temps p hp
  · show (ownedE env ++ (sl.owned ++ ownedT T)).Nodup
    have z := h.nd
    rw [List.nodup_append] at z ⊢
    obtain ⟨z1, z2, z3⟩ := z
    refine ⟨z1, ?_, fun a ha b hb => ?_⟩
    · rw [List.nodup_append]
      exact ⟨ndo, z2, fun a ha b hb e => dis a ha (by rw [e]; exact List.mem_append_right _ hb)⟩
    · rcases List.mem_append.mp hb with hb | hb
      · exact fun e => dis b hb (by rw [← e]; exact List.mem_append_left _ ha)
      · exact z3 a ha b hb
  · have ha' : a ∈ ownedE env ++ (sl.owned ++ ownedT T) := ha
    rcases List.mem_append.mp ha' with hb | hb
    · exact h.s3 a (List.mem_append_left _ hb)
    · rcases List.mem_append.mp hb with hb | hb
      · have hn := own a hb
        cases q : e.H0 a with
        | none => exact .inr rfl
        | some o =>
          by_cases hA : a ∈ e.A0
          · exact .inl hA
          · rw [(h.s2 a o q hA).1] at hn
            cases hn
      · exact h.s3 a (List.mem_append_right _ hb)
theorem Holds.pushE {v : V} {d : D} (h : Holds K e env T F σ H) (ok : Rep K F d v) : Holds K e env ((v, .ext d) :: T) F σ H :=
  h.push (Grow.refl h.fh) ok fun a ha => by cases ha
theorem Holds.pushA {i : Nat} {a : Addr} (h : Holds K e env T F σ H) : Holds K e env ((.ref a, .al i a) :: T) F σ H :=
  h.push (Grow.refl h.fh) rfl fun a ha => by cases ha
theorem ownedT_sub {T T' : Tmp} (s : T'.Sublist T) : (ownedT T').Sublist (ownedT T) := by
  unfold ownedT
  induction s with
  | slnil => exact .slnil
  | cons a _ ih => exact ih.trans (List.sublist_append_right _ _)
  | cons_cons a _ ih => exact (List.Sublist.refl _).append ih
theorem Holds.sub {T' : Tmp} (h : Holds K e env T F σ H) (s : T'.Sublist T) : Holds K e env T' F σ H := by
  have so : (ownedT T').Sublist (ownedT T) := ownedT_sub s
  have sa : (ownedE env ++ ownedT T').Sublist (ownedE env ++ ownedT T) := (List.Sublist.refl _).append so
  exact ⟨h.fh, h.len, h.slots, fun p hp => h.temps p (s.subset hp), h.nd.sublist sa, h.s1, h.s2, fun a ha => h.s3 a (sa.subset ha)⟩
theorem Holds.pop {p : V × Sl} (h : Holds K e env (p :: T) F σ H) : Holds K e env T F σ H := h.sub (List.sublist_cons_self _ _)
theorem splitE {env : Env'} {i : Nat} {sl : Sl} (h : env[i]? = some sl) : ∃ A B, ownedE env = A ++ (sl.owned ++ B) ∧ ∀ sl', ownedE (env.set i sl') = A ++ (Sl.owned sl' ++ B) := by
  obtain ⟨hi, rfl⟩ := List.getElem?_eq_some_iff.mp h
  refine ⟨ownedE (env.take i), ownedE (env.drop (i + 1)), ?_, fun sl' => ?_⟩
  · have z : env = env.take i ++ env[i] :: env.drop (i + 1) := by
      rw [List.getElem_cons_drop, List.take_append_drop]
    have y := congrArg ownedE z
    rw [y]
    unfold ownedE
    rw [List.flatMap_append, List.flatMap_cons]
  · rw [List.set_eq_take_append_cons_drop, if_pos hi]
    unfold ownedE
    rw [List.flatMap_append, List.flatMap_cons]
theorem owned_two {env : Env'} {X : List Addr} {i j : Nat} {s1 s2 : Sl} {a : Addr} (nd : (ownedE env ++ X).Nodup) (h1 : env[i]? = some s1) (h2 : env[j]? = some s2) (m1 : a ∈ s1.owned) (m2 : a ∈ s2.owned) : i = j := by
  obtain ⟨A, B, e1, e2⟩ := splitE h1
  rcases Nat.lt_trichotomy i j with h | h | h
  · exfalso
    obtain ⟨hi, rfl⟩ := List.getElem?_eq_some_iff.mp h1
    obtain ⟨hj, rfl⟩ := List.getElem?_eq_some_iff.mp h2
    have z : env = env.take j ++ env[j] :: env.drop (j + 1) := by rw [List.getElem_cons_drop, List.take_append_drop]
    have y : ownedE env = ownedE (env.take j) ++ (env[j].owned ++ ownedE (env.drop (j + 1))) := by
      have y := congrArg ownedE z
      rw [y]
      unfold ownedE
      rw [List.flatMap_append, List.flatMap_cons]
    rw [y, List.append_assoc] at nd
    have q := (List.nodup_append.mp nd).2.2
    refine q a (List.mem_flatMap.mpr ⟨env[i], ?_, m1⟩) a (List.mem_append_left _ (List.mem_append_left _ m2)) rfl
    exact List.mem_iff_getElem?.mpr ⟨i, by rw [List.getElem?_take_of_lt h]; exact List.getElem?_eq_getElem hi⟩
  · exact h
  · exfalso
    obtain ⟨hi, rfl⟩ := List.getElem?_eq_some_iff.mp h1
    obtain ⟨hj, rfl⟩ := List.getElem?_eq_some_iff.mp h2
    have z : env = env.take i ++ env[i] :: env.drop (i + 1) := by rw [List.getElem_cons_drop, List.take_append_drop]
    have y : ownedE env = ownedE (env.take i) ++ (env[i].owned ++ ownedE (env.drop (i + 1))) := by
      have y := congrArg ownedE z
      rw [y]
      unfold ownedE
      rw [List.flatMap_append, List.flatMap_cons]
    rw [y, List.append_assoc] at nd
    have q := (List.nodup_append.mp nd).2.2
    refine q a (List.mem_flatMap.mpr ⟨env[j], ?_, m2⟩) a (List.mem_append_left _ (List.mem_append_left _ m1)) rfl
    exact List.mem_iff_getElem?.mpr ⟨j, by rw [List.getElem?_take_of_lt h]; exact List.getElem?_eq_getElem hj⟩
theorem mem_ownedE {env : Env'} {i : Nat} {sl : Sl} {a : Addr} (h : env[i]? = some sl) (m : a ∈ sl.owned) : a ∈ ownedE env :=
  List.mem_flatMap.mpr ⟨sl, List.mem_iff_getElem?.mpr ⟨i, h⟩, m⟩
theorem SlOk.write {v : V} {a : Addr} {o : HO} : ∀ {sl : Sl}, a ∉ sl.owned → SlOk K F H v sl → SlOk K F (upd H a o) v sl
  | .un, _, _ => trivial
  | .ext _, _, h => h
  | .al _ _, _, h => h
  | .lst b ds, n, h => by
    obtain ⟨rfl, q, vs, hv, hr⟩ := h
    refine ⟨rfl, q, vs, ?_, hr⟩
    have nb : b ≠ a := fun z => n (by rw [z]; exact List.mem_singleton.mpr rfl)
    rw [upd_ne nb]
    exact hv
  | .ar _ _, _, h => h
  | .reg b cs, n, h => by
    obtain ⟨rd, nd, hc⟩ := h
    refine ⟨rd, nd, fun p hp => ?_⟩
    obtain ⟨q, o', ho, ok⟩ := hc p hp
    have nb : p.1 ≠ a := fun z => n (by rw [← z]; exact List.mem_map.mpr ⟨p, hp, rfl⟩)
    exact ⟨q, o', by rw [upd_ne nb]; exact ho, ok⟩
theorem Holds.write {i : Nat} {a : Addr} {ds ds' : List D} {vs' : List V} (h : Holds K e env T F σ H) (hi : env[i]? = some (.lst a ds)) (hr : Reps K F ds' vs') : Holds K e (env.set i (.lst a ds')) T F σ (upd H a (.lst vs')) := by
  obtain ⟨A, B, e1, e2⟩ := splitE hi
  have own : ownedE (env.set i (.lst a ds')) = ownedE env := by
    rw [e1, e2]
    rfl
  have ma : a ∈ ownedE env := mem_ownedE hi (List.mem_singleton.mpr rfl)
  have mm : a ∈ ownedE env ++ ownedT T := List.mem_append_left _ ma
  obtain ⟨Fn, _⟩ := h.ownedH a mm
  refine ⟨fun b o q => ?_, by rw [List.length_set]; exact h.len, fun j sl q => ?_, fun p hp => (h.temps p hp).write fun m => ?_, by rw [own]; exact h.nd, h.s1, fun b o q n => ?_, by rw [own]; exact h.s3⟩
  · have nb : b ≠ a := fun z => by
      rw [z, Fn] at q
      cases q
    rw [upd_ne nb]
    exact h.fh b o q
  · rw [List.getElem?_set] at q
    split at q
    · rename_i ij
      subst ij
      split at q
      · cases q
        right
        rcases h.slots i _ hi with z | ⟨v, hv, rfl, q1, _⟩
        · cases z
        · exact ⟨_, hv, rfl, q1, vs', upd_same, hr⟩
      · cases q
    · rename_i ij
      rcases h.slots j sl q with z | ⟨v, hv, ok⟩
      · exact .inl z
      · refine .inr ⟨v, hv, ok.write fun m => ij (owned_two h.nd hi q (List.mem_singleton.mpr rfl) m)⟩
  · exact (List.nodup_append.mp h.nd).2.2 a ma a (List.mem_flatMap.mpr ⟨p, hp, m⟩) rfl
  · have nb : b ≠ a := fun z => by
      subst z
      rcases h.s3 b mm with y | y
      · exact n y
      · rw [q] at y
        cases y
    rw [upd_ne nb]
    exact h.s2 b o q n
theorem Holds.writeT {v : V} {a : Addr} {ds ds' : List D} {vs' : List V} (h : Holds K e env ((v, .lst a ds) :: T) F σ H) (hr : Reps K F ds' vs') : Holds K e env ((v, .lst a ds') :: T) F σ (upd H a (.lst vs')) := by
  have mT : a ∈ ownedT ((v, Sl.lst a ds) :: T) := List.mem_append_left _ (List.mem_singleton.mpr rfl)
  have mm : a ∈ ownedE env ++ ownedT ((v, Sl.lst a ds) :: T) := List.mem_append_right _ mT
  obtain ⟨Fn, _⟩ := h.ownedH a mm
  have z3 := (List.nodup_append.mp h.nd).2.2
  have zT : ([a] ++ ownedT T).Nodup := (List.nodup_append.mp h.nd).2.1
  refine ⟨fun b o q => ?_, h.len, fun j sl q => ?_, fun p hp => ?_, h.nd, h.s1, fun b o q n => ?_, h.s3⟩
  · have nb : b ≠ a := fun z => by
      rw [z, Fn] at q
      cases q
    rw [upd_ne nb]
    exact h.fh b o q
  · rcases h.slots j sl q with z | ⟨w, hw, ok⟩
    · exact .inl z
    · exact .inr ⟨w, hw, ok.write fun m => z3 a (mem_ownedE q m) a mT rfl⟩
  · rcases List.mem_cons.mp hp with rfl | hp
    · obtain ⟨rfl, q1, _⟩ := h.temps (v, .lst a ds) List.mem_cons_self
      exact ⟨rfl, q1, vs', upd_same, hr⟩
    · refine (h.temps p (List.mem_cons_of_mem _ hp)).write fun m => ?_
      exact (List.nodup_append.mp zT).2.2 a (List.mem_singleton.mpr rfl) a (List.mem_flatMap.mpr ⟨p, hp, m⟩) rfl
  · have nb : b ≠ a := fun z => by
      subst z
      rcases h.s3 b mm with y | y
      · exact n y
      · rw [q] at y
        cases y
    rw [upd_ne nb]
    exact h.s2 b o q n
theorem SlOk.freeze {v : V} {a : Addr} {vs : List V} (hF : F a = none) : ∀ {sl : Sl}, a ∉ sl.owned → SlOk K F H v sl → SlOk K (upd F a (.lst vs)) H v sl := by
  have sm : Same F (upd F a (.lst vs)) := fun b o q => by
    rw [upd_ne (ne_of_none q hF)]
    exact q
  intro sl n h
  cases sl with
  | un => trivial
  | ext d => exact Rep.same sm h
  | al i b => exact h
  | lst b ds =>
    obtain ⟨rfl, q, us, hv, hr⟩ := h
    refine ⟨rfl, ?_, us, hv, hr.same sm⟩
    have nb : b ≠ a := fun z => n (by rw [z]; exact List.mem_singleton.mpr rfl)
    rw [upd_ne nb]
    exact q
  | ar i b => exact h
  | reg b cs =>
    obtain ⟨rd, nd, hc⟩ := h
    refine ⟨Rep.same sm rd, nd, fun p hp => ?_⟩
    obtain ⟨q, o', ho, ok⟩ := hc p hp
    have nb : p.1 ≠ a := fun z => n (by rw [← z]; exact List.mem_map.mpr ⟨p, hp, rfl⟩)
    exact ⟨by rw [upd_ne nb]; exact q, o', ho, ok.same sm⟩
theorem Holds.freezeT {v : V} {a : Addr} {ds : List D} (h : Holds K e env ((v, .lst a ds) :: T) F σ H) : ∃ F1, Same F F1 ∧ Holds K e env ((v, .ext (.lst ds)) :: T) F1 σ H := by
  have mT : a ∈ ownedT ((v, Sl.lst a ds) :: T) := List.mem_append_left _ (List.mem_singleton.mpr rfl)
  have mm : a ∈ ownedE env ++ ownedT ((v, Sl.lst a ds) :: T) := List.mem_append_right _ mT
  obtain ⟨rfl, hF, vs, hv, hr⟩ := h.temps (v, .lst a ds) List.mem_cons_self
  have z3 := (List.nodup_append.mp h.nd).2.2
  have zT : ([a] ++ ownedT T).Nodup := (List.nodup_append.mp h.nd).2.1
  have hF : F a = none := hF
  have sm : Same F (upd F a (.lst vs)) := fun b o q => by
    rw [upd_ne (ne_of_none q hF)]
    exact q
  have sub : (ownedE env ++ ownedT ((V.ref a, Sl.ext (.lst ds)) :: T)).Sublist (ownedE env ++ ownedT ((V.ref a, Sl.lst a ds) :: T)) :=
    (List.Sublist.refl _).append (List.sublist_append_right [a] (ownedT T))
  refine ⟨upd F a (.lst vs), sm, fun b o q => ?_, h.len, fun j sl q => ?_, fun p hp => ?_, h.nd.sublist sub, h.s1.trans sm, fun b o q n => ?_, fun b hb => h.s3 b (sub.subset hb)⟩
  · by_cases nb : b = a
    · rw [nb, upd_same] at q
      rw [nb, hv]
      exact q
    · rw [upd_ne nb] at q
      exact h.fh b o q
  · rcases h.slots j sl q with z | ⟨w, hw, ok⟩
    · exact .inl z
    · exact .inr ⟨w, hw, ok.freeze hF fun m => z3 a (mem_ownedE q m) a mT rfl⟩
  · rcases List.mem_cons.mp hp with rfl | hp
    · exact ⟨a, vs, rfl, upd_same, hr.same sm⟩
    · refine (h.temps p (List.mem_cons_of_mem _ hp)).freeze hF fun m => ?_
      exact (List.nodup_append.mp zT).2.2 a (List.mem_singleton.mpr rfl) a (List.mem_flatMap.mpr ⟨p, hp, m⟩) rfl
  · have nb : b ≠ a := fun z => by
      subst z
      rcases h.s3 b mm with y | y
      · exact n y
      · rw [q] at y
        cases y
    rw [upd_ne nb]
    exact h.s2 b o q n
theorem Holds.unset (h : Holds K e env T F σ H) (i : Nat) : Holds K e (env.set i .un) T F σ H := by
  by_cases hl : i < env.length
  · obtain ⟨A, B, e1, e2⟩ := splitE (List.getElem?_eq_getElem hl)
    have sub : (ownedE (env.set i .un) ++ ownedT T).Sublist (ownedE env ++ ownedT T) := by
      rw [e2, e1]
      exact ((List.Sublist.refl _).append (List.sublist_append_right _ _)).append (List.Sublist.refl _)
    refine ⟨h.fh, by rw [List.length_set]; exact h.len, fun j sl q => ?_, h.temps, h.nd.sublist sub, h.s1, h.s2, fun a ha => h.s3 a (sub.subset ha)⟩
    rw [List.getElem?_set] at q
    split at q
    · cases q
      exact .inl rfl
    · exact h.slots j sl q
  · rw [List.set_eq_of_length_le (by omega)]
    exact h
def Sl.plain : Sl → Prop
  | .al _ _ => False
  | .ar _ _ => False
  | _ => True
theorem Holds.assign {v : V} {sl : Sl} (h : Holds K e env ((v, sl) :: T) F σ H) (i : Nat) (hp : sl.plain) : Holds K e (env.set i sl) T F (σ.set i (some v)) H := by
  by_cases hl : i < env.length
  · obtain ⟨A, B, e1, e2⟩ := splitE (List.getElem?_eq_getElem hl)
    have sub : (A ++ B ++ (sl.owned ++ ownedT T)).Sublist (ownedE env ++ ownedT ((v, sl) :: T)) := by
      rw [e1]
      exact ((List.Sublist.refl _).append (List.sublist_append_right _ _)).append (List.Sublist.refl _)
    have perm : (A ++ B ++ (sl.owned ++ ownedT T)).Perm (ownedE (env.set i sl) ++ ownedT T) := by
      rw [e2, List.append_assoc, List.append_assoc]
      refine List.Perm.append_left A ?_
      rw [List.append_assoc, ← List.append_assoc, ← List.append_assoc]
      exact List.Perm.append_right _ List.perm_append_comm
    refine ⟨h.fh, by rw [List.length_set, List.length_set]; exact h.len, fun j s q => ?_, fun p hp => h.temps p (List.mem_cons_of_mem _ hp), perm.nodup (h.nd.sublist sub), h.s1, h.s2, fun a ha => h.s3 a (sub.subset (perm.mem_iff.mpr ha))⟩
    rw [List.getElem?_set] at q
    rw [List.getElem?_set]
    split at q
    · rename_i ij
      rw [if_pos ij, if_pos (by rw [← h.len]; exact hl)]
      cases q
      exact .inr ⟨v, rfl, h.temps (v, sl) List.mem_cons_self⟩
    · rename_i ij
      rw [if_neg ij]
      exact h.slots j s q
  · rw [List.set_eq_of_length_le (by omega), List.set_eq_of_length_le (by rw [← h.len]; omega)]
    exact h.pop
theorem Holds.take {i : Nat} {sl : Sl} {v : V} (h : Holds K e env T F σ H) (hi : env[i]? = some sl) (hv : σ[i]? = some (some v)) : Holds K e (env.set i .un) ((v, sl) :: T) F σ H := by
  obtain ⟨A, B, e1, e2⟩ := splitE hi
  have perm : (ownedE env ++ ownedT T).Perm (ownedE (env.set i .un) ++ ownedT ((v, sl) :: T)) := by
    rw [e1, e2]
    show (A ++ (sl.owned ++ B) ++ ownedT T).Perm (A ++ ([] ++ B) ++ (sl.owned ++ ownedT T))
    rw [List.append_assoc, List.append_assoc, List.nil_append, List.append_assoc]
    refine List.Perm.append_left A ?_
    rw [← List.append_assoc, ← List.append_assoc]
    exact List.Perm.append_right _ List.perm_append_comm
  refine ⟨h.fh, by rw [List.length_set]; exact h.len, (h.unset i).slots, fun p hp => ?_, perm.nodup h.nd, h.s1, h.s2, fun a ha => h.s3 a (perm.mem_iff.mpr ha)⟩
  rcases List.mem_cons.mp hp with rfl | hp
  · rcases h.slots i sl hi with z | ⟨w, hw, ok⟩
    · subst z
      trivial
    · rw [hv] at hw
      cases hw
      exact ok
  · exact h.temps p hp
theorem Holds.freeze {i : Nat} {a : Addr} {ds : List D} (h : Holds K e env T F σ H) (hi : env[i]? = some (.lst a ds)) : ∃ F1, Same F F1 ∧ Holds K e (env.set i (.ext (.lst ds))) T F1 σ H := by
  rcases h.slots i _ hi with z | ⟨v, hv, ok⟩
  · cases z
  · obtain ⟨F1, sm, h1⟩ := (h.take hi hv).freezeT
    have h2 := h1.assign i trivial
    rw [List.set_set] at h2
    have z : σ.set i (some v) = σ := by
      obtain ⟨hl, e⟩ := List.getElem?_eq_some_iff.mp hv
      rw [← e]
      exact List.set_getElem_self hl
    rw [z] at h2
    exact ⟨F1, sm, h2⟩
theorem Holds.bare (h : Holds K e env T F σ H) : Holds K e env [] F σ H := h.sub (List.nil_sublist _)
end
end HD
namespace HD
open PySem PySem.Spec PyProof.Rows L2
structure FnG (P : Program) (w : World) (K : PySem.W.Frag) (mg : Str → Option Value) (base : Heap) (C : CXT) (k : Nat) (f : Addr) (fd : FuncData) (ps : List Str) (sp : Sp) : Prop where
  fit : ∀ vs H Q E, sp vs H Q E → vs.length = ps.length
  go : ∀ (A : Around) (out : List Env) (t : Shared) (H : Hp) (args : Args) (us : List Value) (vs : List V) (Q : VK) (E : XK), A.guards = some [] → Room k A → Env0 P w K mg base A out t H → BindsTo t fd args (ps.zip us) → Vals vs us → sp vs H Q E →
    codeAny (model P w) A (.call (.ref f) args) (CR C out P w H t Q E) t
section
variable {P : Program} {w : World} {K : PySem.W.Frag} {mg : Str → Option Value} {base : Heap} {C : CXT} {k : Nat} {f : Addr} {fd : FuncData} {N ps : List Str} {sp : Sp} {x qual : Str} {st : Stmt}
theorem fnG_of (hF : Fun K x qual st f fd) (S : FnScope N ps (defScope st)) (fit : ∀ vs H Q E, sp vs H Q E → vs.length = ps.length)
    (body : ∀ (cd : Value) (A : Around) (out : List Env) (t : Shared) (H : Hp) (vs : List V) (Q : VK) (E : XK), A.guards = some [] → Room k (A.deeper (envOfC qual (defScope st) t.heap.objs.size f cd)) → sp vs H Q E →
      ∃ tt, PSs (cxOf C P w K mg base N qual (defScope st) f cd A out t H E) (defBody st) tt ∧ tt { nx := fun _ H' => Q .non H', rt := Q } (L2.start N vs) H) : FnG P w K mg base C (k + 1) f fd ps sp := by
  obtain ⟨oc, od, kV, doc, pm, an, cd, ct, osl, rfl, at_f, code⟩ := hF.ex
  refine ⟨fit, fun A out t H args us vs Q E gd room e0 bnd rel hsp => ?_⟩
  have inK : K.In t.heap := e0.mod.kin.keeps fun b o q => (e0.bs b o q).1
  have noLim : t.heap.NoLimit := e0.mod.nolimit.keeps fun b o q => (e0.bs b o q).1
  refine codeAny_call_function room.depth (inK _ _ at_f) rfl S.co S.gen rfl (PySem.W.codeRec_of inK code) (bnd _ _ _ _ ?_)
  refine wpAny_newFunctionEnv_cells S.kind (fun y hy => ?_) fun env he t1 call => ?_
  · obtain ⟨nm, v⟩ := y
    rcases S.par nm (List.of_mem_zip hy).1 with z | z
    · exact Or.inl z
    · exact Or.inr ⟨z, PySem.W.cellsFrom_some _ _ _ (.inl z)⟩
  · subst he
    refine ⟨noLim.keeps call.toInCall.keep, codeAny_func ?_⟩
    obtain ⟨tt, hb, hq⟩ := body cd A out t H vs Q E gd (room.deeper _) hsp
    have J : L2.Inv (cxOf C P w K mg base N qual (defScope st) f cd A out t H E) [] (L2.start N vs) H t1 := inv_start S room.hd e0 (fit _ _ _ _ hsp) rel call
    refine wpAny_mono (hb.run [] t1 (L2.start N vs) H _ J hq) (fun fl t2 h2 => ?_) fun e t2 h2 => h2
    cases fl with
    | ret u =>
      obtain ⟨v, σ2, H2, J2, rv, q⟩ := h2
      exact ⟨v, H2, J2.os, J2.bare, J2.base, J2.hok, rv, q⟩
    | next =>
      obtain ⟨σ2, H2, J2, q⟩ := h2
      exact ⟨V.non, H2, J2.os, J2.bare, J2.base, J2.hok, rfl, q⟩
    | brk => exact h2.elim fun _ z => z.elim fun _ z => z.2.elim
    | cont => exact h2.elim fun _ z => z.elim fun _ z => z.2.elim
end
section
variable {X : Cx} {C : CXT} {k : Nat} {f : Addr} {fd : FuncData} {ps : List Str} {sp : Sp} {E : L2.St → XK}
theorem runG {pins : List (Addr × Obj)} {σ : L2.St} {H : Hp} {t : Shared} {Q : VK} {us : List Value} {vs : List V} (F : FnG X.prog X.w X.K X.mg X.base C k f fd ps sp) (gd : X.A.guards = some []) (room : Room k X.A) (bnd : Binds X.K fd ps []) (pass : PassesAt C X σ (E σ))
    (J : L2.Inv X pins σ H t) (rel : Vals vs us) (h : sp vs H Q (E σ)) : wpAny (model X.prog X.w) X.A (call (.ref f) us) (EP X pins σ Q) X.xe t := by
  have l1 : us.length = ps.length := by rw [← rel.length]; exact F.fit _ _ _ _ h
  have b := bnd t us J.kIn (by rw [List.append_nil]; exact l1)
  rw [List.append_nil] at b
  refine wpAny_call (codeAny_mono (F.go X.A X.stack t H ⟨us, []⟩ us vs Q (E σ) gd room J.env0 b rel h) fun res t2 hres => ?_)
  cases res with
  | error e => exact pass pins H t e t2 J hres
  | ok fl =>
    cases fl with
    | ret u => exact J.after hres
    | next => exact hres.elim
    | brk => exact hres.elim
    | cont => exact hres.elim
end
theorem law_callG {P : Program} {w : World} {K : PySem.W.Frag} {mg mb : Str → Option Value} {C : CXT} {k : Nat} {fa a : Addr} {fd : FuncData} {x : Str} {sp : Sp} {t1 : Shared} {vs : List Value} {ns : List Int}
    (KX : K.In t1.heap) (hns : t1.heap.Ns mainGlobals mg) (hb : t1.heap.Ns builtinsNs mb) (hbb : ∀ y : Str, y ≠ "__name__" → mb y = bootBuiltins y) (lim : t1.heap.NoLimit) (hg : t1.gens = #[])
    (ha : t1.heap.get? a = some { cls := .type "list", data := .seq vs.toArray }) (hi : IntsAre vs ns) (hl : ns.length ≤ sizeLine) (room : Room k callerA)
    (F : ∀ base : Heap, K.In base → base.Ns mainGlobals mg → FnG P w K mg base C k fa fd [x] sp) (bnd : ∀ (s : Shared) (u : Value), BindsTo s fd ⟨[u], []⟩ [(x, u)])
    (hsp : ∀ H : Hp, L2.Only H → SqL K H a (ns.map V.int) → sp [.ref a] H (fun v _ => v = .bl true) fun _ _ _ => False)
    (noX : ∀ H e s', C [] H t1 (fun _ _ _ => False) e s' → False) :
    codeAny (model P w) callerA (.call (.ref fa) ⟨[.ref a], []⟩) (fun r s' => r = .ok (.ret (.bool true)) ∧ OldK t1.heap s'.heap ∧ s'.os = t1.os ∧ AllBare s'.gens) t1 := by
  have rv := vals_ints hi
  have lenV := hi.length
  have core : ∀ H : Hp, L2.Only H → SqL K H a (ns.map V.int) → HOk P w H t1.heap → (∀ b, H b ≠ none → b = a) → (H a ≠ none → K.lookup a = none) →
      codeAny (model P w) callerA (.call (.ref fa) ⟨[.ref a], []⟩) (fun r s' => r = .ok (.ret (.bool true)) ∧ OldK t1.heap s'.heap ∧ s'.os = t1.os ∧ AllBare s'.gens) t1 := by
    intro H only hS hok hA hK
    have up : ∀ {b : Addr} {o : Obj}, t1.heap.get? b = some o → H b = none → (hidT t1.heap H).get? b = some o := fun e n => hidT_get e n
    have notA : ∀ {b : Addr} {u : HO}, H b = some u → b = a := fun {b u} q => hA b (by rw [q]; simp)
    have dicts : ∀ {b : Addr} {o : Obj} {es : Array DictEntry} {ep : Nat}, t1.heap.get? b = some o → o.data = .dict es ep → H b = none := fun {b o es ep} e d => by
      cases q : H b with
      | none => rfl
      | some u =>
        have e1 := notA q
        subst e1
        rw [ha] at e
        cases e
        cases (show Data.seq vs.toArray _ = Data.dict es ep from d)
    have spaces : ∀ {b : Addr} {m : Str → Option Value}, t1.heap.Ns b m → (hidT t1.heap H).Ns b m := fun {b m} ⟨o, es, ep, e, d, r⟩ => ⟨o, es, ep, up e (dicts e d), d, r⟩
    have inB : K.In (hidT t1.heap H) := fun b o e => up (KX b o e) (by
      cases q : H b with
      | none => rfl
      | some u =>
        have e1 := notA q
        subst e1
        rw [hK (by rw [q]; simp)] at e
        cases e)
    have md : Mod K mg (hidT t1.heap H) := ⟨inB, spaces hns, ⟨mb, spaces hb, hbb⟩, let ⟨mc, h1, h2⟩ := lim; ⟨mc, spaces h1, h2⟩⟩
    have e0 : Env0 P w K mg (hidT t1.heap H) callerA [] t1 H := ⟨rfl, md, fun b o e => of_hidT e, Nat.le_of_eq (hidT_size _ _), True.intro, fun b hb => absurd (show b ∈ ([] : List Addr) from hb) (by simp), hok, .of_eq hg⟩
    refine codeAny_mono ((F _ inB (spaces hns)).go callerA [] t1 H ⟨[.ref a], []⟩ [.ref a] [.ref a] _ _ rfl room e0 (bnd t1 (.ref a)) (.cons rfl .nil) (hsp H only hS)) fun res t2 h => ?_
    cases res with
    | error e => exact (noX H e t2 h).elim
    | ok fl =>
      cases fl with
      | next => exact h.elim
      | brk => exact h.elim
      | cont => exact h.elim
      | ret u =>
        obtain ⟨v, H2, os, bare, un, hok2, r2, q⟩ := h
        cases (show v = .bl true from q)
        cases (show u = Value.bool true from r2)
        refine ⟨rfl, OldK.of_keep fun b o e => ?_, os, bare⟩
        cases q : H b with
        | none => exact un.keep b o e q (by intro z; exact absurd (show b ∈ ([] : List Addr) from z) (by simp)) (by simp)
        | some u =>
          rcases only b with z | ⟨ob, ys, z⟩
          · rw [q] at z; cases z
          · obtain ⟨y1, _⟩ := hok b _ z
            obtain ⟨y2, _⟩ := hok2 b _ (un.frzs b ob _ z)
            rw [e] at y1
            cases y1
            exact y2
  cases hk : K.lookup a with
  | some o =>
    have e := KX a o hk
    rw [ha] at e
    cases e
    exact core (fun _ => none) (fun _ => .inl rfl) (.inr ⟨_, vs.toArray, _, hk, rfl, rfl, rfl, by rw [List.size_toArray, lenV]; exact hl, by simpa using rv⟩) (fun b u z => by cases (show (none : Option HO) = some u from z)) (fun b z => absurd rfl z) fun z => absurd rfl z
  | none =>
    let o0 : Obj := { cls := .type "list", data := .seq vs.toArray }
    refine core (fun b => if b = a then some (.frz o0 (.lst (ns.map V.int))) else none) (fun b => ?_) (.inl (.inr ⟨o0, if_pos rfl⟩)) (fun b u z => ?_) (fun b z => ?_) fun _ => hk
    · by_cases q : b = a
      · exact .inr ⟨_, _, if_pos q⟩
      · exact .inl (if_neg q)
    · by_cases q : b = a
      · cases (if_pos q).symm.trans z
        subst q
        exact ⟨ha, by rw [List.length_map]; exact hl, vs, _, rv, ha⟩
      · cases (if_neg q).symm.trans z
    · by_cases q : b = a
      · exact q
      · exact absurd (if_neg q) z
end HD
namespace HD
open PySem L2
theorem ownedT_perm {T T' : Tmp} (p : T.Perm T') : (ownedT T).Perm (ownedT T') := by
  unfold ownedT
  induction p with
  | nil => exact .refl _
  | cons x _ ih => exact ih.append_left _
  | swap x y l =>
    rw [List.flatMap_cons, List.flatMap_cons, List.flatMap_cons, List.flatMap_cons, ← List.append_assoc, ← List.append_assoc]
    exact List.perm_append_comm.append_right _
  | trans _ _ i1 i2 => exact i1.trans i2
theorem Holds.perm {K : PySem.W.Frag} {e : Ent} {env : Env'} {T T' : Tmp} {F : Hp} {σ : St} {H : Hp} (h : Holds K e env T F σ H) (p : T.Perm T') : Holds K e env T' F σ H :=
  ⟨h.fh, h.len, h.slots, fun x hx => h.temps x (p.mem_iff.mpr hx), ((ownedT_perm p).append_left _).nodup h.nd, h.s1, h.s2, fun a ha => h.s3 a (((ownedT_perm p).append_left _).mem_iff.mpr ha)⟩
abbrev DX := Str → Env' → Prop
abbrev DT := DX → Env' → (Sl → Env' → Prop) → Prop
abbrev DTT := DX → Env' → (Bool → Env' → Prop) → Prop
abbrev DTA := DX → Env' → (List Sl → Env' → Prop) → Prop
def Link (K : PySem.W.Frag) (e : Ent) (W : WX) (Ex : DX) : Prop := ∀ c env F σ H, Holds K e env [] F σ H → Ex c env → W (clsV K c) none σ H
def Im (K : PySem.W.Frag) (W : WX) (te : TE) (t : DT) : Prop :=
  ∀ (e : Ent) (Ex : DX), Link K e W Ex → ∀ (env : Env') (T : Tmp) (F : Hp) (σ : St) (H : Hp) (Q : Sl → Env' → Prop) (R : VK),
    Holds K e env T F σ H → t Ex env Q → (∀ v H' F' env' sl, Holds K e env' ((v, sl) :: T) F' σ H' → Q sl env' → R v H') → te σ H R
def ImT (K : PySem.W.Frag) (W : WX) (tt : TT) (t : DTT) : Prop :=
  ∀ (e : Ent) (Ex : DX), Link K e W Ex → ∀ (env : Env') (T : Tmp) (F : Hp) (σ : St) (H : Hp) (Q : Bool → Env' → Prop) (R : Bool → Hp → Prop),
    Holds K e env T F σ H → t Ex env Q → (∀ b H' F' env', Holds K e env' T F' σ H' → Q b env' → R b H') → tt σ H R
def ImA (K : PySem.W.Frag) (W : WX) (ta : TA) (t : DTA) : Prop :=
  ∀ (e : Ent) (Ex : DX), Link K e W Ex → ∀ (env : Env') (T : Tmp) (F : Hp) (σ : St) (H : Hp) (Q : List Sl → Env' → Prop) (R : List V → Hp → Prop),
    Holds K e env T F σ H → t Ex env Q → (∀ vs H' F' env' xs, vs.length = xs.length → Holds K e env' (vs.zip xs ++ T) F' σ H' → Q xs env' → R vs H') → ta σ H R
structure GG where
  P : Program
  w : World
  K : PySem.W.Frag
  mg : Str → Option Value
  base : Heap
structure SC where
  sc : Scope
  own : Str → Bool
  top : Bool
abbrev fnS (sc : Scope) : SC := ⟨sc, fun _ => true, true⟩
def relab (scope sc : Scope) : Scope :=
  { scope with names := scope.names.map fun (n, k) => if (k == .free && sc.kind == .function && sc.names.lookup n == some .cell) then (n, .cell) else (n, k) }
abbrev lcS (scope : Scope) (sc : SC) : SC := ⟨relab scope sc.sc, fun x => scope.names.lookup x == some .cell, false⟩
structure Sit (G : GG) (N : List Str) (sc : SC) (W : WX) (k : Nat) (X : Cx) : Prop where
  prog : X.prog = G.P
  w : X.w = G.w
  K : X.K = G.K
  mg : X.mg = G.mg
  base : X.base = G.base
  nms : X.N = N
  nd : N.Nodup
  scp : X.env.scope = sc.sc
  calm : X.calm = true
  room : Room k X.A
  tk : Takes X W
  fn : ∀ x, sc.own x = true → X.fn x = true
  own : PassesOwn (model X.prog X.w) X.A X.env X.xe
  stk : sc.top = true → X.stack = X.env :: X.outer ∧ X.env.frame = some X.env.locals
  gd : X.A.guards = some []
structure DE (G : GG) (N : List Str) (sc : SC) (k : Nat) (e : Expr) (t : DT) : Prop where
  ex : ∀ W : WX, ∃ te, (∀ X, Sit G N sc W k X → PE X e te) ∧ Im G.K W te t
structure DTe (G : GG) (N : List Str) (sc : SC) (k : Nat) (e : Expr) (t : DTT) : Prop where
  ex : ∀ W : WX, ∃ te, (∀ X, Sit G N sc W k X → PT X e te) ∧ ImT G.K W te t
structure DAs (G : GG) (N : List Str) (sc : SC) (k : Nat) (es : List Expr) (t : DTA) : Prop where
  ex : ∀ W : WX, ∃ te, (∀ X, Sit G N sc W k X → PA X es te) ∧ ImA G.K W te t
section
variable {G : GG} {N : List Str} {sc : SC} {k : Nat}
def dC (d : D) : DT := fun _ env Q => Q (.ext d) env
def dVar (i : Nat) : DT := fun _ env Q => match env[i]? with
  | some (.ext d) => Q (.ext d) env
  | some (.lst a _) => Q (.al i a) env
  | _ => False
theorem im_const {K : PySem.W.Frag} {W : WX} {v : V} {d : D} (h : ∀ F, Rep K F d v) : Im K W (tC v) (dC d) :=
  fun e Ex _ env T F σ H Q R hh ht hR => hR v H F env (.ext d) (hh.pushE (h F)) ht
theorem im_var {K : PySem.W.Frag} {W : WX} (i : Nat) : Im K W (tVar i) (dVar i) := fun e Ex _ env T F σ H Q R hh ht hR => by
  unfold dVar at ht
  split at ht
  · rename_i d q
    rcases hh.slots i _ q with z | ⟨v, hv, ok⟩
    · cases z
    · exact ⟨v, hv, hR v H F env (.ext d) (hh.pushE ok) ht⟩
  · rename_i a ds q
    rcases hh.slots i _ q with z | ⟨v, hv, ok⟩
    · cases z
    · obtain ⟨rfl, _⟩ := ok
      exact ⟨_, hv, hR _ H F env (.al i a) hh.pushA ht⟩
  · exact ht.elim
theorem Sit.vis {W : WX} {X : Cx} {x : Str} (S : Sit G N sc W k X) (h : Vis sc.sc x) : Vis X.env.scope x := by rw [S.scp]; exact h
theorem de_var (i : Nat) {x : Str} {pos : Pos} (hN : N[i]? = some x := by rfl) (hv : Vis sc.sc x := by first | exact Or.inl rfl | exact Or.inr (Or.inl rfl) | exact Or.inr (Or.inr rfl))
    (hd : (x == ("__debug__" : Str)) = false := by decide) (hcd : (x == ("__classdict__" : Str)) = false := by decide) : DE G N sc k (.Name x pos) (dVar i) :=
  ⟨fun W => ⟨tVar i, fun X S => pe_var (by rw [S.nms]; exact hN) (S.vis hv) hd hcd, im_var i⟩⟩
theorem de_int {i j pos} : DE G N sc k (.Constant (.int i) j pos) (dC (.int i)) := ⟨fun _ => ⟨_, fun _ _ => pe_int, im_const fun _ => rfl⟩⟩
theorem de_bl {i j pos} : DE G N sc k (.Constant (.bool i) j pos) (dC (.bl i)) := ⟨fun _ => ⟨_, fun _ _ => pe_bl, im_const fun _ => rfl⟩⟩
theorem de_non {j pos} : DE G N sc k (.Constant .none j pos) (dC .non) := ⟨fun _ => ⟨_, fun _ _ => pe_non, im_const fun _ => rfl⟩⟩
theorem de_str {i j pos} : DE G N sc k (.Constant (.str i) j pos) (dC (.str i)) := ⟨fun _ => ⟨_, fun _ _ => pe_str, im_const fun _ => rfl⟩⟩
def GlS (sc : SC) (x : Str) : Prop := sc.sc.names.lookup x = some .globalImplicit
theorem Sit.gl {W : WX} {X : Cx} {x : Str} (S : Sit G N sc W k X) (h : GlS sc x) : Gl X x := by
  show X.env.scope.names.lookup x = some .globalImplicit
  rw [S.scp]
  exact h
theorem de_glob {x : Str} {v : V} {u : Value} {d : D} {pos : Pos} (hg : GlS sc x) (hm : G.mg x = some u) (r : RelV v u) (hr : ∀ F, Rep G.K F d v) (hd : (x == ("__debug__" : Str)) = false := by decide) : DE G N sc k (.Name x pos) (dC d) :=
  ⟨fun _ => ⟨tC v, fun X S => pe_glob (S.gl hg) (by rw [S.mg]; exact hm) r hd, im_const hr⟩⟩
theorem de_bltn {x : Str} {v : V} {u : Value} {pos : Pos} (hg : GlS sc x) (hm : G.mg x = none) (hv : bootBuiltins x = some u) (r : RelV v u) (hn : x ≠ "__name__" := by decide) (hd : (x == ("__debug__" : Str)) = false := by decide) : DE G N sc k (.Name x pos) (dC (.val v)) :=
  ⟨fun _ => ⟨tC v, fun X S => pe_bltn (S.gl hg) (by rw [S.mg]; exact hm) hv r hn hd, im_const fun _ => rfl⟩⟩
def dNil : DTA := fun _ env Q => Q [] env
def dCons (t : DT) (u : DTA) : DTA := fun Ex env Q => t Ex env fun x env1 => u Ex env1 fun xs env2 => Q (x :: xs) env2
theorem im_nil {K : PySem.W.Frag} {W : WX} : ImA K W tNil dNil := fun e Ex _ env T F σ H Q R hh ht hR => hR [] H F env [] rfl hh ht
theorem im_cons {K : PySem.W.Frag} {W : WX} {te : TE} {ta : TA} {t : DT} {u : DTA} (h1 : Im K W te t) (h2 : ImA K W ta u) : ImA K W (tCons te ta) (dCons t u) := fun e Ex hl env T F σ H Q R hh ht hR => by
  refine h1 e Ex hl env T F σ H _ _ hh ht fun v H1 F1 env1 sl hh1 q1 => ?_
  refine h2 e Ex hl env1 _ F1 σ H1 _ _ hh1 q1 fun vs H2 F2 env2 xs le hh2 q2 => ?_
  exact hR (v :: vs) H2 F2 env2 (sl :: xs) (by rw [List.length_cons, List.length_cons, le]) (hh2.perm List.perm_middle) q2
theorem da_nil : DAs G N sc k [] dNil := ⟨fun _ => ⟨tNil, fun _ _ => pa_nil, im_nil⟩⟩
abbrev NoStar (e : Expr) (es : List Expr) : Prop := ∀ env, starEach (e :: es) env = (false, eval e env) :: starEach es env
theorem da_cons {e : Expr} {es : List Expr} {t : DT} {u : DTA} (h1 : DE G N sc k e t) (h2 : DAs G N sc k es u) (hs : NoStar e es := by intro _; rfl) : DAs G N sc k (e :: es) (dCons t u) :=
  ⟨fun W => by
    obtain ⟨te, p1, i1⟩ := h1.ex W
    obtain ⟨ta, p2, i2⟩ := h2.ex W
    exact ⟨tCons te ta, fun X S => pa_cons (p1 X S) (p2 X S) (hs _), im_cons i1 i2⟩⟩
theorem cellOf_mem : ∀ {cs : List (Addr × OC)} {b : Addr} {oc : OC}, cellOf cs b = some oc → (b, oc) ∈ cs
  | [], _, _, h => nomatch h
  | p :: r, b, oc, h => by
    unfold cellOf at h
    split at h
    · rename_i e
      cases h
      rw [← e]
      exact List.mem_cons_self
    · exact List.mem_cons_of_mem _ (cellOf_mem h)
theorem Holds.cell {K : PySem.W.Frag} {e : Ent} {env : Env'} {T : Tmp} {F : Hp} {σ : St} {H : Hp} {i : Nat} {d : D} {cs : List (Addr × OC)} {b : Addr} {oc : OC} (h : Holds K e env T F σ H) (hi : env[i]? = some (.reg d cs)) (hc : cellOf cs b = some oc) : F b = none ∧ ∃ o, H b = some o ∧ OC.ok K F b oc o := by
  rcases h.slots i _ hi with z | ⟨v, _, _, _, ok⟩
  · cases z
  · exact ok (b, oc) (cellOf_mem hc)
def RepT (K : PySem.W.Frag) (F H : Hp) (d : D) (v : V) : Prop := Rep K F d v ∨ ∃ a ds vs, d = .lst ds ∧ v = .ref a ∧ H a = some (.lst vs) ∧ Reps K F ds vs
def RepTs (K : PySem.W.Frag) (F H : Hp) : List D → List V → Prop
  | [], vs => vs = []
  | d :: ds, vs => ∃ v r, vs = v :: r ∧ RepT K F H d v ∧ RepTs K F H ds r
def wd (env : Env') (sl : Sl) (k : D → Prop) : Prop := match sl with
  | .ext d => k d
  | .lst _ ds => k (.lst ds)
  | .al i a => match env[i]? with
    | some (.lst b ds) => b = a ∧ k (.lst ds)
    | _ => False
  | .un => False
  | .reg _ _ => False
  | .ar i b => match env[i]? with
    | some (.reg _ cs) => match cellOf cs b with
      | some (.lst ds) => k (.lst ds)
      | _ => False
    | _ => False
def wds (env : Env') : List Sl → (List D → Prop) → Prop
  | [], k => k []
  | s :: ss, k => wd env s fun d => wds env ss fun ds => k (d :: ds)
theorem Holds.wd {K : PySem.W.Frag} {e : Ent} {env : Env'} {T : Tmp} {F : Hp} {σ : St} {H : Hp} {v : V} {sl : Sl} {q : D → Prop} (h : Holds K e env T F σ H) (m : (v, sl) ∈ T) (w : HD.wd env sl q) : ∃ d, RepT K F H d v ∧ q d := by
  have ok := h.temps _ m
  cases sl with
  | un => exact w.elim
  | reg _ _ => exact w.elim
  | ar i b =>
    have w' : (match env[i]? with | some (.reg _ cs) => (match cellOf cs b with | some (.lst ds) => q (.lst ds) | _ => False) | _ => False) := w
    split at w'
    · rename_i d cs hb
      split at w'
      · rename_i ds hc
        obtain ⟨_, o, ho, vs, rfl, hr⟩ := h.cell hb hc
        exact ⟨.lst ds, .inr ⟨b, ds, vs, rfl, ok, ho, hr⟩, w'⟩
      · exact w'.elim
    · exact w'.elim
  | ext d => exact ⟨d, .inl ok, w⟩
  | lst a ds =>
    obtain ⟨e1, _, vs, hv, hr⟩ := ok
    exact ⟨.lst ds, .inr ⟨a, ds, vs, rfl, e1, hv, hr⟩, w⟩
  | al i a =>
    have w' : (match env[i]? with | some (.lst b ds) => b = a ∧ q (.lst ds) | _ => False) := w
    split at w'
    · rename_i b ds hb
      obtain ⟨rfl, w'⟩ := w'
      rcases h.slots i _ hb with z | ⟨u, hu, e1, _, vs, hv, hr⟩
      · cases z
      · exact ⟨.lst ds, .inr ⟨b, ds, vs, rfl, ok, hv, hr⟩, w'⟩
    · exact w'.elim
theorem Holds.wds {K : PySem.W.Frag} {e : Ent} {env : Env'} {T : Tmp} {F : Hp} {σ : St} {H : Hp} (h : Holds K e env T F σ H) : ∀ {vs : List V} {xs : List Sl} {q : List D → Prop}, vs.length = xs.length → (∀ p ∈ vs.zip xs, p ∈ T) → HD.wds env xs q → ∃ ds, RepTs K F H ds vs ∧ q ds
  | [], [], q, _, _, w => ⟨[], rfl, w⟩
  | [], _ :: _, _, e, _, _ => by cases e
  | _ :: _, [], _, e, _, _ => by cases e
  | v :: vs, x :: xs, q, e, m, w => by
    obtain ⟨d, r1, w1⟩ := h.wd (m (v, x) List.mem_cons_self) w
    obtain ⟨ds, r2, w2⟩ := Holds.wds h (by simpa using e) (fun p hp => m p (List.mem_cons_of_mem _ hp)) w1
    exact ⟨d :: ds, ⟨v, vs, rfl, r1, r2⟩, w2⟩
section
variable {K : PySem.W.Frag} {F H : Hp} {v : V}
theorem RepT.int {i : Int} (h : RepT K F H (.int i) v) : v = .int i := by
  rcases h with h | ⟨_, _, _, z, _⟩
  · exact h
  · cases z
theorem RepT.str {x : Str} (h : RepT K F H (.str x) v) : v = .str x := by
  rcases h with h | ⟨_, _, _, z, _⟩
  · exact h
  · cases z
theorem RepT.bl {x : Bool} (h : RepT K F H (.bl x) v) : v = .bl x := by
  rcases h with h | ⟨_, _, _, z, _⟩
  · exact h
  · cases z
theorem RepT.non (h : RepT K F H .non v) : v = .non := by
  rcases h with h | ⟨_, _, _, z, _⟩
  · exact h
  · cases z
theorem RepT.val {x : V} (h : RepT K F H (.val x) v) : v = x := by
  rcases h with h | ⟨_, _, _, z, _⟩
  · exact h
  · cases z
theorem RepT.tup {ds : List D} (fh : Same F H) (h : RepT K F H (.tup ds) v) : ∃ a vs, v = .ref a ∧ SqT K H a vs ∧ TupD K F a vs ∧ Reps K F ds vs := by
  rcases h with ⟨a, vs, e, hs, hr⟩ | ⟨_, _, _, z, _⟩
  · exact ⟨a, vs, e, SqT.same fh hs.sq, hs, hr⟩
  · cases z
theorem RepT.tk {ds : List D} (fh : Same F H) (h : RepT K F H (.tk ds) v) : ∃ a vs, v = .ref a ∧ SqT K H a vs ∧ SqT K F a vs ∧ Reps K F ds vs := by
  rcases h with ⟨a, vs, e, hs, hr⟩ | ⟨_, _, _, z, _⟩
  · exact ⟨a, vs, e, SqT.same fh hs, hs, hr⟩
  · cases z
theorem RepT.lst {ds : List D} (fh : Same F H) (h : RepT K F H (.lst ds) v) : ∃ a vs, v = .ref a ∧ H a = some (.lst vs) ∧ Reps K F ds vs := by
  rcases h with ⟨a, vs, e, hs, hr⟩ | ⟨a, ds', vs, z, e, hs, hr⟩
  · exact ⟨a, vs, e, fh _ _ hs, hr⟩
  · cases z
    exact ⟨a, vs, e, hs, hr⟩
theorem RepT.fz {ds : List D} (fh : Same F H) (h : RepT K F H (.fz ds) v) : ∃ a vs, v = .ref a ∧ SqL K H a vs ∧ Reps K F ds vs := by
  rcases h with ⟨a, vs, e, hs, hr⟩ | ⟨a, ds', vs, z, e, hs, hr⟩
  · exact ⟨a, vs, e, fh.seq hs, hr⟩
  · cases z
theorem RepT.rep {d : D} (fh : Same F H) (h : RepT K F H d v) : Rep K H d v := by
  rcases h with h | ⟨a, ds, vs, rfl, rfl, hs, hr⟩
  · exact Rep.same fh h
  · exact ⟨a, vs, rfl, hs, hr.same fh⟩
theorem RepTs.one {d : D} {vs : List V} (h : RepTs K F H [d] vs) : ∃ v, vs = [v] ∧ RepT K F H d v := by
  obtain ⟨v, r, rfl, h1, h2⟩ := h
  have z : r = [] := h2
  exact ⟨v, by rw [z], h1⟩
theorem RepTs.two {d d' : D} {vs : List V} (h : RepTs K F H [d, d'] vs) : ∃ v v', vs = [v, v'] ∧ RepT K F H d v ∧ RepT K F H d' v' := by
  obtain ⟨v, r, rfl, h1, h2⟩ := h
  obtain ⟨v', e, h3⟩ := RepTs.one h2
  exact ⟨v, v', by rw [e], h1, h3⟩
end
def After (K : PySem.W.Frag) (F H : Hp) (Q : Sl → Prop) (R : VK) : Prop :=
  ∀ v F1 H1 sl, Grow F H F1 H1 → SlOk K F1 H1 v sl → (∀ a ∈ sl.owned, H a = none) → Q sl → R v H1
def Pr (K : PySem.W.Frag) (r : List V → Hp → VK → Prop) (f : List D → (Sl → Prop) → Prop) : Prop :=
  ∀ F H vs ds (Q : Sl → Prop) (R : VK), Same F H → RepTs K F H ds vs → f ds Q → After K F H Q R → r vs H R
def Pr2 (K : PySem.W.Frag) (r : R2) (f : D → D → (Sl → Prop) → Prop) : Prop :=
  ∀ F H v u d d' (Q : Sl → Prop) (R : VK), Same F H → RepT K F H d v → RepT K F H d' u → f d d' Q → After K F H Q R → r v u H R
section
variable {K : PySem.W.Frag} {F H : Hp} {Q : Sl → Prop} {R : VK}
theorem After.ext (h : After K F H Q R) (fh : Same F H) {v : V} {d : D} (r : Rep K F d v) (q : Q (.ext d)) : R v H := h v F H (.ext d) (Grow.refl fh) r (fun _ z => nomatch z) q
theorem After.int (h : After K F H Q R) (fh : Same F H) {i : Int} (q : Q (.ext (.int i))) : R (.int i) H := h.ext (d := .int i) fh rfl q
theorem After.bl (h : After K F H Q R) (fh : Same F H) {i : Bool} (q : Q (.ext (.bl i))) : R (.bl i) H := h.ext (d := .bl i) fh rfl q
theorem After.str (h : After K F H Q R) (fh : Same F H) {i : Str} (q : Q (.ext (.str i))) : R (.str i) H := h.ext (d := .str i) fh rfl q
theorem After.lst (h : After K F H Q R) (fh : Same F H) {p : Addr} {ds : List D} {vs : List V} (n : H p = none) (r : Reps K F ds vs) (q : Q (.lst p ds)) : R (.ref p) (upd H p (.lst vs)) :=
  h _ F _ (.lst p ds) (Grow.loose fh n) ⟨rfl, fh.free n, vs, upd_same, r⟩ (fun a z => by rw [List.mem_singleton.mp z]; exact n) q
theorem After.tup (h : After K F H Q R) (fh : Same F H) {ds : List D} {vs : List V} (r : Reps K F ds vs) (q : Q (.ext (.tup ds))) : newT H vs R := fun p o n d =>
  h _ (upd F p (.frz o (.tup vs))) _ (.ext (.tup ds)) (Grow.frozen fh n) ⟨p, vs, rfl, .inl ⟨o, upd_same, d⟩, r.same (Grow.frozen fh n).ff⟩ (fun _ z => nomatch z) q
theorem After.more (h : After K F H Q R) {p : Addr} {o : HO} (fh : Same F H) (n : H p = none) : After K F (upd H p o) Q R := fun v F1 H1 sl g ok own q =>
  h v F1 H1 sl ((Grow.loose fh n).trans g) ok (fun a ha => (Grow.loose fh n).hh.free (own a ha)) q
end
theorem Holds.done {K : PySem.W.Frag} {e : Ent} {env : Env'} {T : Tmp} {F : Hp} {σ : St} {H : Hp} {Q : Sl → Env' → Prop} {R : VK} (h : Holds K e env T F σ H) (hR : ∀ v H' F' env' sl, Holds K e env' ((v, sl) :: T) F' σ H' → Q sl env' → R v H') : After K F H (fun sl => Q sl env) R :=
  fun v F1 H1 sl g ok own q => hR v H1 F1 env sl (h.push g ok own) q
def dOp (f : D → D → (Sl → Prop) → Prop) (ta tb : DT) : DT := fun Ex env Q => ta Ex env fun x env1 => tb Ex env1 fun y env2 => wd env2 x fun d => wd env2 y fun d' => f d d' fun sl => Q sl env2
theorem im_op {K : PySem.W.Frag} {W : WX} {r : R2} {f : D → D → (Sl → Prop) → Prop} {ta tb : TE} {sa sb : DT} (hr : Pr2 K r f) (ha : Im K W ta sa) (hb : Im K W tb sb) : Im K W (tOp r ta tb) (dOp f sa sb) := fun e Ex hl env T F σ H Q R hh ht hR => by
  refine ha e Ex hl env T F σ H _ _ hh ht fun v H1 F1 env1 x hh1 q1 => ?_
  refine hb e Ex hl env1 _ F1 σ H1 _ _ hh1 q1 fun u H2 F2 env2 y hh2 q2 => ?_
  obtain ⟨d, rd, q3⟩ := hh2.wd (v := v) (sl := x) (List.mem_cons_of_mem _ List.mem_cons_self) q2
  obtain ⟨d', rd', q4⟩ := hh2.wd (v := u) (sl := y) List.mem_cons_self q3
  exact hr F2 H2 v u d d' _ R hh2.fh rd rd' q4 (hh2.pop.pop.done hR)
theorem Sit.units {W : WX} {X : Cx} (S : Sit G N sc W k X) : X.A.units + 64 < cLine := S.room.units
end
end HD
namespace HD
open PySem L2
def fAdd : D → D → (Sl → Prop) → Prop
  | .int i, .int j, Q => Q (.ext (.int (i + j)))
  | .str x, .str y, Q => x.length + y.length ≤ sizeLine ∧ Q (.ext (.str (x ++ y)))
  | .lst xs, .lst ys, Q => xs.length + ys.length ≤ sizeLine ∧ ∀ a, Q (.lst a (xs ++ ys))
  | .tup xs, .tup ys, Q => xs.length + ys.length ≤ sizeLine ∧ Q (.ext (.tup (xs ++ ys)))
  | _, _, _ => False
def rAddD (K : PySem.W.Frag) : R2 := fun x y H Q => (rI0 fun i j => .int (i + j)) x y H Q ∨ (∃ i j, x = .str i ∧ y = .str j ∧ i.length + j.length ≤ sizeLine ∧ Q (.str (i ++ j)) H) ∨ rCat x y H Q ∨ rCatF K x y H Q
theorem op_addD {X : Cx} : OpR X (binaryOp .Add) (rAddD X.K) := op_add.or (op_add_str.or (op_cat.or op_catF))
theorem pr_add {K : PySem.W.Frag} : Pr2 K (rAddD K) fAdd := fun F H v u d d' Q R fh h1 h2 hf ha => by
  unfold fAdd at hf
  split at hf
  · exact .inl ⟨_, _, h1.int, h2.int, ha.int fh hf⟩
  · exact .inr (.inl ⟨_, _, h1.str, h2.str, hf.1, ha.str fh hf.2⟩)
  · obtain ⟨a, vs, rfl, e1, r1⟩ := h1.lst fh
    obtain ⟨b, us, rfl, e2, r2⟩ := h2.lst fh
    exact .inr (.inr (.inl ⟨a, b, vs, us, rfl, rfl, e1, e2, by rw [← r1.length, ← r2.length]; exact hf.1, fun p n => ha.lst fh n (r1.append r2) (hf.2 p)⟩))
  · obtain ⟨a, vs, rfl, e1, e1', r1⟩ := h1.tup fh
    obtain ⟨b, us, rfl, e2, e2', r2⟩ := h2.tup fh
    refine .inr (.inr (.inr ⟨a, b, vs, us, rfl, rfl, e1, e2, by rw [← r1.length, ← r2.length]; exact hf.1, fun z => ?_, fun _ z => ?_, fun _ _ => ha.tup fh (r1.append r2) hf.2⟩))
    · refine ha.ext (d := .tup _) fh ⟨b, us, rfl, e2', ?_⟩ hf.2
      have q := r1.append r2
      rw [z] at q
      exact q
    · refine ha.ext (d := .tup _) fh ⟨a, vs, rfl, e1', ?_⟩ hf.2
      have q := r1.append r2
      rw [z, List.append_nil] at q
      exact q
  · exact hf.elim
def fSub : D → D → (Sl → Prop) → Prop
  | .int i, .int j, Q => Q (.ext (.int (i - j)))
  | _, _, _ => False
theorem pr_sub {K : PySem.W.Frag} : Pr2 K (rI0 fun i j => .int (i - j)) fSub := fun F H v u d d' Q R fh h1 h2 hf ha => by
  unfold fSub at hf
  split at hf
  · exact ⟨_, _, h1.int, h2.int, ha.int fh hf⟩
  · exact hf.elim
def fMul : D → D → (Sl → Prop) → Prop
  | .int i, .int j, Q => CMulW i j ∧ Q (.ext (.int (i * j)))
  | .lst xs, .int k, Q => k < 2 ^ 63 ∧ 0 ≤ k ∧ xs.length * k.toNat ≤ sizeLine ∧ ∀ a, Q (.lst a (List.replicate k.toNat xs).flatten)
  | _, _, _ => False
theorem Reps.rep {K : PySem.W.Frag} {F : Hp} {ds : List D} {vs : List V} (h : Reps K F ds vs) : ∀ k : Nat, Reps K F (List.replicate k ds).flatten (List.replicate k vs).flatten
  | 0 => rfl
  | k + 1 => by
    rw [List.replicate_succ, List.replicate_succ, List.flatten_cons, List.flatten_cons]
    exact h.append (Reps.rep h k)
theorem pr_mul {K : PySem.W.Frag} : Pr2 K (fun x y H Q => (rI CMulW fun i j => .int (i * j)) x y H Q ∨ rRep x y H Q) fMul := fun F H v u d d' Q R fh h1 h2 hf ha => by
  unfold fMul at hf
  split at hf
  · exact .inl ⟨_, _, h1.int, h2.int, hf.1, ha.int fh hf.2⟩
  · obtain ⟨a, vs, rfl, e1, r1⟩ := h1.lst fh
    obtain ⟨hf1, hf0, hf2, hf3⟩ := hf
    exact .inr ⟨a, _, vs, rfl, h2.int, e1, Int.le_trans (by decide) hf0, hf1, by rw [← r1.length]; exact hf2, fun p n => ha.lst fh n (r1.rep _) (hf3 p)⟩
  · exact hf.elim
theorem op_mulD {X : Cx} : OpR X (binaryOp .Mult) (fun x y H Q => (rI CMulW fun i j => .int (i * j)) x y H Q ∨ rRep x y H Q) := op_mulW.or op_rep
def fDiv : D → D → (Sl → Prop) → Prop
  | .int i, .int j, Q => CDivW i j ∧ Q (.ext (.int (i / j)))
  | _, _, _ => False
theorem pr_div {K : PySem.W.Frag} : Pr2 K (rI CDivW fun i j => .int (i / j)) fDiv := fun F H v u d d' Q R fh h1 h2 hf ha => by
  unfold fDiv at hf
  split at hf
  · exact ⟨_, _, h1.int, h2.int, hf.1, ha.int fh hf.2⟩
  · exact hf.elim
def fMod : D → D → (Sl → Prop) → Prop
  | .int i, .int j, Q => 0 < j ∧ Q (.ext (.int (i % j)))
  | _, _, _ => False
theorem pr_mod {K : PySem.W.Frag} : Pr2 K (rI (fun _ j => 0 < j) fun i j => .int (i % j)) fMod := fun F H v u d d' Q R fh h1 h2 hf ha => by
  unfold fMod at hf
  split at hf
  · exact ⟨_, _, h1.int, h2.int, hf.1, ha.int fh hf.2⟩
  · exact hf.elim
def fPow : D → D → (Sl → Prop) → Prop
  | .int i, .int j, Q => CPow i j ∧ Q (.ext (.int (i ^ j.toNat)))
  | _, _, _ => False
theorem pr_pow {K : PySem.W.Frag} : Pr2 K (rI CPow fun i j => .int (i ^ j.toNat)) fPow := fun F H v u d d' Q R fh h1 h2 hf ha => by
  unfold fPow at hf
  split at hf
  · exact ⟨_, _, h1.int, h2.int, hf.1, ha.int fh hf.2⟩
  · exact hf.elim
section
variable {G : GG} {N : List Str} {sc : SC} {k : Nat} {a b : Expr} {ta tb : DT} {pos : Pos}
theorem de_bin {op : Operator} {r : PySem.W.Frag → R2} {f : D → D → (Sl → Prop) → Prop} (hr : ∀ K, Pr2 K (r K) f) (ho : ∀ X : Cx, OpR X (binaryOp op) (r X.K)) (ha : DE G N sc k a ta) (hb : DE G N sc k b tb) : DE G N sc k (.BinOp a op b pos) (dOp f ta tb) :=
  ⟨fun W => by
    obtain ⟨te, p1, i1⟩ := ha.ex W
    obtain ⟨tf, p2, i2⟩ := hb.ex W
    exact ⟨tOp (r G.K) te tf, fun X S => pe_op (by rw [← S.K]; exact ho X) (p1 X S) (p2 X S), im_op (hr _) i1 i2⟩⟩
theorem de_add (ha : DE G N sc k a ta) (hb : DE G N sc k b tb) : DE G N sc k (.BinOp a .Add b pos) (dOp fAdd ta tb) := de_bin (r := rAddD) (fun _ => pr_add) (fun _ => op_addD) ha hb
theorem de_sub (ha : DE G N sc k a ta) (hb : DE G N sc k b tb) : DE G N sc k (.BinOp a .Sub b pos) (dOp fSub ta tb) := de_bin (r := fun _ => _) (fun _ => pr_sub) (fun _ => op_sub) ha hb
theorem de_mul (ha : DE G N sc k a ta) (hb : DE G N sc k b tb) : DE G N sc k (.BinOp a .Mult b pos) (dOp fMul ta tb) := de_bin (r := fun _ => _) (fun _ => pr_mul) (fun _ => op_mulD) ha hb
theorem de_div (ha : DE G N sc k a ta) (hb : DE G N sc k b tb) : DE G N sc k (.BinOp a .FloorDiv b pos) (dOp fDiv ta tb) := de_bin (r := fun _ => _) (fun _ => pr_div) (fun _ => op_fdivW) ha hb
theorem de_mod (ha : DE G N sc k a ta) (hb : DE G N sc k b tb) : DE G N sc k (.BinOp a .Mod b pos) (dOp fMod ta tb) := de_bin (r := fun _ => _) (fun _ => pr_mod) (fun _ => op_mod) ha hb
theorem de_pow (ha : DE G N sc k a ta) (hb : DE G N sc k b tb) : DE G N sc k (.BinOp a .Pow b pos) (dOp fPow ta tb) := de_bin (r := fun _ => _) (fun _ => pr_pow) (fun _ => op_pow) ha hb
end
def dNeg (ta : DT) : DT := fun Ex env Q => ta Ex env fun x env1 => wd env1 x fun d => match d with
  | .int i => Q (.ext (.int (-i))) env1
  | _ => False
theorem de_neg {G : GG} {N : List Str} {sc : SC} {k : Nat} {a : Expr} {ta : DT} {pos : Pos} (ha : DE G N sc k a ta) : DE G N sc k (.UnaryOp .USub a pos) (dNeg ta) :=
  ⟨fun W => by
    obtain ⟨te, p1, i1⟩ := ha.ex W
    refine ⟨tUn (rU fun i => .int (-i)) te, fun X S => pe_un un_neg (p1 X S), fun e Ex hl env T F σ H Q R hh ht hR => ?_⟩
    refine i1 e Ex hl env T F σ H _ _ hh ht fun v H1 F1 env1 x hh1 q1 => ?_
    obtain ⟨d, rd, q3⟩ := hh1.wd (v := v) (sl := x) List.mem_cons_self q1
    cases d <;> first
      | exact q3.elim
      | exact ⟨_, rd.int, (hh1.pop.done hR).int hh1.fh q3⟩⟩
mutual
def D.py : D → PyData
  | .non => .none
  | .bl b => .bool b
  | .int i => .int i
  | .str x => .str x
  | .val _ => .none
  | .lst ds => .list (D.pys ds)
  | .fz ds => .list (D.pys ds)
  | .tup ds => .tuple (D.pys ds)
  | .tk ds => .tuple (D.pys ds)
  | .exc _ => .none
  | .glo _ => .none
  | .dk _ _ => .none
  | .dt _ _ => .none
def D.pys : List D → List PyData
  | [] => []
  | d :: ds => D.py d :: D.pys ds
end
mutual
def D.noVal : D → Bool
  | .val _ => false
  | .exc _ => false
  | .glo _ => false
  | .dk _ _ => false
  | .dt _ _ => false
  | .lst ds => D.noVals ds
  | .fz ds => D.noVals ds
  | .tup ds => D.noVals ds
  | .tk ds => D.noVals ds
  | _ => true
def D.noVals : List D → Bool
  | [] => true
  | d :: ds => D.noVal d && D.noVals ds
end
section
variable {K : PySem.W.Frag} {H : Hp}
mutual
theorem Rep.dp : ∀ {d : D} {v : V}, d.noVal = true → Rep K H d v → Dp K H v d.py
  | .non, _, _, h => by
    have e : _ = V.non := h
    rw [e]
    exact .non
  | .bl b, _, _, h => by
    have e : _ = V.bl b := h
    rw [e]
    exact .bl b
  | .int b, _, _, h => by
    have e : _ = V.int b := h
    rw [e]
    exact .int b
  | .str b, _, _, h => by
    have e : _ = V.str b := h
    rw [e]
    exact .str b
  | .val _, _, n, _ => nomatch n
  | .exc _, _, n, _ => nomatch n
  | .glo _, _, n, _ => nomatch n
  | .dk _ _, _, n, _ => nomatch n
  | .dt _ _, _, n, _ => nomatch n
  | .lst ds, _, n, h => by
    obtain ⟨a, xs, rfl, hs, hr⟩ := h
    exact .lst (SqL.of hs) (Reps.dp n hr)
  | .fz ds, _, n, h => by
    obtain ⟨a, xs, rfl, hs, hr⟩ := h
    exact .lst hs (Reps.dp n hr)
  | .tup ds, _, n, h => by
    obtain ⟨a, xs, rfl, hs, hr⟩ := h
    exact .tup hs.sq (Reps.dp n hr)
  | .tk ds, _, n, h => by
    obtain ⟨a, xs, rfl, hs, hr⟩ := h
    exact .tup hs (Reps.dp n hr)
theorem Reps.dp : ∀ {ds : List D} {vs : List V}, D.noVals ds = true → Reps K H ds vs → DpAll K H vs (D.pys ds)
  | [], _, _, h => by
    have e : _ = [] := h
    rw [e]
    exact .nil
  | d :: ds, _, n, h => by
    obtain ⟨v, r, rfl, h1, h2⟩ := h
    have n' : (D.noVal d && D.noVals ds) = true := n
    rw [Bool.and_eq_true] at n'
    exact .cons (Rep.dp n'.1 h1) (Reps.dp n'.2 h2)
end
end
def D.cmp (d : D) : Prop := d.noVal = true ∧ SeqAt.shaped d.py = true
def D.eqv (d e : D) : Bool := PyData.eqv d.py e.py
def fEq : D → D → (Sl → Prop) → Prop
  | .int i, .int j, Q => Q (.ext (.bl (i == j)))
  | .str i, .str j, Q => Q (.ext (.bl (i == j)))
  | .bl i, .bl j, Q => Q (.ext (.bl (i == j)))
  | d, e, Q => d.cmp ∧ e.cmp ∧ Q (.ext (.bl (d.eqv e)))
def fNe : D → D → (Sl → Prop) → Prop
  | .int i, .int j, Q => Q (.ext (.bl (!(i == j))))
  | .str i, .str j, Q => Q (.ext (.bl (!(i == j))))
  | .bl i, .bl j, Q => Q (.ext (.bl (!(i == j))))
  | d, e, Q => d.cmp ∧ e.cmp ∧ Q (.ext (.bl (!d.eqv e)))
def rEqA (K : PySem.W.Frag) : R2 := fun x y H Q => rEq x y H Q ∨ rEqD K x y H Q
def rNeA (K : PySem.W.Frag) : R2 := fun x y H Q => rNe x y H Q ∨ rNeD K x y H Q
theorem pr_eq {K : PySem.W.Frag} : Pr2 K (rEqA K) fEq := fun F H v u d d' Q R fh h1 h2 hf ha => by
  unfold fEq at hf
  split at hf
  · rw [h1.int, h2.int]
    exact .inl ⟨rfl, by rw [dec_int]; exact ha.bl fh hf⟩
  · rw [h1.str, h2.str]
    exact .inl ⟨rfl, by rw [dec_str]; exact ha.bl fh hf⟩
  · rw [h1.bl, h2.bl]
    exact .inl ⟨rfl, by rw [dec_bl]; exact ha.bl fh hf⟩
  · obtain ⟨c1, c2, q⟩ := hf
    exact .inr ⟨d.py, d'.py, Rep.dp c1.1 (h1.rep fh), Rep.dp c2.1 (h2.rep fh), c1.2, c2.2, ha.bl fh q⟩
theorem pr_ne {K : PySem.W.Frag} : Pr2 K (rNeA K) fNe := fun F H v u d d' Q R fh h1 h2 hf ha => by
  unfold fNe at hf
  split at hf
  · rw [h1.int, h2.int]
    exact .inl ⟨rfl, by rw [dec_int]; exact ha.bl fh hf⟩
  · rw [h1.str, h2.str]
    exact .inl ⟨rfl, by rw [dec_str]; exact ha.bl fh hf⟩
  · rw [h1.bl, h2.bl]
    exact .inl ⟨rfl, by rw [dec_bl]; exact ha.bl fh hf⟩
  · obtain ⟨c1, c2, q⟩ := hf
    exact .inr ⟨d.py, d'.py, Rep.dp c1.1 (h1.rep fh), Rep.dp c2.1 (h2.rep fh), c1.2, c2.2, ha.bl fh q⟩
def fCmp (p : Int → Int → Bool) : D → D → (Sl → Prop) → Prop
  | .int i, .int j, Q => Q (.ext (.bl (p i j)))
  | _, _, _ => False
theorem pr_cmp {K : PySem.W.Frag} {p : Int → Int → Bool} : Pr2 K (rI0 fun i j => .bl (p i j)) (fCmp p) := fun F H v u d d' Q R fh h1 h2 hf ha => by
  unfold fCmp at hf
  split at hf
  · exact ⟨_, _, h1.int, h2.int, ha.bl fh hf⟩
  · exact hf.elim
def D.flat : D → Bool
  | .non => true
  | .bl _ => true
  | .int _ => true
  | .str _ => true
  | _ => false
def D.toV : D → V
  | .non => .non
  | .bl b => .bl b
  | .int i => .int i
  | .str x => .str x
  | .val v => v
  | _ => .non
def D.isIn (x : D) (xs : List D) : Bool := inV x.toV (xs.map D.toV)
def fIn (neg : Bool) : D → D → (Sl → Prop) → Prop
  | d, .lst ds, Q => d.flat = true ∧ ds.all D.flat = true ∧ Q (.ext (.bl (if neg then !d.isIn ds else d.isIn ds)))
  | d, .tup ds, Q => d.flat = true ∧ ds.all D.flat = true ∧ Q (.ext (.bl (if neg then !d.isIn ds else d.isIn ds)))
  | _, _, _ => False
theorem flat_rep {K : PySem.W.Frag} {F : Hp} {d : D} {v : V} (h : Rep K F d v) (f : d.flat = true) : v = d.toV ∧ flatV v = true := by
  cases d with
  | non =>
    have e : v = .non := h
    rw [e]
    exact ⟨rfl, rfl⟩
  | bl b =>
    have e : v = .bl b := h
    rw [e]
    exact ⟨rfl, rfl⟩
  | int b =>
    have e : v = .int b := h
    rw [e]
    exact ⟨rfl, rfl⟩
  | str b =>
    have e : v = .str b := h
    rw [e]
    exact ⟨rfl, rfl⟩
  | val u => exact nomatch f
  | lst ds => exact nomatch f
  | fz ds => exact nomatch f
  | tup ds => exact nomatch f
  | tk ds => exact nomatch f
  | exc c => exact nomatch f
  | glo c => exact nomatch f
  | dk _ _ => exact nomatch f
  | dt _ _ => exact nomatch f
theorem flat_reps {K : PySem.W.Frag} {F : Hp} : ∀ {ds : List D} {vs : List V}, Reps K F ds vs → ds.all D.flat = true → vs = ds.map D.toV ∧ vs.all flatV = true
  | [], _, h, _ => by
    have e : _ = [] := h
    rw [e]
    exact ⟨rfl, rfl⟩
  | d :: ds, _, h, f => by
    obtain ⟨v, r, rfl, h1, h2⟩ := h
    rw [List.all_cons, Bool.and_eq_true] at f
    obtain ⟨e1, f1⟩ := flat_rep h1 f.1
    obtain ⟨e2, f2⟩ := flat_reps h2 f.2
    rw [List.all_cons, f1, f2, List.map_cons, ← e1, ← e2]
    exact ⟨rfl, rfl⟩
theorem pr_in {K : PySem.W.Frag} (neg : Bool) : Pr2 K (rIn K neg) (fIn neg) := fun F H v u d d' Q R fh h1 h2 hf ha => by
  unfold fIn at hf
  split at hf
  · rename_i ds
    obtain ⟨b, us, rfl, e2, r2⟩ := h2.lst fh
    obtain ⟨f1, f2, q⟩ := hf
    obtain ⟨x1, x2⟩ := flat_rep (h1.rep fh) f1
    obtain ⟨y1, y2⟩ := flat_reps r2 f2
    refine ⟨b, us, rfl, .inl (SqL.of e2), x2, y2, ?_⟩
    rw [x1, y1]
    exact ha.bl fh q
  · rename_i ds
    obtain ⟨b, us, rfl, e2, _, r2⟩ := h2.tup fh
    obtain ⟨f1, f2, q⟩ := hf
    obtain ⟨x1, x2⟩ := flat_rep (h1.rep fh) f1
    obtain ⟨y1, y2⟩ := flat_reps r2 f2
    refine ⟨b, us, rfl, .inr e2, x2, y2, ?_⟩
    rw [x1, y1]
    exact ha.bl fh q
  · exact hf.elim
section
variable {G : GG} {N : List Str} {sc : SC} {k : Nat} {a b c : Expr} {ta tb tc : DT} {pos : Pos}
def CmpR (op : CmpOp) (f : D → D → (Sl → Prop) → Prop) : Prop := ∃ r : PySem.W.Frag → R2, (∀ K, Pr2 K (r K) f) ∧ ∀ X : Cx, X.A.units + 64 < cLine → OpR X (compareOp op) (r X.K)
theorem c_eq : CmpR .Eq fEq := ⟨rEqA, fun _ => pr_eq, fun _ h => op_eq.or (op_eqD h)⟩
theorem c_ne : CmpR .NotEq fNe := ⟨rNeA, fun _ => pr_ne, fun _ h => op_ne.or (op_neD h)⟩
theorem c_lt : CmpR .Lt (fCmp fun i j => decide (i < j)) := ⟨fun _ => _, fun _ => pr_cmp, fun _ _ => op_lt⟩
theorem c_le : CmpR .LtE (fCmp fun i j => decide (i ≤ j)) := ⟨fun _ => _, fun _ => pr_cmp, fun _ _ => op_le⟩
theorem c_gt : CmpR .Gt (fCmp fun i j => decide (j < i)) := ⟨fun _ => _, fun _ => pr_cmp, fun _ _ => op_gt⟩
theorem c_ge : CmpR .GtE (fCmp fun i j => decide (j ≤ i)) := ⟨fun _ => _, fun _ => pr_cmp, fun _ _ => op_ge⟩
theorem c_in : CmpR .In (fIn false) := ⟨fun K => rIn K false, fun _ => pr_in false, fun _ _ => op_in_seq⟩
theorem c_notin : CmpR .NotIn (fIn true) := ⟨fun K => rIn K true, fun _ => pr_in true, fun _ _ => op_notIn_seq⟩
def D.knN : D → Bool
  | .val _ => false
  | _ => true
def D.isNon : D → Bool
  | .non => true
  | _ => false
def fIsN : D → D → (Sl → Prop) → Prop
  | d, .non, Q => d.knN = true ∧ Q (.ext (.bl d.isNon))
  | _, _, _ => False
theorem isN_dec {K : PySem.W.Frag} {F : Hp} {d : D} {v : V} (n : d.knN = true) (h : Rep K F d v) : decide (v = .non) = d.isNon := by
  cases d with
  | non =>
    have e : v = .non := h
    rw [e]
    rfl
  | val u => cases n
  | bl b =>
    have e : v = .bl b := h
    rw [e]
    rfl
  | int b =>
    have e : v = .int b := h
    rw [e]
    rfl
  | str b =>
    have e : v = .str b := h
    rw [e]
    exact decide_eq_false fun z => nomatch z
  | lst ds =>
    obtain ⟨a, xs, rfl, _⟩ := h
    rfl
  | fz ds =>
    obtain ⟨a, xs, rfl, _⟩ := h
    rfl
  | tup ds =>
    obtain ⟨a, xs, rfl, _⟩ := h
    rfl
  | tk ds =>
    obtain ⟨a, xs, rfl, _⟩ := h
    rfl
  | exc c =>
    obtain ⟨a, oe, rfl, _⟩ := h
    rfl
  | dk _ _ =>
    obtain ⟨a, _, _, rfl, _⟩ := h
    rfl
  | dt _ _ =>
    obtain ⟨a, _, _, rfl, _⟩ := h
    rfl
  | glo c =>
    have e : v = .ref _ := h
    rw [e]
    rfl
theorem c_is : CmpR .Is fIsN := ⟨fun _ => _, fun K F H v u d d' Q R fh h1 h2 hf ha => by
    unfold fIsN at hf
    split at hf
    · refine ⟨h2.non, ?_⟩
      rw [isN_dec hf.1 (h1.rep fh)]
      exact ha.bl fh hf.2
    · exact hf.elim, fun _ _ => op_isN⟩
def fNotN : D → D → (Sl → Prop) → Prop
  | d, .non, Q => d.knN = true ∧ Q (.ext (.bl (!d.isNon)))
  | _, _, _ => False
theorem de_cmp {op : CmpOp} {f : D → D → (Sl → Prop) → Prop} (hr : CmpR op f) (ha : DE G N sc k a ta) (hb : DE G N sc k b tb) (hm : behindInMarks op b = false := by first | exact nomark _ | rfl) : DE G N sc k (.Compare a [op] [b] pos) (dOp f ta tb) :=
  ⟨fun W => by
    obtain ⟨r, h1, h2⟩ := hr
    obtain ⟨te, p1, i1⟩ := ha.ex W
    obtain ⟨tf, p2, i2⟩ := hb.ex W
    exact ⟨tOp (r G.K) te tf, fun X S => pe_cmpR (by rw [← S.K]; exact h2 X S.units) (p1 X S) (p2 X S) hm, im_op (h1 _) i1 i2⟩⟩
def dTest (t : DT) : DTT := fun Ex env Q => t Ex env fun x env1 => match x with
  | .ext (.bl b) => Q b env1
  | _ => False
theorem imT_of {K : PySem.W.Frag} {W : WX} {te : TE} {t : DT} {tt : TT} (h : Im K W te t) (hs : ∀ σ H Q, te σ H (fun x H1 => ∃ c, x = .bl c ∧ Q c H1) → tt σ H Q) : ImT K W tt (dTest t) := fun e Ex hl env T F σ H Q R hh ht hR => by
  refine hs _ _ _ (h e Ex hl env T F σ H _ _ hh ht fun v H1 F1 env1 x hh1 q1 => ?_)
  cases x with
  | ext d =>
    cases d with
    | bl b => exact ⟨b, hh1.temps (v, .ext (.bl b)) List.mem_cons_self, hR b H1 F1 env1 hh1.pop q1⟩
    | _ => exact q1.elim
  | _ => exact q1.elim
theorem dt_cmp {op : CmpOp} {f : D → D → (Sl → Prop) → Prop} (hr : CmpR op f) (ha : DE G N sc k a ta) (hb : DE G N sc k b tb) (hm : behindInMarks op b = false := by first | exact nomark _ | rfl) : DTe G N sc k (.Compare a [op] [b] pos) (dTest (dOp f ta tb)) :=
  ⟨fun W => by
    obtain ⟨r, h1, h2⟩ := hr
    obtain ⟨te, p1, i1⟩ := ha.ex W
    obtain ⟨tf, p2, i2⟩ := hb.ex W
    exact ⟨tTest (tOp (r G.K) te tf), fun X S => pt_cmpR (by rw [← S.K]; exact h2 X S.units) (p1 X S) (p2 X S) hm, imT_of (im_op (h1 _) i1 i2) fun _ _ _ h => h⟩⟩
theorem dt_val {e : Expr} {t : DT} (h : DE G N sc k e t) (he : ∀ env whole, isTrue e env whole = (do let v ← whole; standAt e.pos; holding [v] (truthy v)) := by intro _ _; rfl) : DTe G N sc k e (dTest t) :=
  ⟨fun W => by
    obtain ⟨te, p1, i1⟩ := h.ex W
    exact ⟨tB te, fun X S => pt_val (p1 X S) (he _), imT_of i1 fun _ _ _ h => h⟩⟩
def dChain (f f' : D → D → (Sl → Prop) → Prop) (ta tb tc : DT) : DT := fun Ex env Q => ta Ex env fun x env1 => tb Ex env1 fun y env2 => wd env2 x fun d => wd env2 y fun d' => f d d' fun z => match z with
  | .ext (.bl true) => tc Ex env2 fun w env3 => wd env3 y fun d1 => wd env3 w fun d2 => f' d1 d2 fun sl => Q sl env3
  | .ext (.bl false) => Q (.ext (.bl false)) env2
  | _ => False
theorem de_chain {op op' : CmpOp} {f f' : D → D → (Sl → Prop) → Prop} (hr : CmpR op f) (hr' : CmpR op' f') (ha : DE G N sc k a ta) (hb : DE G N sc k b tb) (hc : DE G N sc k c tc)
    (hm : lastMarks [op, op'] [b, c] = false := by with_unfolding_all rfl) : DE G N sc k (.Compare a [op, op'] [b, c] pos) (dChain f f' ta tb tc) :=
  ⟨fun W => by
    obtain ⟨r, h1, h2⟩ := hr
    obtain ⟨r', h1', h2'⟩ := hr'
    obtain ⟨te, p1, i1⟩ := ha.ex W
    obtain ⟨tf, p2, i2⟩ := hb.ex W
    obtain ⟨tg, p3, i3⟩ := hc.ex W
    refine ⟨tChain (r G.K) (r' G.K) te tf tg, fun X S => pe_chain (by rw [← S.K]; exact h2 X S.units) (by rw [← S.K]; exact h2' X S.units) (p1 X S) (p2 X S) (p3 X S) hm, fun e Ex hl env T F σ H Q R hh ht hR => ?_⟩
    refine i1 e Ex hl env T F σ H _ _ hh ht fun v H1 F1 env1 x hh1 q1 => ?_
    refine i2 e Ex hl env1 _ F1 σ H1 _ _ hh1 q1 fun u H2 F2 env2 y hh2 q2 => ?_
    obtain ⟨d, rd, q3⟩ := hh2.wd (v := v) (sl := x) (List.mem_cons_of_mem _ List.mem_cons_self) q2
    obtain ⟨d', rd', q4⟩ := hh2.wd (v := u) (sl := y) List.mem_cons_self q3
    refine h1 _ F2 H2 v u d d' _ _ hh2.fh rd rd' q4 fun z F3 H3 sl g ok own q5 => ?_
    have hh3 := hh2.push g ok own
    cases sl with
    | ext dz =>
      cases dz with
      | bl bb =>
        refine ⟨bb, hh3.temps (z, .ext (.bl bb)) List.mem_cons_self, ?_⟩
        cases bb with
        | true =>
          rw [if_pos rfl]
          refine i3 e Ex hl env2 _ F3 σ H3 _ _ hh3.pop q5 fun w H4 F4 env4 x4 hh4 q6 => ?_
          obtain ⟨d1, rd1, q7⟩ := hh4.wd (v := u) (sl := y) (List.mem_cons_of_mem _ List.mem_cons_self) q6
          obtain ⟨d2, rd2, q8⟩ := hh4.wd (v := w) (sl := x4) List.mem_cons_self q7
          exact h1' _ F4 H4 u w d1 d2 _ R hh4.fh rd1 rd2 q8 (hh4.pop.pop.pop.done hR)
        | false =>
          rw [if_neg Bool.false_ne_true]
          exact hR (.bl false) H3 F3 env2 (.ext (.bl false)) (hh3.pop.pop.pop.pushE rfl) q5
      | _ => exact q5.elim
    | _ => exact q5.elim⟩
def dAnd (t u : DTT) : DTT := fun Ex env Q => t Ex env fun b env1 => if b = true then u Ex env1 Q else Q false env1
def dOr (t u : DTT) : DTT := fun Ex env Q => t Ex env fun b env1 => if b = true then Q true env1 else u Ex env1 Q
def dNot (t : DTT) : DTT := fun Ex env Q => t Ex env fun b env1 => Q (!b) env1
structure DWe (G : GG) (N : List Str) (sc : SC) (k : Nat) (e : Expr) (t : DTT) : Prop where
  ex : ∀ W : WX, ∃ te, (∀ X, Sit G N sc W k X → PW X e te) ∧ ImT G.K W te t
variable {rest : List Expr} {t u : DTT}
theorem imT_and {K : PySem.W.Frag} {W : WX} {te tf : TT} (h : ImT K W te t) (g : ImT K W tf u) : ImT K W (tAnd te tf) (dAnd t u) := fun e Ex hl env T F σ H Q R hh ht hR => by
  refine h e Ex hl env T F σ H _ _ hh ht fun b H1 F1 env1 hh1 q1 => ?_
  cases b with
  | true =>
    rw [if_pos rfl] at q1 ⊢
    exact g e Ex hl env1 T F1 σ H1 _ _ hh1 q1 hR
  | false =>
    rw [if_neg Bool.false_ne_true] at q1 ⊢
    exact hR false H1 F1 env1 hh1 q1
theorem imT_or {K : PySem.W.Frag} {W : WX} {te tf : TT} (h : ImT K W te t) (g : ImT K W tf u) : ImT K W (tOr te tf) (dOr t u) := fun e Ex hl env T F σ H Q R hh ht hR => by
  refine h e Ex hl env T F σ H _ _ hh ht fun b H1 F1 env1 hh1 q1 => ?_
  cases b with
  | true =>
    rw [if_pos rfl] at q1 ⊢
    exact hR true H1 F1 env1 hh1 q1
  | false =>
    rw [if_neg Bool.false_ne_true] at q1 ⊢
    exact g e Ex hl env1 T F1 σ H1 _ _ hh1 q1 hR
theorem dw_and1 (h : DTe G N sc k a t) : DWe G N sc k (.BoolOp .And [a] pos) t := ⟨fun W => by
  obtain ⟨te, p1, i1⟩ := h.ex W
  exact ⟨te, fun X S => pw_and1 (p1 X S), i1⟩⟩
theorem dw_or1 (h : DTe G N sc k a t) : DWe G N sc k (.BoolOp .Or [a] pos) t := ⟨fun W => by
  obtain ⟨te, p1, i1⟩ := h.ex W
  exact ⟨te, fun X S => pw_or1 (p1 X S), i1⟩⟩
theorem dw_and (h : DTe G N sc k a t) (g : DWe G N sc k (.BoolOp .And (b :: rest) pos) u) : DWe G N sc k (.BoolOp .And (a :: b :: rest) pos) (dAnd t u) := ⟨fun W => by
  obtain ⟨te, p1, i1⟩ := h.ex W
  obtain ⟨tf, p2, i2⟩ := g.ex W
  exact ⟨tAnd te tf, fun X S => pw_and (p1 X S) (p2 X S), imT_and i1 i2⟩⟩
theorem dw_or (h : DTe G N sc k a t) (g : DWe G N sc k (.BoolOp .Or (b :: rest) pos) u) : DWe G N sc k (.BoolOp .Or (a :: b :: rest) pos) (dOr t u) := ⟨fun W => by
  obtain ⟨te, p1, i1⟩ := h.ex W
  obtain ⟨tf, p2, i2⟩ := g.ex W
  exact ⟨tOr te tf, fun X S => pw_or (p1 X S) (p2 X S), imT_or i1 i2⟩⟩
theorem DWe.te {e : Expr} (h : DWe G N sc k e t) : DTe G N sc k e t := ⟨fun W => by
  obtain ⟨te, p1, i1⟩ := h.ex W
  exact ⟨te, fun X S => (p1 X S).pt, i1⟩⟩
theorem dt_not (h : DTe G N sc k a t) : DTe G N sc k (.UnaryOp .Not a pos) (dNot t) := ⟨fun W => by
  obtain ⟨te, p1, i1⟩ := h.ex W
  exact ⟨tNot te, fun X S => pt_not (p1 X S), fun e Ex hl env T F σ H Q R hh ht hR => i1 e Ex hl env T F σ H _ _ hh ht fun b H1 F1 env1 hh1 q1 => hR (!b) H1 F1 env1 hh1 q1⟩⟩
def dAndV (ta tb : DT) : DT := fun Ex env Q => ta Ex env fun x env1 => match x with
  | .ext (.bl true) => tb Ex env1 Q
  | .ext (.bl false) => Q (.ext (.bl false)) env1
  | _ => False
def dOrV (ta tb : DT) : DT := fun Ex env Q => ta Ex env fun x env1 => match x with
  | .ext (.bl false) => tb Ex env1 Q
  | .ext (.bl true) => Q (.ext (.bl true)) env1
  | _ => False
def dNotV (ta : DT) : DT := fun Ex env Q => ta Ex env fun x env1 => match x with
  | .ext (.bl b) => Q (.ext (.bl (!b))) env1
  | _ => False
theorem de_one {op} {t : DT} (h : DE G N sc k a t) : DE G N sc k (.BoolOp op [a] pos) t := ⟨fun W => by
  obtain ⟨te, p1, i1⟩ := h.ex W
  exact ⟨te, fun X S => pe_one (p1 X S), i1⟩⟩
theorem de_and (h : DE G N sc k a ta) (g : DE G N sc k (.BoolOp .And (b :: rest) pos) tb) : DE G N sc k (.BoolOp .And (a :: b :: rest) pos) (dAndV ta tb) := ⟨fun W => by
  obtain ⟨te, p1, i1⟩ := h.ex W
  obtain ⟨tf, p2, i2⟩ := g.ex W
  refine ⟨tAndV te tf, fun X S => pe_and (p1 X S) (p2 X S), fun e Ex hl env T F σ H Q R hh ht hR => ?_⟩
  refine i1 e Ex hl env T F σ H _ _ hh ht fun v H1 F1 env1 x hh1 q1 => ?_
  cases x with
  | ext d =>
    cases d with
    | bl bb =>
      refine ⟨bb, hh1.temps (v, .ext (.bl bb)) List.mem_cons_self, ?_⟩
      cases bb with
      | true =>
        rw [if_pos rfl]
        exact i2 e Ex hl env1 T F1 σ H1 _ _ hh1.pop q1 hR
      | false =>
        rw [if_neg Bool.false_ne_true]
        exact hR (.bl false) H1 F1 env1 (.ext (.bl false)) (hh1.pop.pushE rfl) q1
    | _ => exact q1.elim
  | _ => exact q1.elim⟩
theorem de_not (h : DE G N sc k a ta) : DE G N sc k (.UnaryOp .Not a pos) (dNotV ta) := ⟨fun W => by
  obtain ⟨te, p1, i1⟩ := h.ex W
  refine ⟨tNotV te, fun X S => pe_not (p1 X S), fun e Ex hl env T F σ H Q R hh ht hR => ?_⟩
  refine i1 e Ex hl env T F σ H _ _ hh ht fun v H1 F1 env1 x hh1 q1 => ?_
  cases x with
  | ext d =>
    cases d with
    | bl bb => exact ⟨bb, hh1.temps (v, .ext (.bl bb)) List.mem_cons_self, hR _ H1 F1 env1 (.ext (.bl (!bb))) (hh1.pop.pushE rfl) q1⟩
    | _ => exact q1.elim
  | _ => exact q1.elim⟩
def dIf (t : DTT) (ta tb : DT) : DT := fun Ex env Q => t Ex env fun b env1 => if b = true then ta Ex env1 Q else tb Ex env1 Q
theorem de_if {t : DTT} (hc : DTe G N sc k c t) (ha : DE G N sc k a ta) (hb : DE G N sc k b tb) : DE G N sc k (.IfExp c a b pos) (dIf t ta tb) := ⟨fun W => by
  obtain ⟨tc, p0, i0⟩ := hc.ex W
  obtain ⟨te, p1, i1⟩ := ha.ex W
  obtain ⟨tf, p2, i2⟩ := hb.ex W
  refine ⟨tIf tc te tf, fun X S => pe_ifExp (p0 X S) (p1 X S) (p2 X S), fun e Ex hl env T F σ H Q R hh ht hR => ?_⟩
  refine i0 e Ex hl env T F σ H _ _ hh ht fun bb H1 F1 env1 hh1 q1 => ?_
  cases bb with
  | true =>
    rw [if_pos rfl] at q1 ⊢
    exact i1 e Ex hl env1 T F1 σ H1 _ _ hh1 q1 hR
  | false =>
    rw [if_neg Bool.false_ne_true] at q1 ⊢
    exact i2 e Ex hl env1 T F1 σ H1 _ _ hh1 q1 hR⟩
def froz (env : Env') : Sl → (D → Prop) → Prop
  | .ext d, q => q d
  | .lst _ ds, q => q (.lst ds)
  | _, _ => False
def frozs (env : Env') : List Sl → (List D → Prop) → Prop
  | [], q => q []
  | s :: ss, q => froz env s fun d => frozs env ss fun ds => q (d :: ds)
theorem Holds.froz1 {K : PySem.W.Frag} {e : Ent} {env : Env'} {T : Tmp} {F : Hp} {σ : St} {H : Hp} {v : V} {sl : Sl} {q : D → Prop} (h : Holds K e env ((v, sl) :: T) F σ H) (w : froz env sl q) : ∃ d F1, Same F F1 ∧ Holds K e env T F1 σ H ∧ Rep K F1 d v ∧ q d := by
  cases sl with
  | un => exact w.elim
  | reg _ _ => exact w.elim
  | ar _ _ => exact w.elim
  | al i a => exact w.elim
  | ext d => exact ⟨d, F, Same.refl _, h.pop, h.temps (v, .ext d) List.mem_cons_self, w⟩
  | lst a ds =>
    obtain ⟨F1, sm, h1⟩ := h.freezeT
    exact ⟨.lst ds, F1, sm, h1.pop, h1.temps (v, .ext (.lst ds)) List.mem_cons_self, w⟩
theorem Holds.frozs {K : PySem.W.Frag} {e : Ent} {env : Env'} {T : Tmp} {σ : St} {H : Hp} : ∀ {vs : List V} {xs : List Sl} {q : List D → Prop} {F : Hp}, vs.length = xs.length → Holds K e env (vs.zip xs ++ T) F σ H → HD.frozs env xs q → ∃ ds F1, Same F F1 ∧ Holds K e env T F1 σ H ∧ Reps K F1 ds vs ∧ q ds
  | [], [], q, F, _, h, w => ⟨[], F, Same.refl _, h, rfl, w⟩
  | [], _ :: _, _, _, e, _, _ => by cases e
  | _ :: _, [], _, _, e, _, _ => by cases e
  | v :: vs, x :: xs, q, F, le, h, w => by
    obtain ⟨d, F1, sm, h1, r1, w1⟩ := h.froz1 w
    obtain ⟨ds, F2, sm2, h2, r2, w2⟩ := Holds.frozs (vs := vs) (xs := xs) (by simpa using le) h1 w1
    exact ⟨d :: ds, F2, sm.trans sm2, h2, ⟨v, vs, rfl, Rep.same sm2 r1, r2⟩, w2⟩
def frzD (env : Env') : Sl → (D → Env' → Prop) → Prop
  | .ext d, q => q d env
  | .lst _ ds, q => q (.lst ds) env
  | .al i a, q => match env[i]? with
    | some (.lst b ds) => b = a ∧ q (.lst ds) (env.set i (.ext (.lst ds)))
    | some (.ext (.lst ds)) => False
    | _ => False
  | .un, _ => False
  | .reg _ _, _ => False
  | .ar _ _, _ => False
def frzDs (env : Env') : List Sl → (List D → Env' → Prop) → Prop
  | [], q => q [] env
  | s :: ss, q => frzD env s fun d env1 => frzDs env1 ss fun ds env2 => q (d :: ds) env2
theorem Holds.frz1 {K : PySem.W.Frag} {e : Ent} {env : Env'} {T : Tmp} {F : Hp} {σ : St} {H : Hp} {v : V} {sl : Sl} {q : D → Env' → Prop} (h : Holds K e env ((v, sl) :: T) F σ H) (w : frzD env sl q) : ∃ d F1 env', Same F F1 ∧ Holds K e env' T F1 σ H ∧ Rep K F1 d v ∧ q d env' := by
  cases sl with
  | un => exact w.elim
  | reg _ _ => exact w.elim
  | ar _ _ => exact w.elim
  | ext d => exact ⟨d, F, env, Same.refl _, h.pop, h.temps (v, .ext d) List.mem_cons_self, w⟩
  | lst a ds =>
    obtain ⟨F1, sm, h1⟩ := h.freezeT
    exact ⟨.lst ds, F1, env, sm, h1.pop, h1.temps (v, .ext (.lst ds)) List.mem_cons_self, w⟩
  | al i a =>
    have ev : v = .ref a := h.temps (v, .al i a) List.mem_cons_self
    have w' : (match env[i]? with | some (.lst b ds) => b = a ∧ q (.lst ds) (env.set i (.ext (.lst ds))) | some (.ext (.lst ds)) => False | _ => False) := w
    split at w'
    · rename_i b ds hb
      obtain ⟨rfl, w'⟩ := w'
      obtain ⟨F1, sm, h1⟩ := h.pop.freeze hb
      refine ⟨.lst ds, F1, _, sm, h1, ?_, w'⟩
      have hi : i < env.length := (List.getElem?_eq_some_iff.mp hb).1
      rcases h.slots i _ hb with z | ⟨u, hu, e1, _⟩
      · cases z
      · rcases h1.slots i (.ext (.lst ds)) (by rw [List.getElem?_set, if_pos rfl, if_pos hi]) with z | ⟨u', hu', ok⟩
        · cases z
        · rw [hu] at hu'
          cases hu'
          rw [ev, ← e1]
          exact ok
    · exact w'.elim
    · exact w'.elim
theorem Holds.frzs {K : PySem.W.Frag} {e : Ent} {T : Tmp} {σ : St} {H : Hp} : ∀ {vs : List V} {xs : List Sl} {q : List D → Env' → Prop} {F : Hp} {env : Env'}, vs.length = xs.length → Holds K e env (vs.zip xs ++ T) F σ H → HD.frzDs env xs q → ∃ ds F1 env', Same F F1 ∧ Holds K e env' T F1 σ H ∧ Reps K F1 ds vs ∧ q ds env'
  | [], [], q, F, env, _, h, w => ⟨[], F, env, Same.refl _, h, rfl, w⟩
  | [], _ :: _, _, _, _, e, _, _ => by cases e
  | _ :: _, [], _, _, _, e, _, _ => by cases e
  | v :: vs, x :: xs, q, F, env, le, h, w => by
    obtain ⟨d, F1, env1, sm, h1, r1, w1⟩ := h.frz1 w
    obtain ⟨ds, F2, env2, sm2, h2, r2, w2⟩ := Holds.frzs (vs := vs) (xs := xs) (by simpa using le) h1 w1
    exact ⟨d :: ds, F2, env2, sm.trans sm2, h2, ⟨v, vs, rfl, Rep.same sm2 r1, r2⟩, w2⟩
def dTup (t : DTA) : DT := fun Ex env Q => t Ex env fun xs env1 => xs.length ≤ sizeLine ∧ frzDs env1 xs fun ds env2 => Q (.ext (.tup ds)) env2
def dLst (t : DTA) : DT := fun Ex env Q => t Ex env fun xs env1 => xs.length ≤ sizeLine ∧ frzDs env1 xs fun ds env2 => ∀ a, Q (.lst a ds) env2
variable {es : List Expr} {tA : DTA}
theorem de_tup {x1} (h : DAs G N sc k es tA) : DE G N sc k (.Tuple es x1 pos) (dTup tA) := ⟨fun W => by
  obtain ⟨te, p1, i1⟩ := h.ex W
  refine ⟨tTupF te, fun X S => pe_tupF (p1 X S), fun e Ex hl env T F σ H Q R hh ht hR => ?_⟩
  refine i1 e Ex hl env T F σ H _ _ hh ht fun vs H1 F1 env1 xs le hh1 q1 => ⟨by rw [le]; exact q1.1, ?_⟩
  obtain ⟨ds, F2, env2, sm, hh2, r2, q2⟩ := hh1.frzs le q1.2
  exact (hh2.done hR).tup hh2.fh r2 q2⟩
theorem de_lst (h : DAs G N sc k es tA) : DE G N sc k (.List es pos) (dLst tA) := ⟨fun W => by
  obtain ⟨te, p1, i1⟩ := h.ex W
  refine ⟨tLst te, fun X S => pe_lst (p1 X S), fun e Ex hl env T F σ H Q R hh ht hR => ?_⟩
  refine i1 e Ex hl env T F σ H _ _ hh ht fun vs H1 F1 env1 xs le hh1 q1 => ⟨by rw [le]; exact q1.1, fun p n => ?_⟩
  obtain ⟨ds, F2, env2, sm, hh2, r2, q2⟩ := hh1.frzs le q1.2
  exact (hh2.done hR).lst hh2.fh n r2 (q2 p)⟩
def fIx : D → D → (Sl → Prop) → Prop
  | .lst ds, .int i, Q => ∃ d, atI ds i = some d ∧ Q (.ext d)
  | .tup ds, .int i, Q => ∃ d, atI ds i = some d ∧ Q (.ext d)
  | .tk ds, .int i, Q => ∃ d, atI ds i = some d ∧ Q (.ext d)
  | .fz ds, .int i, Q => ∃ d, atI ds i = some d ∧ Q (.ext d)
  | .str z, .int i, Q => z.length ≤ sizeLine ∧ ∃ c, atI z.cps.toList i = some c ∧ Q (.ext (.str ⟨#[c]⟩))
  | _, _, _ => False
theorem Reps.atI {K : PySem.W.Frag} {F : Hp} {ds : List D} {vs : List V} {i : Int} {d : D} (h : Reps K F ds vs) (e : L2.atI ds i = some d) : ∃ v, L2.atI vs i = some v ∧ Rep K F d v := by
  unfold L2.atI at e ⊢
  rw [← h.length]
  cases q : ixN ds.length i with
  | none =>
    rw [q] at e
    cases e
  | some j =>
    rw [q] at e
    exact h.get e
theorem pr_ix {K : PySem.W.Frag} : Pr2 K (rIx K) fIx := fun F H v u d d' Q R fh h1 h2 hf ha => by
  unfold fIx at hf
  split at hf
  · obtain ⟨a, vs, rfl, e1, r1⟩ := h1.lst fh
    obtain ⟨d, e, q⟩ := hf
    obtain ⟨w, e', r⟩ := r1.atI e
    exact .inl ⟨a, vs, _, w, rfl, h2.int, SqL.of e1, e', ha.ext fh r q⟩
  · obtain ⟨a, vs, rfl, e1, _, r1⟩ := h1.tup fh
    obtain ⟨d, e, q⟩ := hf
    obtain ⟨w, e', r⟩ := r1.atI e
    exact .inr (.inl ⟨a, vs, _, w, rfl, h2.int, e1, e', ha.ext fh r q⟩)
  · obtain ⟨a, vs, rfl, e1, _, r1⟩ := h1.tk fh
    obtain ⟨d, e, q⟩ := hf
    obtain ⟨w, e', r⟩ := r1.atI e
    exact .inr (.inl ⟨a, vs, _, w, rfl, h2.int, e1, e', ha.ext fh r q⟩)
  · obtain ⟨a, vs, rfl, e1, r1⟩ := h1.fz fh
    obtain ⟨d, e, q⟩ := hf
    obtain ⟨w, e', r⟩ := r1.atI e
    exact .inl ⟨a, vs, _, w, rfl, h2.int, e1, e', ha.ext fh r q⟩
  · obtain ⟨hz, c, e, q⟩ := hf
    exact .inr (.inr ⟨_, _, c, h1.str, h2.int, hz, e, ha.str fh q⟩)
  · exact hf.elim
theorem de_ix (ha : DE G N sc k a ta) (hb : DE G N sc k b tb) (hs : PlainIx b := by intro _ _; rfl) : DE G N sc k (.Subscript a b pos) (dOp fIx ta tb) := ⟨fun W => by
  obtain ⟨te, p1, i1⟩ := ha.ex W
  obtain ⟨tf, p2, i2⟩ := hb.ex W
  exact ⟨tOp (rIx G.K) te tf, fun X S => pe_ix (by rw [← S.K]; exact ix_seq) (p1 X S) (p2 X S) hs, im_op pr_ix i1 i2⟩⟩
abbrev DTO := DX → Env' → (Option Int → Env' → Prop) → Prop
def ImO (K : PySem.W.Frag) (W : WX) (to : TO) (t : DTO) : Prop :=
  ∀ (e : Ent) (Ex : DX), Link K e W Ex → ∀ (env : Env') (T : Tmp) (F : Hp) (σ : St) (H : Hp) (Q : Option Int → Env' → Prop) (R : Option Int → Hp → Prop),
    Holds K e env T F σ H → t Ex env Q → (∀ o H' F' env', Holds K e env' T F' σ H' → Q o env' → R o H') → to σ H R
structure DO' (G : GG) (N : List Str) (sc : SC) (k : Nat) (e : Option Expr) (t : DTO) : Prop where
  ex : ∀ W : WX, ∃ te, (∀ X, Sit G N sc W k X → PO X e te) ∧ ImO G.K W te t
def dNoPart : DTO := fun _ env Q => Q none env
def dPart (t : DT) : DTO := fun Ex env Q => t Ex env fun x env1 => match x with
  | .ext (.int i) => Q (some i) env1
  | _ => False
theorem do_none : DO' G N sc k none dNoPart := ⟨fun W => ⟨tNoPart, fun X S => po_none, fun e Ex hl env T F σ H Q R hh ht hR => hR none H F env hh ht⟩⟩
theorem do_some (h : DE G N sc k a ta) : DO' G N sc k (some a) (dPart ta) := ⟨fun W => by
  obtain ⟨te, p1, i1⟩ := h.ex W
  refine ⟨tPart te, fun X S => po_some (p1 X S), fun e Ex hl env T F σ H Q R hh ht hR => ?_⟩
  refine i1 e Ex hl env T F σ H _ _ hh ht fun v H1 F1 env1 x hh1 q1 => ?_
  cases x with
  | ext d =>
    cases d with
    | int i => exact ⟨i, hh1.temps (v, .ext (.int i)) List.mem_cons_self, hR (some i) H1 F1 env1 hh1.pop q1⟩
    | _ => exact q1.elim
  | _ => exact q1.elim⟩
def cutD (xs : List D) (lo hi : Option Int) : List D := (xs.drop (HT.sIx xs.length 0 lo)).take (HT.sIx xs.length xs.length hi - HT.sIx xs.length 0 lo)
theorem Reps.cut {K : PySem.W.Frag} {F : Hp} {ds : List D} {vs : List V} (h : Reps K F ds vs) (lo hi : Option Int) : Reps K F (cutD ds lo hi) (cutV vs lo hi) := by
  unfold cutD cutV
  rw [h.length]
  exact (h.drop _).take _
def fSl (d : D) (lo hi : Option Int) (Q : Sl → Prop) : Prop := match d with
  | .lst ds => ∀ a, Q (.lst a (cutD ds lo hi))
  | .fz ds => ∀ a, Q (.lst a (cutD ds lo hi))
  | .tup ds => Q (.ext (.tup (cutD ds lo hi)))
  | _ => False
def dSl (ta : DT) (tl th : DTO) : DT := fun Ex env Q => ta Ex env fun x env1 => tl Ex env1 fun lo env2 => th Ex env2 fun hi env3 => wd env3 x fun d => fSl d lo hi fun sl => Q sl env3
theorem cut_whole {α : Type} {xs : List α} {lo hi : Option Int} (h : HT.sIx xs.length 0 lo = 0 ∧ HT.sIx xs.length xs.length hi = xs.length) : (xs.drop (HT.sIx xs.length 0 lo)).take (HT.sIx xs.length xs.length hi - HT.sIx xs.length 0 lo) = xs := by
  rw [h.1, h.2, List.drop_zero, Nat.sub_zero, List.take_length]
theorem de_slice {lo hi : Option Expr} {tl th : DTO} {p2 : Pos} (h : DE G N sc k a ta) (hl : DO' G N sc k lo tl) (hh : DO' G N sc k hi th) : DE G N sc k (.Subscript a (.Slice lo hi none p2) pos) (dSl ta tl th) := ⟨fun W => by
  obtain ⟨te, p1, i1⟩ := h.ex W
  obtain ⟨tl', p2', i2⟩ := hl.ex W
  obtain ⟨th', p3, i3⟩ := hh.ex W
  refine ⟨tSl (fun x lo hi H Q => rSlL G.K x lo hi H Q ∨ rSlF G.K x lo hi H Q) te tl' th', fun X S => pe_slice (by rw [← S.K]; exact sl_list.or sl_tupF) (p1 X S) (p2' X S) (p3 X S), fun e Ex hl env T F σ H Q R hh ht hR => ?_⟩
  refine i1 e Ex hl env T F σ H _ _ hh ht fun v H1 F1 env1 x hh1 q1 => ?_
  refine i2 e Ex hl env1 _ F1 σ H1 _ _ hh1 q1 fun lo' H2 F2 env2 hh2 q2 => ?_
  refine i3 e Ex hl env2 _ F2 σ H2 _ _ hh2 q2 fun hi' H3 F3 env3 hh3 q3 => ?_
  obtain ⟨d, rd, q4⟩ := hh3.wd (v := v) (sl := x) List.mem_cons_self q3
  have dn := hh3.pop.done hR
  cases d with
  | lst ds =>
    obtain ⟨b, vs, rfl, e1, r1⟩ := rd.lst hh3.fh
    exact .inl ⟨b, vs, rfl, SqL.of e1, fun p n => dn.lst hh3.fh n (r1.cut lo' hi') (q4 p)⟩
  | fz ds =>
    obtain ⟨b, vs, rfl, e1, r1⟩ := rd.fz hh3.fh
    exact .inl ⟨b, vs, rfl, e1, fun p n => dn.lst hh3.fh n (r1.cut lo' hi') (q4 p)⟩
  | tup ds =>
    obtain ⟨b, vs, rfl, e1, e2, r1⟩ := rd.tup hh3.fh
    refine .inr ⟨b, vs, rfl, e1, fun z => ?_, fun _ => dn.tup hh3.fh (r1.cut lo' hi') q4⟩
    refine dn.ext (d := .tup (cutD ds lo' hi')) hh3.fh ⟨b, vs, rfl, e2, ?_⟩ q4
    have q := r1.cut lo' hi'
    unfold cutV at q
    rw [cut_whole z] at q
    exact q
  | _ => exact q4.elim⟩
end
end HD
namespace HD
open PySem L2
abbrev DSpec := List Sl → (Sl → List Sl → Prop) → (Str → List Sl → Prop) → Prop
abbrev entOf (F H : Hp) (args : Env') : Ent := ⟨F, H, ownedE args⟩
def toSp (K : PySem.W.Frag) (n : Nat) (spec : DSpec) : Sp := fun vs H Q E => ∃ (F : Hp) (args : Env') (Qd : Sl → List Sl → Prop) (Xd : Str → List Sl → Prop),
  vs.length = n ∧ Holds K (entOf F H args) args [] F (vs.map some) H ∧ spec args Qd Xd ∧
  (∀ v H' F' r fin, Holds K (entOf F H args) fin [(v, r)] F' (vs.map some) H' → Qd r fin → Q v H') ∧
  (∀ c H' F' fin, Holds K (entOf F H args) fin [] F' (vs.map some) H' → Xd c fin → E (clsV K c) none H')
def rootOf : D → Option Addr
  | .val (.ref a) => some a
  | _ => none
theorem rootOf_some {d : D} {a : Addr} (h : rootOf d = some a) : d = .val (.ref a) := by
  unfold rootOf at h
  split at h
  · cases h; rfl
  · cases h
theorem rootOf_eq {d d' : D} (h : (rootOf d).isSome = true ∧ rootOf d = rootOf d') : d = d' := by
  obtain ⟨h1, h2⟩ := h
  cases e : rootOf d with
  | none => rw [e] at h1; cases h1
  | some a =>
    have e2 : rootOf d' = some a := by rw [← h2]; exact e
    rw [rootOf_some e, rootOf_some e2]
def fin1 : Sl → Option Sl → Sl
  | .ext d, _ => .ext d
  | .lst a _, some (.lst b ds) => if a = b then .lst a ds else .un
  | .reg d _, some (.reg d' cs) => if (rootOf d).isSome = true ∧ rootOf d = rootOf d' then .reg d cs else .un
  | _, _ => .un
def finals (args env : Env') : Env' := (List.range args.length).map fun i => fin1 (args.getD i .un) env[i]?
theorem finals_get {args env : Env'} {i : Nat} {sl : Sl} (h : (finals args env)[i]? = some sl) : ∃ s, args[i]? = some s ∧ sl = fin1 s env[i]? := by
  unfold finals at h
  rw [List.getElem?_map] at h
  by_cases hi : i < args.length
  · rw [List.getElem?_range hi] at h
    have e := Option.some.inj h
    refine ⟨args[i], List.getElem?_eq_getElem hi, ?_⟩
    rw [← e]
    show fin1 (args.getD i .un) _ = _
    rw [List.getD_eq_getElem?_getD, List.getElem?_eq_getElem hi]
    rfl
  · rw [List.getElem?_eq_none (by rw [List.length_range]; omega)] at h
    cases h
theorem fin1_owned (s : Sl) (o : Option Sl) : (fin1 s o).owned.Sublist ((o.getD .un).owned) := by
  cases s with
  | un => exact List.nil_sublist _
  | ext d => exact List.nil_sublist _
  | al i a => exact List.nil_sublist _
  | ar i a => exact List.nil_sublist _
  | reg d cs =>
    cases o with
    | none => exact List.nil_sublist _
    | some s' =>
      cases s' with
      | reg d' cs' =>
        show (if (rootOf d).isSome = true ∧ rootOf d = rootOf d' then Sl.reg d cs' else .un).owned.Sublist (cs'.map (·.1))
        split
        · exact List.Sublist.refl _
        · exact List.nil_sublist _
      | _ => exact List.nil_sublist _
  | lst a ds =>
    cases o with
    | none => exact List.nil_sublist _
    | some s' =>
      cases s' with
      | lst b es =>
        show (if a = b then Sl.lst a es else .un).owned.Sublist [b]
        split
        · rename_i e
          subst e
          exact List.Sublist.refl _
        · exact List.nil_sublist _
      | _ => exact List.nil_sublist _
theorem finals_owned (args env : Env') : (ownedE (finals args env)).Sublist (ownedE env) := by
  have key : ∀ (n : Nat), (ownedE ((List.range n).map fun i => fin1 (args.getD i .un) env[i]?)).Sublist (ownedE (env.take n)) := by
    intro n
    induction n with
    | zero => exact List.nil_sublist _
    | succ n ih =>
      rw [List.range_succ, List.map_append]
      unfold ownedE at ih ⊢
      rw [List.flatMap_append, List.take_add_one, List.flatMap_append]
      refine ih.append ?_
      rw [List.map_cons, List.map_nil, List.flatMap_cons, List.flatMap_nil, List.append_nil]
      refine (fin1_owned _ _).trans ?_
      cases env[n]? with
      | none => exact List.Sublist.refl _
      | some s =>
        show s.owned.Sublist ([s].flatMap Sl.owned)
        rw [List.flatMap_cons, List.flatMap_nil, List.append_nil]
        exact List.Sublist.refl _
  refine (key args.length).trans ?_
  unfold ownedE
  have z := congrArg (List.flatMap Sl.owned) (List.take_append_drop args.length env)
  rw [List.flatMap_append] at z
  rw [← z]
  exact List.sublist_append_left _ _
theorem Holds.finals {K : PySem.W.Frag} {F H F' H' : Hp} {args env : Env'} {T : Tmp} {σ' : St} {vs : List V} (h0 : Holds K (entOf F H args) args [] F (vs.map some) H) (h : Holds K (entOf F H args) env T F' σ' H') : Holds K (entOf F H args) (HD.finals args env) T F' (vs.map some) H' := by
  have sub : (ownedE (HD.finals args env) ++ ownedT T).Sublist (ownedE env ++ ownedT T) := (finals_owned args env).append (List.Sublist.refl _)
  refine ⟨h.fh, ?_, fun i sl q => ?_, h.temps, h.nd.sublist sub, h.s1, h.s2, fun a ha => h.s3 a (sub.subset ha)⟩
  · rw [← h0.len]
    unfold HD.finals
    rw [List.length_map, List.length_range]
  · obtain ⟨s, hs, rfl⟩ := finals_get q
    rcases h0.slots i s hs with z | ⟨v, hv, ok⟩
    · subst z
      exact .inl rfl
    · cases s with
      | un => exact .inl rfl
      | al j a => exact .inl rfl
      | ar j a => exact .inl rfl
      | reg d cs =>
        cases e : env[i]? with
        | none => exact .inl rfl
        | some s' =>
          cases s' with
          | reg d' cs' =>
            show (if (rootOf d).isSome = true ∧ rootOf d = rootOf d' then Sl.reg d cs' else .un) = .un ∨ ∃ v, _ ∧ SlOk K F' H' v (if (rootOf d).isSome = true ∧ rootOf d = rootOf d' then Sl.reg d cs' else .un)
            split
            · rename_i dd
              have ed := rootOf_eq dd
              subst ed
              rcases h.slots i _ e with z | ⟨w, _, ok'⟩
              · cases z
              · exact .inr ⟨v, hv, Rep.same h.s1 ok.1, ok'.2⟩
            · exact .inl rfl
          | _ => exact .inl rfl
      | ext d => exact .inr ⟨v, hv, Rep.same h.s1 ok⟩
      | lst a ds =>
        obtain ⟨rfl, _⟩ := ok
        cases e : env[i]? with
        | none => exact .inl rfl
        | some s' =>
          cases s' with
          | lst b es =>
            show (if a = b then Sl.lst a es else .un) = .un ∨ ∃ v, _ ∧ SlOk K F' H' v (if a = b then Sl.lst a es else .un)
            split
            · rename_i ab
              subst ab
              rcases h.slots i _ e with z | ⟨w, _, ok'⟩
              · cases z
              · obtain ⟨rfl, r⟩ := ok'
                exact .inr ⟨_, hv, rfl, r⟩
            · exact .inl rfl
          | _ => exact .inl rfl
mutual
def D.imm : D → Bool
  | .lst _ => false
  | .exc _ => false
  | .fz _ => false
  | .dk _ _ => false
  | .dt _ _ => false
  | .tup ds => D.imms ds
  | .tk ds => D.imms ds
  | _ => true
def D.imms : List D → Bool
  | [] => true
  | d :: ds => D.imm d && D.imms ds
end
mutual
theorem Rep.ofT {K : PySem.W.Frag} {F F' : Hp} (t : ∀ a xs, SqT K F a xs → SqT K F' a xs) (t2 : ∀ a xs, TupD K F a xs → TupD K F' a xs) : ∀ {d : D} {v : V}, d.imm = true → Rep K F d v → Rep K F' d v
  | .non, _, _, h => h
  | .bl _, _, _, h => h
  | .int _, _, _, h => h
  | .str _, _, _, h => h
  | .val _, _, _, h => h
  | .lst _, _, n, _ => nomatch n
  | .fz _, _, n, _ => nomatch n
  | .exc _, _, n, _ => nomatch n
  | .dk _ _, _, n, _ => nomatch n
  | .dt _ _, _, n, _ => nomatch n
  | .glo _, _, _, h => h
  | .tup _, _, n, h => by
    obtain ⟨a, xs, rfl, hs, hr⟩ := h
    exact ⟨a, xs, rfl, t2 _ _ hs, Reps.ofT t t2 n hr⟩
  | .tk _, _, n, h => by
    obtain ⟨a, xs, rfl, hs, hr⟩ := h
    exact ⟨a, xs, rfl, t _ _ hs, Reps.ofT t t2 n hr⟩
theorem Reps.ofT {K : PySem.W.Frag} {F F' : Hp} (t : ∀ a xs, SqT K F a xs → SqT K F' a xs) (t2 : ∀ a xs, TupD K F a xs → TupD K F' a xs) : ∀ {ds : List D} {vs : List V}, D.imms ds = true → Reps K F ds vs → Reps K F' ds vs
  | [], _, _, h => h
  | d :: ds, _, n, h => by
    obtain ⟨v, r, rfl, h1, h2⟩ := h
    have n' : (D.imm d && D.imms ds) = true := n
    rw [Bool.and_eq_true] at n'
    exact ⟨v, r, rfl, Rep.ofT t t2 n'.1 h1, Reps.ofT t t2 n'.2 h2⟩
end
def Sl.imm : Sl → Bool
  | .ext d => d.imm
  | .lst _ ds => D.imms ds
  | _ => false
section
variable {K : PySem.W.Frag} {e : Ent} {env : Env'} {T : Tmp} {F : Hp} {σ : St} {H : Hp}
structure Left (A : List Addr) (F H F' H' : Hp) : Prop where
  ff : Same F F'
  fh : Same F' H'
  out : ∀ b o, H b = some o → b ∉ A → H' b = some o ∧ (F b = none → F' b = none)
theorem SlOk.left {A : List Addr} {F' H' : Hp} {v : V} {sl : Sl} (l : Left A F H F' H') (n : ∀ a ∈ sl.owned, a ∉ A) (h : SlOk K F H v sl) : SlOk K F' H' v sl := by
  cases sl with
  | un => trivial
  | ext d => exact Rep.same l.ff h
  | al i b => exact h
  | lst b ds =>
    obtain ⟨rfl, q, us, hv, hr⟩ := h
    obtain ⟨q1, q2⟩ := l.out b _ hv (n b (List.mem_singleton.mpr rfl))
    exact ⟨rfl, q2 q, us, q1, hr.same l.ff⟩
  | ar i b => exact h
  | reg b cs =>
    obtain ⟨rd, nd, hc⟩ := h
    refine ⟨Rep.same l.ff rd, nd, fun p hp => ?_⟩
    obtain ⟨q, o', ho, ok⟩ := hc p hp
    obtain ⟨q1, q2⟩ := l.out p.1 _ ho (n p.1 (List.mem_map.mpr ⟨p, hp, rfl⟩))
    exact ⟨q2 q, o', q1, ok.same l.ff⟩
theorem Holds.left0 {F' H' : Hp} {v : V} {r : Sl} (h : Holds K e env T F σ H) (l : Left [] F H F' H') (ok : SlOk K F' H' v r) (own : ∀ a ∈ r.owned, H a = none) : Holds K e env ((v, r) :: T) F' σ H' := by
  have h1 : Holds K e env T F' σ H' := by
    refine ⟨l.fh, h.len, fun i sl q => ?_, fun p hp => (h.temps p hp).left l (fun _ _ z => nomatch z), h.nd, h.s1.trans l.ff, fun a o q n => ?_, h.s3⟩
    · rcases h.slots i sl q with z | ⟨w, hw, ok⟩
      · exact .inl z
      · exact .inr ⟨w, hw, ok.left l fun _ _ z => nomatch z⟩
    · obtain ⟨q1, q2⟩ := h.s2 a o q n
      obtain ⟨r1, r2⟩ := l.out a o q1 (fun z => nomatch z)
      exact ⟨r1, fun z => r2 (q2 z)⟩
  have old := h.ownedH
  have ndo : r.owned.Nodup := ok.ndo
  have dis : ∀ a ∈ r.owned, a ∉ ownedE env ++ ownedT T := fun a ha hb => by
    obtain ⟨_, vs, q⟩ := old a hb
    rw [own a ha] at q
    cases q
  refine ⟨h1.fh, h1.len, h1.slots, fun p hp => ?_, ?_, h1.s1, h1.s2, fun a ha => ?_⟩
  · rcases List.mem_cons.mp hp with rfl | hp
    · exact ok
    · exact h1.temps p hp
  · show (ownedE env ++ (r.owned ++ ownedT T)).Nodup
    have z := h.nd
    rw [List.nodup_append] at z ⊢
    obtain ⟨z1, z2, z3⟩ := z
    refine ⟨z1, ?_, fun a ha b hb => ?_⟩
    · rw [List.nodup_append]
      exact ⟨ndo, z2, fun a ha b hb e => dis a ha (by rw [e]; exact List.mem_append_right _ hb)⟩
    · rcases List.mem_append.mp hb with hb | hb
      · exact fun e => dis b hb (by rw [← e]; exact List.mem_append_left _ ha)
      · exact z3 a ha b hb
  · have ha' : a ∈ ownedE env ++ (r.owned ++ ownedT T) := ha
    rcases List.mem_append.mp ha' with hb | hb
    · exact h.s3 a (List.mem_append_left _ hb)
    · rcases List.mem_append.mp hb with hb | hb
      · have hn := own a hb
        cases q : e.H0 a with
        | none => exact .inr rfl
        | some o =>
          by_cases hA : a ∈ e.A0
          · exact .inl hA
          · rw [(h.s2 a o q hA).1] at hn
            cases hn
      · exact h.s3 a (List.mem_append_right _ hb)
theorem Holds.left1 {F' H' : Hp} {v : V} {r s' : Sl} {i : Nat} {a : Addr} {ds : List D} (h : Holds K e env T F σ H) (hi : env[i]? = some (.lst a ds)) (l : Left [a] F H F' H') (ok : SlOk K F' H' v r) (ok' : SlOk K F' H' (.ref a) s')
    (own : ∀ b ∈ s'.owned ++ r.owned, b = a ∨ H b = none) (nd : (s'.owned ++ r.owned).Nodup) (hp : s'.plain) : Holds K e (env.set i s') ((v, r) :: T) F' σ H' := by
  obtain ⟨hv0, hF0⟩ : (∃ w, σ[i]? = some (some w) ∧ w = .ref a) ∧ F a = none := by
    rcases h.slots i _ hi with z | ⟨w, hw, e1, e2, _⟩
    · cases z
    · exact ⟨⟨w, hw, e1⟩, e2⟩
  obtain ⟨w, hw, rfl⟩ := hv0
  -- the slot's object as a temp, then dropped: the others
  have h0 := (h.take hi hw).pop
  have hx := h.take hi hw
  have na : ∀ b ∈ ownedE (env.set i .un) ++ ownedT T, b ≠ a := fun b hb z => by
    subst z
    have nd := hx.nd
    have perm : (ownedE (env.set i .un) ++ (([b] : List Addr) ++ ownedT T)).Perm ([b] ++ (ownedE (env.set i .un) ++ ownedT T)) := by
      rw [← List.append_assoc, ← List.append_assoc]
      exact List.Perm.append_right _ List.perm_append_comm
    have nd' : ([b] ++ (ownedE (env.set i .un) ++ ownedT T)).Nodup := perm.nodup nd
    exact (List.nodup_append.mp nd').2.2 b (List.mem_singleton.mpr rfl) b hb rfl
  have h1 : Holds K e (env.set i .un) T F' σ H' := by
    refine ⟨l.fh, h0.len, fun j sl q => ?_, fun p hp => (h0.temps p hp).left l (fun b hb z => ?_), h0.nd, h0.s1.trans l.ff, fun b o q n => ?_, h0.s3⟩
    · rcases h0.slots j sl q with z | ⟨w, hw, ok⟩
      · exact .inl z
      · refine .inr ⟨w, hw, ok.left l fun b hb z => ?_⟩
        exact na b (List.mem_append_left _ (mem_ownedE q hb)) (List.mem_singleton.mp z)
    · exact na b (List.mem_append_right _ (List.mem_flatMap.mpr ⟨p, hp, hb⟩)) (List.mem_singleton.mp z)
    · obtain ⟨q1, q2⟩ := h0.s2 b o q n
      have nb : b ∉ [a] := fun z => by
        rw [List.mem_singleton.mp z] at q n
        have mm : a ∈ ownedE env ++ ownedT T := List.mem_append_left _ (mem_ownedE hi (List.mem_singleton.mpr rfl))
        rcases h.s3 a mm with y | y
        · exact n y
        · rw [q] at y
          cases y
      obtain ⟨r1, r2⟩ := l.out b o q1 nb
      exact ⟨r1, fun z => r2 (q2 z)⟩
  have old := h0.ownedH
  have dis : ∀ b ∈ s'.owned ++ r.owned, b ∉ ownedE (env.set i .un) ++ ownedT T := fun b hb hc => by
    rcases own b hb with z | z
    · exact na b hc z
    · obtain ⟨_, vs, q⟩ := old b hc
      rw [z] at q
      cases q
  have fin3 : ∀ b ∈ s'.owned ++ r.owned, b ∈ e.A0 ∨ e.H0 b = none := fun b hb => by
    rcases own b hb with z | z
    · subst z
      exact h.s3 b (List.mem_append_left _ (mem_ownedE hi (List.mem_singleton.mpr rfl)))
    · cases q : e.H0 b with
      | none => exact .inr rfl
      | some o =>
        by_cases hA : b ∈ e.A0
        · exact .inl hA
        · rw [(h.s2 b o q hA).1] at z
          cases z
  -- both come in as temps, then the slot is set
  have h2 : Holds K e (env.set i .un) ((.ref a, s') :: (v, r) :: T) F' σ H' := by
    refine ⟨h1.fh, h1.len, h1.slots, fun p hp => ?_, ?_, h1.s1, h1.s2, fun b hb => ?_⟩
    · rcases List.mem_cons.mp hp with rfl | hp
      · exact ok'
      · rcases List.mem_cons.mp hp with rfl | hp
        · exact ok
        · exact h1.temps p hp
    · show (ownedE (env.set i .un) ++ (s'.owned ++ (r.owned ++ ownedT T))).Nodup
      have z := h0.nd
      rw [← List.append_assoc s'.owned]
      rw [List.nodup_append] at z ⊢
      obtain ⟨z1, z2, z3⟩ := z
      refine ⟨z1, ?_, fun b hb c hc => ?_⟩
      · rw [List.nodup_append]
        exact ⟨nd, z2, fun b hb c hc e => dis b hb (by rw [e]; exact List.mem_append_right _ hc)⟩
      · rcases List.mem_append.mp hc with hc | hc
        · exact fun e => dis c hc (by rw [← e]; exact List.mem_append_left _ hb)
        · exact z3 b hb c hc
    · have hb' : b ∈ ownedE (env.set i .un) ++ (s'.owned ++ (r.owned ++ ownedT T)) := hb
      rw [← List.append_assoc s'.owned] at hb'
      rcases List.mem_append.mp hb' with hc | hc
      · exact h0.s3 b (List.mem_append_left _ hc)
      · rcases List.mem_append.mp hc with hc | hc
        · exact fin3 b hc
        · exact h0.s3 b (List.mem_append_right _ hc)
  have h3 := h2.assign i hp
  rw [List.set_set] at h3
  have z : σ.set i (some (.ref a)) = σ := by
    obtain ⟨hl, q⟩ := List.getElem?_eq_some_iff.mp hw
    rw [← q]
    exact List.set_getElem_self hl
  rw [z] at h3
  exact h3
end
def anyAl : List Sl → Bool
  | [] => false
  | .al _ _ :: _ => true
  | .ar _ _ :: _ => true
  | _ :: r => anyAl r
section
variable {K : PySem.W.Frag} {e : Ent} {env : Env'} {T : Tmp} {σ : St} {H : Hp}
theorem Holds.lend : ∀ {vs : List V} {xs : List Sl} {q : List D → Prop} {F : Hp}, vs.length = xs.length → Holds K e env (vs.zip xs ++ T) F σ H → HD.wds env xs q →
    ∃ ds F1 Fc, q ds ∧ Holds K e env T F1 σ H ∧ Same F F1 ∧ Same F1 Fc ∧ Reps K Fc ds vs ∧ Same Fc H ∧ (∀ b, Fc b ≠ none → F1 b ≠ none ∨ b ∈ ownedE env) ∧ (anyAl xs = false → Fc = F1)
  | [], [], q, F, _, h, w => ⟨[], F, F, w, h, Same.refl _, Same.refl _, rfl, h.fh, fun _ z => .inl z, fun _ => rfl⟩
  | [], _ :: _, _, _, le, _, _ => by cases le
  | _ :: _, [], _, _, le, _, _ => by cases le
  | v :: vs, x :: xs, q, F, le, h, w => by
    have le' : vs.length = xs.length := by simpa using le
    cases x with
    | un => exact w.elim
    | reg _ _ => exact w.elim
    | ar i b =>
      have ev : v = .ref b := h.temps (v, .ar i b) List.mem_cons_self
      have h' : Holds K e env (vs.zip xs ++ T) F σ H := h.pop
      have w' : (match env[i]? with | some (.reg _ cs) => (match cellOf cs b with | some (.lst ds) => HD.wds env xs (fun es => q (.lst ds :: es)) | _ => False) | _ => False) := w
      split at w'
      · rename_i dr cs hb
        split at w'
        · rename_i es hc
          obtain ⟨ds, F1, Fc, w1, h1, s1, s2, r, fh, nw, na⟩ := Holds.lend (q := fun ds => q (.lst es :: ds)) le' h' w'
          obtain ⟨e2, o, hv, us, rfl, hr⟩ := h1.cell hb hc
          have s3 : Same Fc (upd Fc b (.lst us)) := fun c o qc => by
            by_cases nc : c = b
            · rw [nc] at qc ⊢
              have := fh _ _ qc
              rw [hv] at this
              rw [upd_same]
              exact this
            · rw [upd_ne nc]
              exact qc
          refine ⟨.lst es :: ds, F1, upd Fc b (.lst us), w1, h1, s1, s2.trans s3, ⟨v, vs, rfl, ⟨b, us, ev, upd_same, hr.same (s2.trans s3)⟩, r.same s3⟩, fun c o qc => ?_, fun c nc => ?_, fun z => nomatch z⟩
          · by_cases ec : c = b
            · rw [ec, upd_same] at qc
              rw [ec, hv]
              exact qc
            · rw [upd_ne ec] at qc
              exact fh _ _ qc
          · by_cases ec : c = b
            · rw [ec]
              exact .inr (mem_ownedE hb (List.mem_map.mpr ⟨(b, .lst es), cellOf_mem hc, rfl⟩))
            · rw [upd_ne ec] at nc
              exact nw c nc
        · exact w'.elim
      · exact w'.elim
    | ext d =>
      have rd : Rep K F d v := h.temps (v, .ext d) List.mem_cons_self
      have h' : Holds K e env (vs.zip xs ++ T) F σ H := h.pop
      obtain ⟨ds, F1, Fc, w1, h1, s1, s2, r, fh, nw, na⟩ := Holds.lend (q := fun ds => q (d :: ds)) le' h' w
      exact ⟨d :: ds, F1, Fc, w1, h1, s1, s2, ⟨v, vs, rfl, Rep.same (s1.trans s2) rd, r⟩, fh, nw, na⟩
    | lst a es =>
      obtain ⟨F0, s0, h0⟩ := h.freezeT
      have rd : Rep K F0 (.lst es) v := h0.temps (v, .ext (.lst es)) List.mem_cons_self
      have h' : Holds K e env (vs.zip xs ++ T) F0 σ H := h0.pop
      obtain ⟨ds, F1, Fc, w1, h1, s1, s2, r, fh, nw, na⟩ := Holds.lend (q := fun ds => q (.lst es :: ds)) le' h' w
      exact ⟨.lst es :: ds, F1, Fc, w1, h1, s0.trans s1, s2, ⟨v, vs, rfl, Rep.same (s1.trans s2) rd, r⟩, fh, nw, na⟩
    | al i a =>
      have ev : v = .ref a := h.temps (v, .al i a) List.mem_cons_self
      have h' : Holds K e env (vs.zip xs ++ T) F σ H := h.pop
      have w' : (match env[i]? with | some (.lst b ds) => b = a ∧ HD.wds env xs (fun es => q (.lst ds :: es)) | _ => False) := w
      split at w'
      · rename_i b es hb
        obtain ⟨rfl, w'⟩ := w'
        obtain ⟨ds, F1, Fc, w1, h1, s1, s2, r, fh, nw, na⟩ := Holds.lend (q := fun ds => q (.lst es :: ds)) le' h' w'
        rcases h1.slots i _ hb with z | ⟨u, hu, e1, e2, us, hv, hr⟩
        · cases z
        · have s3 : Same Fc (upd Fc b (.lst us)) := fun c o qc => by
            by_cases nc : c = b
            · rw [nc] at qc ⊢
              have := fh _ _ qc
              rw [hv] at this
              rw [upd_same]
              exact this
            · rw [upd_ne nc]
              exact qc
          refine ⟨.lst es :: ds, F1, upd Fc b (.lst us), w1, h1, s1, s2.trans s3, ⟨v, vs, rfl, ⟨b, us, ev, upd_same, hr.same (s2.trans s3)⟩, r.same s3⟩, fun c o qc => ?_, fun c nc => ?_, fun z => nomatch z⟩
          · by_cases ec : c = b
            · rw [ec, upd_same] at qc
              rw [ec, hv]
              exact qc
            · rw [upd_ne ec] at qc
              exact fh _ _ qc
          · by_cases ec : c = b
            · rw [ec]
              exact .inr (mem_ownedE hb (List.mem_singleton.mpr rfl))
            · rw [upd_ne ec] at nc
              exact nw c nc
      · exact w'.elim
theorem Holds.thaw {F1 Fc F' H' : Hp} (h : Holds K e env T F1 σ H) (s2 : Same F1 Fc) (nw : ∀ b, Fc b ≠ none → F1 b ≠ none ∨ b ∈ ownedE env) (l : Left [] Fc H F' H') :
    ∃ F2, Left [] F1 H F2 H' ∧ (∀ (d : D) (v : V), d.imm = true → Rep K F' d v → Rep K F2 d v) ∧ (∀ (ds : List D) (vs : List V), D.imms ds = true → Reps K F' ds vs → Reps K F2 ds vs) ∧ ∀ b, F' b = none → F2 b = none := by
  have old := h.ownedL
  have sT : ∀ a xs, SqT K F' a xs → SqT K (fun b => if b ∈ ownedE env then none else F' b) a xs := fun a xs hs => by
    have out : ∀ o, F' a = some o → a ∈ ownedE env → Loose o := fun o q m => by
      obtain ⟨_, us, hu, lo⟩ := old a (List.mem_append_left _ m)
      have z := (l.out a _ hu (fun z => nomatch z)).1
      rw [l.fh _ _ q] at z
      rw [Option.some.inj z]
      exact lo
    rcases hs with (hs | ⟨o, hs⟩) | hs
    · refine .inl (.inl ?_)
      have n : a ∉ ownedE env := fun m => by
        obtain ⟨z1, z2⟩ := out _ hs m
        first | exact z1 _ rfl | exact z2 _ _ rfl
      show (if a ∈ ownedE env then none else F' a) = _
      rw [if_neg n]
      exact hs
    · refine .inl (.inr ⟨o, ?_⟩)
      have n : a ∉ ownedE env := fun m => by
        obtain ⟨z1, z2⟩ := out _ hs m
        first | exact z1 _ rfl | exact z2 _ _ rfl
      show (if a ∈ ownedE env then none else F' a) = _
      rw [if_neg n]
      exact hs
    · exact .inr hs
  have sD : ∀ a xs, TupD K F' a xs → TupD K (fun b => if b ∈ ownedE env then none else F' b) a xs := fun a xs hs => by
    rcases hs with ⟨o, hs, d⟩ | hs
    · refine .inl ⟨o, ?_, d⟩
      have n : a ∉ ownedE env := fun m => by
        obtain ⟨_, us, hu, lo⟩ := old a (List.mem_append_left _ m)
        have z := (l.out a _ hu (fun z => nomatch z)).1
        rw [l.fh _ _ hs] at z
        cases z
        obtain ⟨z1, z2⟩ := lo
        first | exact z1 _ rfl | exact z2 _ _ rfl
      show (if a ∈ ownedE env then none else F' a) = _
      rw [if_neg n]
      exact hs
    · exact .inr hs
  refine ⟨fun b => if b ∈ ownedE env then none else F' b, ⟨fun b o q => ?_, fun b o q => ?_, fun b o q n => ?_⟩, fun d v n r => Rep.ofT sT sD n r, fun ds vs n r => Reps.ofT sT sD n r, fun b q => ?_⟩
  · have n : b ∉ ownedE env := fun m => by
      rw [(old b (List.mem_append_left _ m)).1] at q
      cases q
    show (if b ∈ ownedE env then none else F' b) = _
    rw [if_neg n]
    exact l.ff _ _ (s2 _ _ q)
  · have q' : (if b ∈ ownedE env then none else F' b) = some o := q
    split at q'
    · cases q'
    · exact l.fh _ _ q'
  · obtain ⟨r1, r2⟩ := l.out b o q n
    refine ⟨r1, fun z => ?_⟩
    show (if b ∈ ownedE env then none else F' b) = none
    by_cases m : b ∈ ownedE env
    · rw [if_pos m]
    · rw [if_neg m]
      refine r2 ?_
      cases y : Fc b with
      | none => rfl
      | some o' =>
        rcases nw b (by rw [y]; simp) with t | t
        · exact absurd z t
        · exact absurd t m
  · show (if b ∈ ownedE env then none else F' b) = none
    split
    · rfl
    · exact q
theorem ownedE_ext (ds : List D) : ownedE (ds.map Sl.ext) = [] := by
  unfold ownedE
  rw [List.flatMap_eq_nil_iff]
  intro x hx
  obtain ⟨d, _, rfl⟩ := List.mem_map.mp hx
  rfl
theorem argsE {F : Hp} {ds : List D} {vs : List V} (fh : Same F H) (r : Reps K F ds vs) : Holds K (entOf F H (ds.map .ext)) (ds.map .ext) [] F (vs.map some) H := by
  have own := ownedE_ext ds
  refine ⟨fh, by rw [List.length_map, List.length_map, r.length], fun i sl q => ?_, (fun p hp => nomatch hp), by rw [own]; exact List.nodup_nil, Same.refl _, fun a o q _ => ⟨q, fun z => z⟩, fun a ha => ?_⟩
  · rw [List.getElem?_map] at q
    cases z : ds[i]? with
    | none =>
      rw [z] at q
      cases q
    | some d =>
      rw [z] at q
      have e := Option.some.inj q
      subst e
      obtain ⟨v, hv, rd⟩ := r.get z
      exact .inr ⟨v, by rw [List.getElem?_map, hv]; rfl, rd⟩
  · rw [own] at ha
    cases ha
end
def dCall (spec : DSpec) (ta : DTA) : DT := fun Ex env Q => ta Ex env fun xs env1 => wds env1 xs fun ds =>
  spec (ds.map .ext) (fun r _ => (anyAl xs = false ∨ r.imm = true) ∧ r.plain ∧ Q r env1) (fun c _ => Ex c env1)
theorem im_call {K : PySem.W.Frag} {W : WX} {spec : DSpec} {n : Nat} {ta : TA} {t : DTA} (h : ImA K W ta t) (hn : ∀ ds Q X, spec ds Q X → ds.length = n) : Im K W (tCallS (toSp K n spec) (WE W) ta) (dCall spec t) := fun e Ex hl env T F σ H Q R hh ht hR => by
  refine h e Ex hl env T F σ H _ _ hh ht fun vs H1 F1 env1 xs le hh1 q1 => ?_
  obtain ⟨ds, F2, Fc, q2, hh2, sm1, sm2, rr, fh, nw, na⟩ := hh1.lend le q1
  have back : ∀ (H' F' : Hp), Same Fc F' → Same F' H' → (∀ a o, H1 a = some o → a ∉ ownedE (ds.map Sl.ext) → H' a = some o ∧ (Fc a = none → F' a = none)) → Left [] Fc H1 F' H' := fun H' F' a b c => ⟨a, b, fun x o q _ => c x o q (by rw [ownedE_ext]; exact fun z => nomatch z)⟩
  refine ⟨Fc, ds.map .ext, _, _, ?_, argsE fh rr, q2, fun v H' F' r fin hf hq => ?_, fun c H' F' fin hf hq => ?_⟩
  · rw [← hn _ _ _ q2, List.length_map, rr.length]
  · obtain ⟨qi, qp, q3⟩ := hq
    have l := back H' F' hf.s1 hf.fh hf.s2
    have own : ∀ a ∈ r.owned, H1 a = none := fun a ha => by
      have m : a ∈ ownedE fin ++ ownedT [(v, r)] := List.mem_append_right _ (by
        show a ∈ r.owned ++ []
        rw [List.append_nil]
        exact ha)
      rcases hf.s3 a m with z | z
      · have z' : a ∈ ownedE (ds.map Sl.ext) := z
        rw [ownedE_ext] at z'
        cases z'
      · exact z
    have ok := hf.temps (v, r) List.mem_cons_self
    by_cases al : anyAl xs = false
    · have ec := na al
      subst ec
      exact hR v H' F' env1 r (hh2.left0 l ok own) q3
    · have im : r.imm = true := by
        rcases qi with z | z
        · exact absurd z al
        · exact z
      obtain ⟨F3, l3, t1, t2, t3⟩ := hh2.thaw sm2 nw l
      refine hR v H' F3 env1 r (hh2.left0 l3 ?_ own) q3
      cases r with
      | un => exact nomatch im
      | al i a => exact nomatch im
      | reg _ _ => exact nomatch im
      | ar _ _ => exact nomatch im
      | ext d => exact t1 d v im ok
      | lst a es =>
        obtain ⟨e1, e2, us, hu, hr⟩ := ok
        exact ⟨e1, t3 _ e2, us, hu, t2 es us im hr⟩
  · have l := back H' F' hf.s1 hf.fh hf.s2
    obtain ⟨F3, l3, _, _, _⟩ := hh2.thaw sm2 nw l
    have h4 := hh2.left0 (v := .non) (r := .ext .non) l3 rfl (fun a z => nomatch z)
    exact hl c env1 F3 σ H' h4.bare hq
def dCallJ (spec : DSpec) (i : Nat) (ta : DTA) : DT := fun Ex env Q => match env[i]? with
  | some (.lst a _) => ta Ex env fun xs env1 => match env1[i]? with
    | some (.lst b ds) => b = a ∧ frozs env1 xs fun es => spec (.lst a ds :: es.map .ext)
        (fun r fin => match fin with | s' :: _ => s'.plain ∧ r.plain ∧ Q r (env1.set i s') | [] => False) (fun c fin => match fin with | s' :: _ => s'.plain ∧ Ex c (env1.set i s') | [] => False)
    | _ => False
  | _ => False
theorem im_callJ {K : PySem.W.Frag} {W : WX} {spec : DSpec} {n i : Nat} {ta : TA} {t : DTA} (h : ImA K W ta t) (hn : ∀ ds Q X, spec ds Q X → ds.length = n) : Im K W (tCallS (toSp K n spec) (WE W) (tCons (tVar i) ta)) (dCallJ spec i t) := fun e Ex hl env T F σ H Q R hh ht hR => by
  unfold dCallJ at ht
  split at ht
  · rename_i a ds0 hi0
    rcases hh.slots i _ hi0 with z | ⟨v0, hv0, e0, _⟩
    · cases z
    · subst e0
      refine ⟨_, hv0, ?_⟩
      refine h e Ex hl env T F σ H _ _ hh ht fun vs H1 F1 env1 xs le hh1 q1 => ?_
      split at q1
      · rename_i b ds hi
        obtain ⟨rfl, q1⟩ := q1
        obtain ⟨es, F2, sm, hh2, rr, q2⟩ := hh1.frozs le q1
        have own0 : ownedE (Sl.lst b ds :: es.map Sl.ext) = [b] := by
          show [b] ++ ownedE (es.map Sl.ext) = [b]
          rw [ownedE_ext, List.append_nil]
        have hs := hh2.slots i _ hi
        have okJ : SlOk K F2 H1 (.ref b) (.lst b ds) := by
          rcases hs with z | ⟨w, _, e1, r⟩
          · cases z
          · exact ⟨rfl, r⟩
        have hE := argsE (K := K) hh2.fh rr
        have hA : Holds K (entOf F2 H1 (Sl.lst b ds :: es.map Sl.ext)) (Sl.lst b ds :: es.map Sl.ext) [] F2 ((V.ref b :: vs).map some) H1 := by
          refine ⟨hh2.fh, ?_, fun j sl q => ?_, (fun p hp => nomatch hp), ?_, Same.refl _, fun a o q _ => ⟨q, fun z => z⟩, fun a ha => ?_⟩
          · have z := hE.len
            show (es.map Sl.ext).length + 1 = (vs.map some).length + 1
            rw [z]
          · cases j with
            | zero =>
              have z := Option.some.inj q
              subst z
              exact .inr ⟨.ref b, rfl, okJ⟩
            | succ j => exact hE.slots j sl q
          · rw [own0]
            show ([b] ++ ([] : List Addr)).Nodup
            simp
          · rw [show ownedT ([] : Tmp) = [] from rfl, List.append_nil] at ha
            exact .inl ha
        have back : ∀ (H' F' : Hp) (fin : Env') (U : Tmp), Holds K (entOf F2 H1 (Sl.lst b ds :: es.map Sl.ext)) fin U F' ((V.ref b :: vs).map some) H' → Left [b] F2 H1 F' H' := fun H' F' fin U hf =>
          ⟨hf.s1, hf.fh, fun x o q nx => hf.s2 x o q (by
            show x ∉ ownedE (Sl.lst b ds :: es.map Sl.ext)
            rw [own0]
            exact nx)⟩
        have ownF : ∀ (H' F' : Hp) (fin : Env') (U : Tmp), Holds K (entOf F2 H1 (Sl.lst b ds :: es.map Sl.ext)) fin U F' ((V.ref b :: vs).map some) H' → ∀ x ∈ ownedE fin ++ ownedT U, x = b ∨ H1 x = none := fun H' F' fin U hf x hx => by
          rcases hf.s3 x hx with z | z
          · have z' : x ∈ ownedE (Sl.lst b ds :: es.map Sl.ext) := z
            rw [own0] at z'
            exact .inl (List.mem_singleton.mp z')
          · exact .inr z
        refine ⟨F2, Sl.lst b ds :: es.map Sl.ext, _, _, ?_, hA, q2, fun v H' F' r fin hf hq => ?_, fun c H' F' fin hf hq => ?_⟩
        · rw [← hn _ _ _ q2]
          show vs.length + 1 = (es.map Sl.ext).length + 1
          rw [List.length_map, rr.length]
        · cases fin with
          | nil => exact hq.elim
          | cons s' fr =>
            obtain ⟨qs, qr, q3⟩ := hq
            have ok' : SlOk K F' H' (.ref b) s' := by
              rcases hf.slots 0 s' rfl with z | ⟨w, hw, ok⟩
              · subst z
                trivial
              · have z := Option.some.inj (Option.some.inj hw)
                subst z
                exact ok
            have sub : (s'.owned ++ r.owned).Sublist (ownedE (s' :: fr) ++ ownedT [(v, r)]) := by
              show (s'.owned ++ r.owned).Sublist ((s'.owned ++ ownedE fr) ++ (r.owned ++ []))
              rw [List.append_nil]
              exact (List.sublist_append_left _ _).append (List.Sublist.refl _)
            exact hR v H' F' _ r (hh2.left1 hi (back H' F' _ _ hf) (hf.temps (v, r) List.mem_cons_self) ok' (fun x hx => ownF H' F' _ _ hf x (sub.subset hx)) (hf.nd.sublist sub) qs) q3
        · cases fin with
          | nil => exact hq.elim
          | cons s' fr =>
            obtain ⟨qs, q3⟩ := hq
            have ok' : SlOk K F' H' (.ref b) s' := by
              rcases hf.slots 0 s' rfl with z | ⟨w, hw, ok⟩
              · subst z
                trivial
              · have z := Option.some.inj (Option.some.inj hw)
                subst z
                exact ok
            have sub : (s'.owned ++ (Sl.ext .non).owned).Sublist (ownedE (s' :: fr) ++ ownedT []) := by
              show (s'.owned ++ []).Sublist ((s'.owned ++ ownedE fr) ++ [])
              rw [List.append_nil, List.append_nil]
              exact List.sublist_append_left _ _
            have h5 := hh2.left1 (v := .non) (r := .ext .non) hi (back H' F' _ _ hf) rfl ok' (fun x hx => ownF H' F' _ _ hf x (sub.subset hx)) (hf.nd.sublist sub) qs
            exact hl c _ F' σ H' h5.bare q3
      · exact q1.elim
  · exact ht.elim
structure Def (G : GG) (kf : Nat) (x : Str) (n : Nat) (spec : DSpec) : Prop where
  ex : ∃ f fd ps, FnG G.P G.w G.K G.mg G.base (L2.CX G.P G.w) kf f fd ps (toSp G.K n spec) ∧ G.mg x = some (.ref f) ∧ PySem.W.keepIn G.K (.ref f) = true ∧ Binds G.K fd ps []
  len : ∀ ds Q X, spec ds Q X → ds.length = n
section
variable {G : GG} {N : List Str} {sc : SC} {k kf n : Nat} {x : Str} {spec : DSpec} {e : Expr} {es : List Expr} {p pos : Pos}
theorem Def.pe {W : WX} {X : Cx} {ta : TA} (d : Def G kf x n spec) (S : Sit G N sc W k X) (hk : kf ≤ k) (hg : GlS sc x) (ha : PA X (e :: es) ta) (hdb : (x == ("__debug__" : Str)) = false) (he : NoStar e es) (hpl : ∀ env, (backTo pos (starEach es env)).any (·.1) = false) :
    PE X (.Call (.Name x p) (e :: es) [] pos) (tCallS (toSp G.K n spec) (WE W) ta) := by
  obtain ⟨f, fd, ps, h1, h2, h3, h4⟩ := d.ex
  have pass : ∀ σ, PassesAt (L2.CX X.prog X.w) X σ (WE W σ) := fun σ => passAt S.tk σ
  rw [← S.prog, ← S.w, ← S.K, ← S.mg, ← S.base] at h1
  rw [← S.K] at h3 h4 ⊢
  rw [← S.mg] at h2
  refine ⟨fun pins s σ H Q I h => ?_⟩
  refine wpAny_Call_Name_kw (ld_glob I (S.gl hg) h2 ?_ hdb)
  refine PySem.W.callWith_K (h₀ := X.base) I.ok.mod.kin h3 (thn (ha.run pos pins s σ H _ I h) fun us s1 ⟨vs, H1, I1, r, q⟩ => ⟨I1.kIn, ?_⟩) (he _) (hpl _)
  exact runG h1 S.gd (S.room.mono hk) h4 (pass σ) I1 r q
theorem de_call {ta : DTA} (d : Def G kf x n spec) (ha : DAs G N sc k (e :: es) ta) (hk : kf ≤ k := by decide) (hg : GlS sc x := by rfl) (hdb : (x == ("__debug__" : Str)) = false := by decide) (he : NoStar e es := by intro _; rfl) (hpl : ∀ env, (backTo pos (starEach es env)).any (·.1) = false := by intro _; rfl) :
    DE G N sc k (.Call (.Name x p) (e :: es) [] pos) (dCall spec ta) := ⟨fun W => by
  obtain ⟨te, p1, i1⟩ := ha.ex W
  exact ⟨tCallS (toSp G.K n spec) (WE W) te, fun X S => d.pe S hk hg (p1 X S) hdb he hpl, im_call i1 d.len⟩⟩
theorem de_callJ {ta : DTA} {y : Str} {py : Pos} (i : Nat) (d : Def G kf x n spec) (ha : DAs G N sc k es ta) (hk : kf ≤ k := by decide) (hg : GlS sc x := by rfl) (hN : N[i]? = some y := by rfl)
    (hv : Vis sc.sc y := by first | exact Or.inl rfl | exact Or.inr (Or.inl rfl) | exact Or.inr (Or.inr rfl)) (hdb : (x == ("__debug__" : Str)) = false := by decide) (hdy : (y == ("__debug__" : Str)) = false := by decide) (hcy : (y == ("__classdict__" : Str)) = false := by decide)
    (he : NoStar (.Name y py) es := by intro _; rfl) (hpl : ∀ env, (backTo pos (starEach es env)).any (·.1) = false := by intro _; rfl) :
    DE G N sc k (.Call (.Name x p) (.Name y py :: es) [] pos) (dCallJ spec i ta) := ⟨fun W => by
  obtain ⟨te, p1, i1⟩ := ha.ex W
  refine ⟨tCallS (toSp G.K n spec) (WE W) (tCons (tVar i) te), fun X S => d.pe S hk hg (pa_cons (pe_var (by rw [S.nms]; exact hN) (S.vis hv) hdy hcy) (p1 X S) (he _)) hdb he hpl, im_callJ i1 d.len⟩⟩
end
end HD
namespace HD
open PySem L2
structure DEnds where
  nx : Env' → Prop
  rt : Sl → Env' → Prop
  bk : Env' → Prop := fun _ => False
  ct : Env' → Prop := fun _ => False
abbrev DTS := DX → DEnds → Env' → Prop
structure EndsOk (K : PySem.W.Frag) (e : Ent) (E : DEnds) (Dn : Ends) : Prop where
  nx : ∀ env F σ H, Holds K e env [] F σ H → E.nx env → Dn.nx σ H
  rt : ∀ env F σ H v r, Holds K e env [(v, r)] F σ H → E.rt r env → Dn.rt v H
  bk : ∀ env F σ H, Holds K e env [] F σ H → E.bk env → Dn.bk σ H
  ct : ∀ env F σ H, Holds K e env [] F σ H → E.ct env → Dn.ct σ H
def ImS (K : PySem.W.Frag) (W : WX) (ts : TS) (t : DTS) : Prop :=
  ∀ (e : Ent) (Ex : DX), Link K e W Ex → ∀ (env : Env') (F : Hp) (σ : St) (H : Hp) (E : DEnds) (Dn : Ends), Holds K e env [] F σ H → t Ex E env → EndsOk K e E Dn → ts Dn σ H
structure DS (G : GG) (N : List Str) (sc : SC) (k : Nat) (st : Stmt) (t : DTS) : Prop where
  ex : ∀ W : WX, ∃ ts, (∀ X, Sit G N sc W k X → PS X st ts) ∧ ImS G.K W ts t
structure DSs (G : GG) (N : List Str) (sc : SC) (k : Nat) (st : List Stmt) (t : DTS) : Prop where
  ex : ∀ W : WX, ∃ ts, (∀ X, Sit G N sc W k X → PSs X st ts) ∧ ImS G.K W ts t
section
variable {G : GG} {N : List Str} {sc : SC} {k : Nat} {st : Stmt} {rest : List Stmt} {t u : DTS} {a : Expr} {ta : DT} {pos : Pos}
def sNext : DTS := fun _ E env => E.nx env
def sSeq (t u : DTS) : DTS := fun Ex E env => t Ex { E with nx := fun env1 => u Ex E env1 } env
theorem dss_nil : DSs G N sc k [] sNext := ⟨fun W => ⟨tNext, fun X S => pss_nil, fun e Ex hl env F σ H E Dn hh ht ok => ok.nx env F σ H hh ht⟩⟩
theorem dss_cons (h1 : DS G N sc k st t) (h2 : DSs G N sc k rest u) : DSs G N sc k (st :: rest) (sSeq t u) := ⟨fun W => by
  obtain ⟨ts, p1, i1⟩ := h1.ex W
  obtain ⟨us, p2, i2⟩ := h2.ex W
  refine ⟨tSeq ts us, fun X S => pss_cons (p1 X S) (p2 X S), fun e Ex hl env F σ H E Dn hh ht ok => ?_⟩
  exact i1 e Ex hl env F σ H _ _ hh ht ⟨fun env1 F1 σ1 H1 hh1 q1 => i2 e Ex hl env1 F1 σ1 H1 E Dn hh1 q1 ok, ok.rt, ok.bk, ok.ct⟩⟩
theorem dss_one (h1 : DS G N sc k st t) : DSs G N sc k [st] t := ⟨fun W => by
  obtain ⟨ts, p1, i1⟩ := h1.ex W
  exact ⟨ts, fun X S => pss_one (p1 X S), i1⟩⟩
def sBreak : DTS := fun _ E env => E.bk env
def sCont : DTS := fun _ E env => E.ct env
def sDrop (t : DT) : DTS := fun Ex E env => t Ex env fun _ env1 => E.nx env1
theorem ds_expr (h : DE G N sc k a ta) (hs : ∀ env, swapsWith a none pos.line env = pure false := by intro _; rfl) : DS G N sc k (.Expr a pos) (sDrop ta) := ⟨fun W => by
  obtain ⟨te, p1, i1⟩ := h.ex W
  refine ⟨tDrop te, fun X S => ps_expr (p1 X S) (hs _), fun e Ex hl env F σ H E Dn hh ht ok => ?_⟩
  exact i1 e Ex hl env [] F σ H _ _ hh ht fun v H1 F1 env1 x hh1 q1 => ok.nx env1 F1 σ H1 hh1.pop q1⟩
def retD (env : Env') (x : Sl) (q : Sl → Env' → Prop) : Prop := match x with
  | .al i a => match env[i]? with
    | some (.lst b ds) => b = a ∧ q (.lst a ds) (env.set i .un)
    | _ => False
  | .un => False
  | .ext d => q (.ext d) env
  | .lst a ds => q (.lst a ds) env
  | .reg a cs => q (.reg a cs) env
  | .ar _ _ => False
def sRet (t : DT) : DTS := fun Ex E env => t Ex env fun x env1 => retD env1 x E.rt
theorem Holds.ret {K : PySem.W.Frag} {e : Ent} {env : Env'} {T : Tmp} {F : Hp} {σ : St} {H : Hp} {v : V} {x : Sl} {q : Sl → Env' → Prop} (h : Holds K e env ((v, x) :: T) F σ H) (w : retD env x q) : ∃ r env', Holds K e env' ((v, r) :: T) F σ H ∧ r.plain ∧ q r env' := by
  cases x with
  | un => exact w.elim
  | ext d => exact ⟨_, _, h, trivial, w⟩
  | lst a ds => exact ⟨_, _, h, trivial, w⟩
  | reg a ds => exact ⟨_, _, h, trivial, w⟩
  | ar _ _ => exact w.elim
  | al i a =>
    have ev : v = .ref a := h.temps (v, .al i a) List.mem_cons_self
    have w' : (match env[i]? with | some (.lst b ds) => b = a ∧ q (.lst a ds) (env.set i .un) | _ => False) := w
    split at w'
    · rename_i b ds hb
      obtain ⟨rfl, w'⟩ := w'
      rcases h.slots i _ hb with z | ⟨u, hu, e1, _⟩
      · cases z
      · subst e1
        subst ev
        exact ⟨_, _, h.pop.take hb hu, trivial, w'⟩
    · exact w'.elim
theorem ds_ret (h : DE G N sc k a ta) : DS G N sc k (.Return (some a) pos) (sRet ta) := ⟨fun W => by
  obtain ⟨te, p1, i1⟩ := h.ex W
  refine ⟨tRet te, fun X S => ps_ret (p1 X S), fun e Ex hl env F σ H E Dn hh ht ok => ?_⟩
  refine i1 e Ex hl env [] F σ H _ _ hh ht fun v H1 F1 env1 x hh1 q1 => ?_
  obtain ⟨r, env2, hh2, _, q2⟩ := hh1.ret q1
  exact ok.rt env2 F1 σ H1 v r hh2 q2⟩
def sRetN : DTS := fun _ E env => E.rt (.ext .non) env
def sIf (c : DTT) (t u : DTS) : DTS := fun Ex E env => c Ex env fun b env1 => if b = true then t Ex E env1 else u Ex E env1
theorem ds_if {c : Expr} {x y : List Stmt} {tc : DTT} (hc : DTe G N sc k c tc) (h1 : DSs G N sc k x t) (h2 : DSs G N sc k y u) : DS G N sc k (.If c x y pos) (sIf tc t u) := ⟨fun W => by
  obtain ⟨tt, p0, i0⟩ := hc.ex W
  obtain ⟨ts, p1, i1⟩ := h1.ex W
  obtain ⟨us, p2, i2⟩ := h2.ex W
  refine ⟨tIfS tt ts us, fun X S => ps_if (p0 X S) (p1 X S) (p2 X S), fun e Ex hl env F σ H E Dn hh ht ok => ?_⟩
  refine i0 e Ex hl env [] F σ H _ _ hh ht fun b H1 F1 env1 hh1 q1 => ?_
  cases b with
  | true =>
    rw [if_pos rfl] at q1 ⊢
    exact i1 e Ex hl env1 F1 σ H1 E Dn hh1 q1 ok
  | false =>
    rw [if_neg Bool.false_ne_true] at q1 ⊢
    exact i2 e Ex hl env1 F1 σ H1 E Dn hh1 q1 ok⟩
def sFz (i : Nat) (t : DTS) : DTS := fun Ex E env => match env[i]? with
  | some (.lst _ ds) => t Ex E (env.set i (.ext (.lst ds)))
  | _ => t Ex E env
abbrev DTG := D → Env' → (Env' → Prop) → Prop
def Only (vs : List Nat) (σ σ' : St) : Prop := (∀ i, i ∉ vs → σ'[i]? = σ[i]?) ∧ σ'.length = σ.length
def ImG (K : PySem.W.Frag) (vs : List Nat) (g : TG) (t : DTG) : Prop := ∀ (e : Ent) (env : Env') (T : Tmp) (F : Hp) (σ : St) (H : Hp) (v : V) (d : D) (Q : Env' → Prop) (R : St → Hp → Prop),
  Holds K e env T F σ H → Rep K F d v → t d env Q → (∀ env' σ', Holds K e env' T F σ' H → Only vs σ σ' → Q env' → R σ' H) → g v σ H R
structure DG (G : GG) (N : List Str) (sc : SC) (tg : Expr) (vs : List Nat) (t : DTG) : Prop where
  ex : ∃ g, (∀ W k X, Sit G N sc W k X → PG X tg g) ∧ ImG G.K vs g t
def LocS (sc : SC) (x : Str) : Prop := sc.sc.names.lookup x = some .local ∨ (sc.sc.names.lookup x = some .cell ∧ sc.own x = true)
theorem Sit.loc {W : WX} {X : Cx} {x : Str} (S : Sit G N sc W k X) (h : LocS sc x) : Loc X.env.scope x ∧ (X.fn x = true ∨ X.env.scope.names.lookup x = some .local) := by
  rcases h with h | h
  · exact ⟨.inl (by rw [S.scp]; exact h), .inr (by rw [S.scp]; exact h)⟩
  · exact ⟨.inr (by rw [S.scp]; exact h.1), .inl (S.fn x h.2)⟩
def gSet (i : Nat) : DTG := fun d env Q => Q (env.set i (.ext d))
theorem dg_name {x : Str} (i : Nat) (hi : N[i]? = some x := by rfl) (hx : LocS sc x := by first | exact Or.inl rfl | exact Or.inr ⟨rfl, rfl⟩) : DG G N sc (.Name x pos) [i] (gSet i) :=
  ⟨gName i, fun W k X S => pg_name (by rw [S.nms]; exact S.nd) (by rw [S.nms]; exact hi) (S.loc hx).1 (S.loc hx).2,
    fun e env T F σ H v d Q R hh rd ht hR => hR _ _ ((hh.pushE rd).assign i trivial) ⟨fun j hj => List.getElem?_set_ne (fun z => hj (by rw [← z]; exact List.mem_singleton.mpr rfl)), List.length_set⟩ ht⟩
abbrev DTGs := List D → Env' → (Env' → Prop) → Prop
def ImGs (K : PySem.W.Frag) (us : List Nat) (g : TGs) (t : DTGs) : Prop := ∀ (e : Ent) (env : Env') (T : Tmp) (F : Hp) (σ : St) (H : Hp) (vs : List V) (ds : List D) (Q : Env' → Prop) (R : St → Hp → Prop),
  Holds K e env T F σ H → Reps K F ds vs → t ds env Q → (∀ env' σ', Holds K e env' T F σ' H → Only us σ σ' → Q env' → R σ' H) → g vs σ H R
structure DGs (G : GG) (N : List Str) (sc : SC) (tgs : List Expr) (vs : List Nat) (t : DTGs) : Prop where
  ex : ∃ g, (∀ W k X, Sit G N sc W k X → PGs X tgs g) ∧ ImGs G.K vs g t
def gsNil : DTGs := fun ds env Q => ds = [] ∧ Q env
def gsCons (t : DTG) (u : DTGs) : DTGs := fun ds env Q => match ds with
  | d :: r => t d env fun env1 => u r env1 Q
  | [] => False
theorem dgs_nil : DGs G N sc [] [] gsNil := ⟨gNil, fun W k X S => pgs_nil, fun e env T F σ H vs ds Q R hh rd ht hR => by
    obtain ⟨rfl, ht⟩ := ht
    exact ⟨rd, hR env σ hh ⟨fun _ _ => rfl, rfl⟩ ht⟩⟩
theorem dgs_cons {e : Expr} {es : List Expr} {vs us : List Nat} {t : DTG} {u : DTGs} (h1 : DG G N sc e vs t) (h2 : DGs G N sc es us u)
    (hs : ∀ env, (assignEach (e :: es) env).map (·.2) = assign e env :: (assignEach es env).map (·.2) := by intro _; rfl) : DGs G N sc (e :: es) (vs ++ us) (gsCons t u) := by
  obtain ⟨g, p1, i1⟩ := h1.ex
  obtain ⟨gs, p2, i2⟩ := h2.ex
  refine ⟨gCons g gs, fun W k X S => pgs_cons (p1 W k X S) (p2 W k X S) (hs _), fun en env T F σ H xs ds Q R hh rd ht hR => ?_⟩
  cases ds with
  | nil => exact ht.elim
  | cons d r =>
    obtain ⟨v, vr, rfl, r1, r2⟩ := rd
    refine ⟨v, vr, rfl, i1 en env T F σ H v d _ _ hh r1 ht fun env1 σ1 hh1 o1 q1 => ?_⟩
    exact i2 en env1 T F σ1 H vr r Q R hh1 r2 q1 fun env2 σ2 hh2 o2 q2 => hR env2 σ2 hh2 ⟨fun i hi => (o2.1 i fun z => hi (List.mem_append_right _ z)).trans (o1.1 i fun z => hi (List.mem_append_left _ z)), o2.2.trans o1.2⟩ q2
def gTupD (n : Nat) (t : DTGs) : DTG := fun d env Q => match d with
  | .tup ds => ds.length = n ∧ t ds env Q
  | .tk ds => ds.length = n ∧ t ds env Q
  | _ => False
theorem dg_tup {es : List Expr} {kk : Nat} {vs : List Nat} {t : DTGs} {n : Nat} (h : DGs G N sc es vs t) (hn : ∀ env, (assignEach es env).length = n := by intro _; rfl) (hst : ∀ env, (assignEach es env).findIdx? (·.1) = none := by intro _; rfl) : DG G N sc (.Tuple es kk pos) vs (gTupD n t) := by
  obtain ⟨g, p1, i1⟩ := h.ex
  refine ⟨gTup G.K n g, fun W k X S => ?_, fun en env T F σ H v d Q R hh rd ht hR => ?_⟩
  · rw [← S.K]
    exact pg_tup S.calm (p1 W k X S) (hn _) (hst _)
  · cases d with
    | tup ds =>
      obtain ⟨a, xs, rfl, hs, hr⟩ := rd
      obtain ⟨hl, ht⟩ := ht
      exact ⟨a, xs, rfl, SqT.same hh.fh hs.sq, by rw [← hr.length]; exact hl, i1 en env T F σ H xs ds Q R hh hr ht hR⟩
    | tk ds =>
      obtain ⟨a, xs, rfl, hs, hr⟩ := rd
      obtain ⟨hl, ht⟩ := ht
      exact ⟨a, xs, rfl, SqT.same hh.fh hs, by rw [← hr.length]; exact hl, i1 en env T F σ H xs ds Q R hh hr ht hR⟩
    | _ => exact ht.elim
def sSet (i : Nat) (t : DT) : DTS := fun Ex E env => t Ex env fun x env1 => retD env1 x fun r env2 => E.nx (env2.set i r)
theorem imS_set {K : PySem.W.Frag} {W : WX} {te : TE} {t : DT} (i : Nat) (h : Im K W te t) : ImS K W (tAsg te (gName i)) (sSet i t) := fun e Ex hl env F σ H E Dn hh ht ok => by
  refine h e Ex hl env [] F σ H _ _ hh ht fun v H1 F1 env1 x hh1 q1 => ?_
  obtain ⟨r, env2, hh2, hp, q2⟩ := hh1.ret q1
  exact ok.nx _ F1 _ H1 (hh2.assign i hp) q2
theorem ds_set {x : Str} {pos' : Pos} (i : Nat) (h : DE G N sc k a ta) (hi : N[i]? = some x := by rfl) (hx : LocS sc x := by first | exact Or.inl rfl | exact Or.inr ⟨rfl, rfl⟩) (hs : ∀ env, env.scope = sc.sc → swapsWith a (some (.Name x pos')) pos.line env = pure false := by intro _ _; rfl) : DS G N sc k (.Assign [.Name x pos'] a pos) (sSet i ta) := ⟨fun W => by
  obtain ⟨te, p1, i1⟩ := h.ex W
  exact ⟨tAsg te (gName i), fun X S => ps_set (by rw [S.nms]; exact S.nd) (by rw [S.nms]; exact hi) (S.loc hx).1 (p1 X S) (hs _ S.scp) (S.loc hx).2, imS_set i i1⟩⟩
def sSetE (i : Nat) (t : DT) : DTS := fun Ex E env => t Ex env fun x env1 => frzD env1 x fun d env2 => E.nx (env2.set i (.ext d))
theorem imS_setE {K : PySem.W.Frag} {W : WX} {te : TE} {t : DT} (i : Nat) (h : Im K W te t) : ImS K W (tAsg te (gName i)) (sSetE i t) := fun e Ex hl env F σ H E Dn hh ht ok => by
  refine h e Ex hl env [] F σ H _ _ hh ht fun v H1 F1 env1 x hh1 q1 => ?_
  obtain ⟨d, F2, env2, _, hh2, rd, q2⟩ := hh1.frz1 q1
  exact ok.nx _ F2 _ H1 ((hh2.pushE rd).assign i trivial) q2
theorem ds_setE {x : Str} {pos' : Pos} (i : Nat) (h : DE G N sc k a ta) (hi : N[i]? = some x := by rfl) (hx : LocS sc x := by first | exact Or.inl rfl | exact Or.inr ⟨rfl, rfl⟩) (hs : ∀ env, env.scope = sc.sc → swapsWith a (some (.Name x pos')) pos.line env = pure false := by intro _ _; rfl) : DS G N sc k (.Assign [.Name x pos'] a pos) (sSetE i ta) := ⟨fun W => by
  obtain ⟨te, p1, i1⟩ := h.ex W
  exact ⟨tAsg te (gName i), fun X S => ps_set (by rw [S.nms]; exact S.nd) (by rw [S.nms]; exact hi) (S.loc hx).1 (p1 X S) (hs _ S.scp) (S.loc hx).2, imS_setE i i1⟩⟩
def sAsg (t : DT) (g : DTG) : DTS := fun Ex E env => t Ex env fun x env1 => frzD env1 x fun d env2 => g d env2 E.nx
theorem ds_asg {tg : Expr} {vs : List Nat} {g : DTG} (h : DE G N sc k a ta) (hg : DG G N sc tg vs g) (hs : ∀ env, swapsWithSole [tg] a pos.line env = pure false := by intro _; rfl) (hw : ∀ env, swappedStores [tg] a env = pure none := by intro _; rfl)
    (h1 : ∀ env, (assignEach [tg] env).map (·.2) = [assign tg env] := by intro _; rfl) : DS G N sc k (.Assign [tg] a pos) (sAsg ta g) := ⟨fun W => by
  obtain ⟨te, p1, i1⟩ := h.ex W
  obtain ⟨gg, p2, i2⟩ := hg.ex
  refine ⟨tAsg te gg, fun X S => ps_asg (p1 X S) (p2 W k X S) (hs _) (hw _) (h1 _), fun e Ex hl env F σ H E Dn hh ht ok => ?_⟩
  refine i1 e Ex hl env [] F σ H _ _ hh ht fun v H1 F1 env1 x hh1 q1 => ?_
  obtain ⟨d, F2, env2, _, hh2, rd, q2⟩ := hh1.frz1 q1
  exact i2 e env2 [] F2 σ H1 v d E.nx Dn.nx hh2 rd q2 fun env3 σ3 hh3 _ q3 => ok.nx env3 F2 σ3 H1 hh3 q3⟩
def Src (K : PySem.W.Frag) (J : It) (items : List D) (keep : Env' → Prop) (F0 : Hp) : Prop :=
  ∀ (e : Ent) (env : Env') (T : Tmp) (F : Hp) (σ : St) (H : Hp) (i : Nat), Holds K e env T F σ H → Same F0 F → keep env →
    (items.length = i → J.stop i H) ∧ ∀ d, items[i]? = some d → J.go i H ∧ ∀ x H2, J.yld i H x H2 → ∃ F2, Grow F H F2 H2 ∧ Rep K F2 d x
abbrev DTI := DX → Env' → (List D → (Env' → Prop) → Env' → Prop) → Prop
def ImI (K : PySem.W.Frag) (W : WX) (wi : TI) (t : DTI) : Prop := ∀ (e : Ent) (Ex : DX), Link K e W Ex → ∀ (env : Env') (T : Tmp) (F : Hp) (σ : St) (H : Hp) (Q : List D → (Env' → Prop) → Env' → Prop) (R : It → Hp → Prop),
  Holds K e env T F σ H → t Ex env Q → (∀ J H' F' env' items keep, Holds K e env' T F' σ H' → Src K J items keep F' → Q items keep env' → R J H') → wi σ H R
structure DI (G : GG) (N : List Str) (sc : SC) (k : Nat) (tg iter : Expr) (t : DTI) : Prop where
  ex : ∀ W : WX, ∃ wi, (∀ X, Sit G N sc W k X → PI X tg iter wi) ∧ ImI G.K W wi t
def atC (i : Nat) (b : Addr) (ds : List D) (env : Env') : Prop := ∃ d cs, env[i]? = some (.reg d cs) ∧ cellOf cs b = some (.lst ds)
def iterD (env : Env') (x : Sl) (q : List D → (Env' → Prop) → Prop) : Prop := match x with
  | .ext (.lst ds) => q ds fun _ => True
  | .lst _ ds => q ds fun _ => True
  | .al i a => match env[i]? with
    | some (.lst b ds) => b = a ∧ q ds fun env' => env'[i]? = some (.lst a ds)
    | _ => False
  | .ar i b => match env[i]? with
    | some (.reg _ cs) => match cellOf cs b with
      | some (.lst ds) => q ds (atC i b ds)
      | _ => False
    | _ => False
  | _ => False
def dIterT (t : DT) : DTI := fun Ex env Q => t Ex env fun x env1 => match x with
  | .ext (.tup ds) => Q ds (fun _ => True) env1
  | _ => False
def rgD (lo hi : Int) : List D := (List.range (hi - lo).toNat).map fun i => D.int (lo + (i : Nat))
theorem src_range {K : PySem.W.Frag} {F0 : Hp} {lo hi : Int} : Src K (Itr lo (hi - lo).toNat) (rgD lo hi) (fun _ => True) F0 := fun e env T F σ H i hh sm _ => by
  have hl : (rgD lo hi).length = (hi - lo).toNat := by
    unfold rgD
    rw [List.length_map, List.length_range]
  refine ⟨fun h => by rw [hl] at h; exact Nat.le_of_eq h, fun d hd => ?_⟩
  have hi' : i < (hi - lo).toNat := by
    rw [← hl]
    exact (List.getElem?_eq_some_iff.mp hd).1
  unfold rgD at hd
  rw [List.getElem?_map, List.getElem?_range hi'] at hd
  have ed := Option.some.inj hd
  refine ⟨hi', fun x H2 hy => ?_⟩
  obtain ⟨rfl, ex⟩ := hy
  refine ⟨F, Grow.refl hh.fh, ?_⟩
  rw [ex, ← ed]
  exact rfl
def small62 (i : Int) : Prop := -(2 ^ 62) ≤ i ∧ i < 2 ^ 62
def dRange1 (t : DTA) : DTI := fun Ex env Q => t Ex env fun xs env1 => match xs with
  | [.ext (.int j)] => small62 j ∧ Q (rgD 0 j) (fun _ => True) env1
  | _ => False
def dRange2 (t : DTA) : DTI := fun Ex env Q => t Ex env fun xs env1 => match xs with
  | [.ext (.int i), .ext (.int j)] => small62 i ∧ small62 j ∧ Q (rgD i j) (fun _ => True) env1
  | _ => False
theorem di_range1 {tg : Expr} {t : DTA} {p : Pos} (h : DAs G N sc k [a] t) (hm : G.mg "range" = none) (hg : GlS sc "range" := by rfl) (hs : ∀ env, starEach [a] env = [(false, eval a env)] := by intro _; rfl) : DI G N sc k tg (.Call (.Name "range" p) [a] [] pos) (dRange1 t) := ⟨fun W => by
  obtain ⟨te, p1, i1⟩ := h.ex W
  refine ⟨iRng1 te, fun X S => pi_range1 (S.gl hg) (by rw [S.mg]; exact hm) (p1 X S) (hs _), fun e Ex hl env T F σ H Q R hh ht hR => ?_⟩
  refine i1 e Ex hl env T F σ H _ _ hh ht fun vs H1 F1 env1 xs le hh1 q1 => ?_
  split at q1
  · rename_i j
    match vs, le, hh1 with
    | [v], _, hh1 =>
      have ev : v = .int j := hh1.temps (v, .ext (.int j)) List.mem_cons_self
      have z := src_range (K := G.K) (F0 := F1) (lo := 0) (hi := j)
      rw [Int.sub_zero] at z
      exact ⟨j, by rw [ev], q1.1.1, q1.1.2, hR _ H1 F1 env1 _ _ hh1.pop z q1.2⟩
  · exact q1.elim⟩
theorem di_range2 {b : Expr} {tg : Expr} {t : DTA} {p : Pos} (h : DAs G N sc k [a, b] t) (hm : G.mg "range" = none) (hg : GlS sc "range" := by rfl) (hs : ∀ env, starEach [a, b] env = [(false, eval a env), (false, eval b env)] := by intro _; rfl) (hs2 : ∀ env, starEach [b] env = [(false, eval b env)] := by intro _; rfl) :
    DI G N sc k tg (.Call (.Name "range" p) [a, b] [] pos) (dRange2 t) := ⟨fun W => by
  obtain ⟨te, p1, i1⟩ := h.ex W
  refine ⟨iRng2 te, fun X S => pi_range2 (S.gl hg) (by rw [S.mg]; exact hm) (p1 X S) (hs _) (hs2 _), fun e Ex hl env T F σ H Q R hh ht hR => ?_⟩
  refine i1 e Ex hl env T F σ H _ _ hh ht fun vs H1 F1 env1 xs le hh1 q1 => ?_
  split at q1
  · rename_i i j
    match vs, le, hh1 with
    | [v, w], _, hh1 =>
      have ev : v = .int i := hh1.temps (v, .ext (.int i)) List.mem_cons_self
      have ew : w = .int j := hh1.temps (w, .ext (.int j)) (List.mem_cons_of_mem _ List.mem_cons_self)
      exact ⟨i, j, by rw [ev, ew], ⟨q1.1.1, q1.1.2, q1.2.1.1, q1.2.1.2⟩, hR _ H1 F1 env1 _ _ hh1.pop.pop src_range q1.2.2⟩
  · exact q1.elim⟩
abbrev Ent.at (e : Ent) (F1 : Hp) : Ent := ⟨F1, e.H0, e.A0⟩
section
variable {K : PySem.W.Frag} {e : Ent} {env env1 : Env'} {T T1 : Tmp} {F F1 : Hp} {σ σ1 : St} {H H1 : Hp}
theorem Holds.on (h1 : Holds K e env1 T1 F1 σ1 H1) (h : Holds K e env T F σ H) (sm : Same F1 F) : Holds K (e.at F1) env T F σ H :=
  ⟨h.fh, h.len, h.slots, h.temps, h.nd, sm, fun a o q n => ⟨(h.s2 a o q n).1, fun z => (h.s2 a o q n).2 (h1.s1.free z)⟩, h.s3⟩
theorem Holds.off (h1 : Holds K e env1 T1 F1 σ1 H1) (h : Holds K (e.at F1) env T F σ H) : Holds K e env T F σ H :=
  ⟨h.fh, h.len, h.slots, h.temps, h.nd, h1.s1.trans h.s1, fun a o q n => ⟨(h.s2 a o q n).1, fun z => (h.s2 a o q n).2 ((h1.s2 a o q n).2 z)⟩, h.s3⟩
theorem Link.on {W : WX} {Ex : DX} (h1 : Holds K e env1 T1 F1 σ1 H1) (hl : Link K e W Ex) : Link K (e.at F1) W Ex := fun c env F σ H h q => hl c env F σ H (h1.off h) q
theorem EndsOk.on {E : DEnds} {Dn : Ends} (h1 : Holds K e env1 T1 F1 σ1 H1) (ok : EndsOk K e E Dn) : EndsOk K (e.at F1) E Dn :=
  ⟨fun env F σ H h q => ok.nx env F σ H (h1.off h) q, fun env F σ H v r h q => ok.rt env F σ H v r (h1.off h) q, fun env F σ H h q => ok.bk env F σ H (h1.off h) q, fun env F σ H h q => ok.ct env F σ H (h1.off h) q⟩
end
def forD (g : DTG) (body : DTS) (keep : Env' → Prop) (Ex : DX) (E : DEnds) : List D → Env' → Prop
  | [], env => keep env ∧ E.nx env
  | d :: ds, env => keep env ∧ g d env fun env1 => body Ex { E with nx := forD g body keep Ex E ds, ct := forD g body keep Ex E ds, bk := E.nx } env1
def sFor (ti : DTI) (g : DTG) (body : DTS) : DTS := fun Ex E env => ti Ex env fun items keep env1 => forD g body keep Ex E items env1
theorem forD_keep {g : DTG} {body : DTS} {keep : Env' → Prop} {Ex : DX} {E : DEnds} : ∀ {ds : List D} {env : Env'}, forD g body keep Ex E ds env → keep env
  | [], _, h => h.1
  | _ :: _, _, h => h.1
theorem ds_for {tg iter : Expr} {body : List Stmt} {ti : DTI} {vs : List Nat} {g : DTG} {tb : DTS} (hi : DI G N sc k tg iter ti) (hg : DG G N sc tg vs g) (hb : DSs G N sc k body tb) (hs : ∀ env x, foldedSetIterable iter env x = pure x := by intro _ _; rfl) : DS G N sc k (.For tg iter body [] pos) (sFor ti g tb) := ⟨fun W => by
  obtain ⟨wi, p1, i1⟩ := hi.ex W
  obtain ⟨gg, p2, i2⟩ := hg.ex
  obtain ⟨ts, p3, i3⟩ := hb.ex W
  refine ⟨tFor wi gg ts, fun X S => ps_for S.own S.calm (p1 X S) (p2 W k X S) (p3 X S) (hs _), fun e Ex hl env F σ H E Dn hh ht ok => ?_⟩
  refine i1 e Ex hl env [] F σ H _ _ hh ht fun J H1 F1 env1 items keep hh1 src q1 => ?_
  have ok' := ok.on hh1
  refine ⟨fun i m σ' H' => ∃ env' F', Holds G.K (e.at F1) env' [] F' σ' H' ∧ i + m = items.length ∧ forD g tb keep Ex E (items.drop i) env', ⟨items.length, env1, F1, hh1.on hh1 (Same.refl _), by omega, q1⟩, ?_⟩
  rintro i m σ2 H2 ⟨env2, F2, hh2, em, q2⟩
  obtain ⟨s1, s2⟩ := src (e.at F1) env2 [] F2 σ2 H2 i hh2 hh2.s1 (forD_keep q2)
  cases hd : items[i]? with
  | none =>
    have hi : items.length ≤ i := List.getElem?_eq_none_iff.mp hd
    rw [List.drop_eq_nil_of_le hi] at q2
    exact .inl ⟨s1 (by omega), ok'.nx env2 F2 σ2 H2 hh2 q2.2⟩
  | some d =>
    obtain ⟨hi, ed⟩ := List.getElem?_eq_some_iff.mp hd
    rw [List.drop_eq_getElem_cons hi, ed] at q2
    obtain ⟨_, q2⟩ := q2
    obtain ⟨go, yl⟩ := s2 d hd
    refine .inr ⟨go, fun σ' H' => ∃ env' F', Holds G.K (e.at F1) env' [] F' σ' H' ∧ forD g tb keep Ex E (items.drop (i + 1)) env', fun σ' H' ⟨env', F', a1, a3⟩ => ⟨m - 1, by omega, env', F', a1, by omega, a3⟩, fun x H3 hy => ?_⟩
    obtain ⟨F3, gr, rd⟩ := yl x H3 hy
    refine i2 (e.at F1) env2 [] F3 σ2 H3 x d _ _ (hh2.grow gr) rd q2 fun env4 σ4 hh4 _ q4 => ?_
    exact i3 (e.at F1) Ex (hl.on hh1) env4 F3 σ4 H3 _ _ hh4 q4 ⟨fun env5 F5 σ5 H5 hh5 q5 => ⟨env5, F5, hh5, q5⟩, ok'.rt, fun env5 F5 σ5 H5 hh5 q5 => ok'.nx env5 F5 σ5 H5 hh5 q5, fun env5 F5 σ5 H5 hh5 q5 => ⟨env5, F5, hh5, q5⟩⟩⟩
end
end HD
namespace HD
open PySem L2
def wipeE (env : Env') : List Nat → Env'
  | [] => env
  | v :: vs => (wipeE env vs).set v .un
section
variable {K : PySem.W.Frag} {e : Ent} {env : Env'} {T : Tmp} {F : Hp} {σ : St} {H : Hp}
theorem Holds.wipe1 (h : Holds K e env T F σ H) (i : Nat) : Holds K e (env.set i .un) T F (σ.set i none) H := by
  have h1 := h.unset i
  refine ⟨h1.fh, by rw [List.length_set, List.length_set]; exact h.len, fun j sl q => ?_, h1.temps, h1.nd, h1.s1, h1.s2, h1.s3⟩
  by_cases ij : i = j
  · subst ij
    rw [List.getElem?_set] at q
    rw [if_pos rfl] at q
    split at q
    · cases q
      exact .inl rfl
    · cases q
  · rcases h1.slots j sl q with z | ⟨v, hv, ok⟩
    · exact .inl z
    · exact .inr ⟨v, by rw [List.getElem?_set_ne ij]; exact hv, ok⟩
theorem Holds.wipe (h : Holds K e env T F σ H) : ∀ vs : List Nat, Holds K e (wipeE env vs) T F (wipe σ vs) H
  | [] => h
  | v :: vs => (Holds.wipe h vs).wipe1 v
theorem Holds.unwipe {vs : List Nat} (h : Holds K e env T F (L2.wipe σ vs) H) : Holds K e env T F σ H :=
  ⟨h.fh, by rw [h.len, wipe_length], fun j sl q => by
    rcases h.slots j sl q with z | ⟨v, hv, ok⟩
    · exact .inl z
    · exact .inr ⟨v, (wipe_some hv).1, ok⟩, h.temps, h.nd, h.s1, h.s2, h.s3⟩
end
theorem wipe_in {σ : St} {i : Nat} : ∀ {vs : List Nat}, i ∈ vs → i < σ.length → (wipe σ vs)[i]? = some none
  | [], h, _ => nomatch h
  | v :: vs, h, hl => by
    unfold wipe
    rw [List.getElem?_set]
    by_cases e : v = i
    · rw [if_pos e, if_pos (by rw [wipe_length, e]; exact hl)]
    · rw [if_neg e]
      rcases List.mem_cons.mp h with z | z
      · exact absurd z.symm e
      · exact wipe_in z hl
theorem wipe_only {σ σ2 : St} {vs : List Nat} (h : Only vs (wipe σ vs) σ2) : wipe σ2 vs = wipe σ vs := by
  have hl : σ2.length = σ.length := by rw [h.2, wipe_length]
  refine List.ext_getElem? fun i => ?_
  by_cases m : i ∈ vs
  · by_cases il : i < σ.length
    · rw [wipe_in m il, wipe_in m (by rw [hl]; exact il)]
    · rw [List.getElem?_eq_none (by rw [wipe_length, hl]; omega), List.getElem?_eq_none (by rw [wipe_length]; omega)]
  · rw [wipe_out m, h.1 i m]
section
variable {G : GG} {N : List Str} {sc : SC} {k : Nat}
theorem Sit.blk {W : WX} {X : Cx} (S : Sit G N sc W k X) (s : Shared) (H : Hp) (scope : Scope) (C : Addr) (cl : List (Str × Addr)) (fp : List Addr) : Sit G N (lcS scope sc) (fun _ _ _ _ => False) k (X.blk s H scope (compEnvC scope cl C X.env) fp) where
  prog := S.prog
  w := S.w
  K := S.K
  mg := S.mg
  base := S.base
  nms := S.nms
  nd := S.nd
  scp := by
    show relabel scope X.env = relab scope sc.sc
    unfold relabel relab
    rw [← S.scp]
    rfl
  calm := S.calm
  room := S.room
  tk := L2.takes0
  fn := fun x h => h
  own := PassesOwn.never
  stk := fun z => by cases z
  gd := S.gd
def dYes : DTT := fun _ env Q => Q true env
structure DTl (G : GG) (N : List Str) (sc : SC) (k : Nat) (ifs : List Expr) (t : DTT) : Prop where
  ex : ∀ W : WX, ∃ te, (∀ X, Sit G N sc W k X → PTs X ifs te) ∧ ImT G.K W te t
theorem dtl_nil : DTl G N sc k [] dYes := ⟨fun W => ⟨tYes, fun X S => pts_nil, fun e Ex hl env T F σ H Q R hh ht hR => hR true H F env hh ht⟩⟩
theorem dtl_one {c : Expr} {t : DTT} (h : DTe G N sc k c t) : DTl G N sc k [c] t := ⟨fun W => by
  obtain ⟨te, p1, i1⟩ := h.ex W
  exact ⟨te, fun X S => pts_one (p1 X S), i1⟩⟩
abbrev noX : DX := fun _ _ => False
def lcD (g : DTG) (tt : DTT) (te : DT) (vs : List Nat) (keep : Env' → Prop) (Q : Sl → Env' → Prop) : List D → List D → Env' → Prop
  | [], acc, env => keep env ∧ ∀ a, Q (.lst a acc) env
  | d :: ds, acc, env => keep env ∧ acc.length < sizeLine ∧ g d env fun env1 => tt noX env1 fun b env2 =>
      if b = true then te noX env2 fun x env3 => frzD env3 x fun d' env4 => lcD g tt te vs keep Q ds (acc ++ [d']) (wipeE env4 vs) else lcD g tt te vs keep Q ds acc (wipeE env2 vs)
def dLc (ti : DTI) (g : DTG) (tt : DTT) (te : DT) (vs : List Nat) : DT := fun Ex env Q => ti Ex env fun items keep env1 => lcD g tt te vs keep Q items [] (wipeE env1 vs)
theorem lcD_keep {g : DTG} {tt : DTT} {te : DT} {vs : List Nat} {keep : Env' → Prop} {Q : Sl → Env' → Prop} : ∀ {ds acc : List D} {env : Env'}, lcD g tt te vs keep Q ds acc env → keep env
  | [], _, _, h => h.1
  | _ :: _, _, _, h => h.1
theorem im_lc {K : PySem.W.Frag} {W : WX} {wi : TI} {gg : TG} {tt' : TT} {te' : TE} {ti : DTI} {g : DTG} {tt : DTT} {te : DT} {vs : List Nat} (i1 : ImI K W wi ti) (i2 : ImG K vs gg g) (i3 : ImT K (fun _ _ _ _ => False) tt' tt) (i4 : Im K (fun _ _ _ _ => False) te' te) : Im K W (tLc wi gg tt' te' vs) (dLc ti g tt te vs) := fun e Ex hl env T F σ H Q R hh ht hR => by
  refine i1 e Ex hl env T F σ H _ _ hh ht fun J H1 F1 env1 items keep hh1 src q1 => fun D hD => ?_
  have nl : Link K (e.at F1) (fun _ _ _ _ => False) noX := fun _ _ _ _ _ _ z => z
  have h0 : Holds K e env1 ((V.ref D, Sl.lst D []) :: T) F1 σ (upd H1 D (.lst [])) := hh1.push (Grow.loose hh1.fh hD) ⟨rfl, hh1.fh.free hD, [], upd_same, rfl⟩ fun a ha => by
    rw [List.mem_singleton.mp ha]
    exact hD
  refine ⟨fun i m H' => ∃ env' F' acc, Holds K (e.at F1) env' ((V.ref D, Sl.lst D acc) :: T) F' (wipe σ vs) H' ∧ i + m = items.length ∧ lcD g tt te vs keep Q (items.drop i) acc env',
    ⟨items.length, wipeE env1 vs, F1, [], (hh1.on h0 (Same.refl _)).wipe vs, by omega, q1⟩, ?_⟩
  rintro i m H2 ⟨env2, F2, acc, hh2, em, q2⟩
  obtain ⟨s1, s2⟩ := src (e.at F1) env2 _ F2 _ H2 i hh2 hh2.s1 (lcD_keep q2)
  cases hd : items[i]? with
  | none =>
    have hi : items.length ≤ i := List.getElem?_eq_none_iff.mp hd
    rw [List.drop_eq_nil_of_le hi] at q2
    exact .inl ⟨s1 (by omega), hR _ H2 F2 env2 _ (hh1.off hh2.unwipe) (q2.2 D)⟩
  | some d =>
    obtain ⟨hi, ed⟩ := List.getElem?_eq_some_iff.mp hd
    rw [List.drop_eq_getElem_cons hi, ed] at q2
    obtain ⟨_, hz, q2⟩ := q2
    obtain ⟨go, yl⟩ := s2 d hd
    refine .inr ⟨go, fun H' => ∃ env' F' acc, Holds K (e.at F1) env' ((V.ref D, Sl.lst D acc) :: T) F' (wipe σ vs) H' ∧ lcD g tt te vs keep Q (items.drop (i + 1)) acc env', fun H' ⟨env', F', acc', a1, a3⟩ => ⟨m - 1, by omega, env', F', acc', a1, by omega, a3⟩, fun x H3 hy => ?_⟩
    obtain ⟨F3, gr, rd⟩ := yl x H3 hy
    refine i2 (e.at F1) env2 _ F3 _ H3 x d _ _ (hh2.grow gr) rd q2 fun env4 σ4 hh4 on4 q4 => ⟨wipe_only on4, ?_⟩
    refine i3 (e.at F1) noX nl env4 _ F3 σ4 H3 _ _ hh4 q4 fun b H5 F5 env5 hh5 q5 => ?_
    cases b with
    | false =>
      rw [if_neg Bool.false_ne_true] at q5 ⊢
      have z := hh5.wipe vs
      rw [wipe_only on4] at z
      exact ⟨_, F5, acc, z, q5⟩
    | true =>
      rw [if_pos rfl] at q5 ⊢
      refine i4 (e.at F1) noX nl env5 _ F5 σ4 H5 _ _ hh5 q5 fun y H6 F6 env6 sl hh6 q6 => ?_
      obtain ⟨d', F7, env7, _, hh7, rd', q7⟩ := hh6.frz1 q6
      obtain ⟨_, _, us, hu, hr⟩ := hh7.temps (V.ref D, Sl.lst D acc) List.mem_cons_self
      refine ⟨us, hu, by rw [← hr.length]; exact hz, ?_⟩
      have z := (hh7.writeT (hr.append (.one rd'))).wipe vs
      rw [wipe_only on4] at z
      exact ⟨_, F7, _, z, q7⟩
variable {elt tg iter : Expr} {ifs : List Expr} {scope : Scope} {own : List (Str × Nat)} {pos : Pos} {ti : DTI} {g : DTG} {tt : DTT} {te : DT}
theorem de_lc (own : List (Str × Nat)) (hi : DI G N sc k tg iter ti) (ok : blkC N sc.sc scope own = true) (hg : DG G N (lcS scope sc) tg (own.map (·.2)) g) (ht : DTl G N (lcS scope sc) k ifs tt) (he : DE G N (lcS scope sc) k elt te) (hs : ∀ env x, foldedSetIterable iter env x = pure x := by intro _ _; rfl) :
    DE G N sc k (.ListComp elt [⟨tg, iter, ifs, 0⟩] scope pos) (dLc ti g tt te (own.map (·.2))) := ⟨fun W => by
  obtain ⟨wi, p1, i1⟩ := hi.ex W
  obtain ⟨gg, p2, i2⟩ := hg.ex
  obtain ⟨tt', p3, i3⟩ := ht.ex fun _ _ _ _ => False
  obtain ⟨te', p4, i4⟩ := he.ex fun _ _ _ _ => False
  refine ⟨tLc wi gg tt' te' (own.map (·.2)), fun X S => ?_, im_lc i1 i2 i3 i4⟩
  exact pe_lc S.calm (by rw [S.nms]; exact S.nd) (p1 X S) (by rw [S.nms, S.scp]; exact blkOk_by ok) (fun s H C cl fp => p2 _ _ _ (S.blk s H scope C cl fp)) (fun s H C cl fp => p3 _ (S.blk s H scope C cl fp)) (fun s H C cl fp => p4 _ (S.blk s H scope C cl fp)) (hs _)⟩
theorem ds_setLc (own : List (Str × Nat)) {y : Str} {py spos : Pos} (i : Nat) (hi : DI G N sc k tg iter ti) (ok : blkC N sc.sc scope own = true) (hg : DG G N (lcS scope sc) tg (own.map (·.2)) g) (ht : DTl G N (lcS scope sc) k ifs tt) (he : DE G N (lcS scope sc) k elt te) (hy : N[i]? = some y := by rfl) (hyl : sc.sc.names.lookup y = some .local := by rfl)
    (hk : sc.sc.kind = .function := by rfl) (hl : (py.line == pos.line) = true := by rfl) (ha : (scope.names.any fun (n, k) => n == y && (k == .local || k == .cell)) = false := by decide +kernel) (hs : ∀ env x, foldedSetIterable iter env x = pure x := by intro _ _; rfl) :
    DS G N sc k (.Assign [.Name y py] (.ListComp elt [⟨tg, iter, ifs, 0⟩] scope pos) spos) (sSet i (dLc ti g tt te (own.map (·.2)))) := ⟨fun W => by
  obtain ⟨wi, p1, i1⟩ := hi.ex W
  obtain ⟨gg, p2, i2⟩ := hg.ex
  obtain ⟨tt', p3, i3⟩ := ht.ex fun _ _ _ _ => False
  obtain ⟨te', p4, i4⟩ := he.ex fun _ _ _ _ => False
  refine ⟨tAsg (tLc wi gg tt' te' (own.map (·.2))) (gName i), fun X S => ?_, imS_set i (im_lc i1 i2 i3 i4)⟩
  have hyX : X.env.scope.names.lookup y = some .local := by
    rw [S.scp]
    exact hyl
  exact ps_setLc S.calm (by rw [S.nms]; exact S.nd) (by rw [S.nms]; exact hy) hyX (sw_true (by rw [S.scp]; exact hk) hyX hl ha) (p1 X S) (by rw [S.nms, S.scp]; exact blkOk_by ok) (fun s H C cl fp => p2 _ _ _ (S.blk s H scope C cl fp)) (fun s H C cl fp => p3 _ (S.blk s H scope C cl fp)) (fun s H C cl fp => p4 _ (S.blk s H scope C cl fp)) (hs _)⟩
theorem ds_setLcE (own : List (Str × Nat)) {y : Str} {py spos : Pos} (i : Nat) (hi : DI G N sc k tg iter ti) (ok : blkC N sc.sc scope own = true) (hg : DG G N (lcS scope sc) tg (own.map (·.2)) g) (ht : DTl G N (lcS scope sc) k ifs tt) (he : DE G N (lcS scope sc) k elt te) (hy : N[i]? = some y := by rfl) (hyl : sc.sc.names.lookup y = some .local := by rfl)
    (hk : sc.sc.kind = .function := by rfl) (hl : (py.line == pos.line) = true := by rfl) (ha : (scope.names.any fun (n, k) => n == y && (k == .local || k == .cell)) = false := by decide +kernel) (hs : ∀ env x, foldedSetIterable iter env x = pure x := by intro _ _; rfl) :
    DS G N sc k (.Assign [.Name y py] (.ListComp elt [⟨tg, iter, ifs, 0⟩] scope pos) spos) (sSetE i (dLc ti g tt te (own.map (·.2)))) := ⟨fun W => by
  obtain ⟨wi, p1, i1⟩ := hi.ex W
  obtain ⟨gg, p2, i2⟩ := hg.ex
  obtain ⟨tt', p3, i3⟩ := ht.ex fun _ _ _ _ => False
  obtain ⟨te', p4, i4⟩ := he.ex fun _ _ _ _ => False
  refine ⟨tAsg (tLc wi gg tt' te' (own.map (·.2))) (gName i), fun X S => ?_, imS_setE i (im_lc i1 i2 i3 i4)⟩
  have hyX : X.env.scope.names.lookup y = some .local := by
    rw [S.scp]
    exact hyl
  exact ps_setLc S.calm (by rw [S.nms]; exact S.nd) (by rw [S.nms]; exact hy) hyX (sw_true (by rw [S.scp]; exact hk) hyX hl ha) (p1 X S) (by rw [S.nms, S.scp]; exact blkOk_by ok) (fun s H C cl fp => p2 _ _ _ (S.blk s H scope C cl fp)) (fun s H C cl fp => p3 _ (S.blk s H scope C cl fp)) (fun s H C cl fp => p4 _ (S.blk s H scope C cl fp)) (hs _)⟩
theorem start_holds {K : PySem.W.Frag} {e : Ent} {args : Env'} {F H : Hp} {vs : List V} (N : List Str) (h : Holds K e args [] F (vs.map some) H) : Holds K e (args ++ List.replicate (N.length - vs.length) .un) [] F (L2.start N vs) H := by
  have own : ownedE (args ++ List.replicate (N.length - vs.length) Sl.un) = ownedE args := by
    unfold ownedE
    rw [List.flatMap_append]
    have z : (List.replicate (N.length - vs.length) Sl.un).flatMap Sl.owned = [] := by
      rw [List.flatMap_eq_nil_iff]
      intro x hx
      rw [List.eq_of_mem_replicate hx]
      rfl
    rw [z, List.append_nil]
  have hl : args.length = vs.length := by
    have z := h.len
    rw [List.length_map] at z
    exact z
  refine ⟨h.fh, ?_, fun i sl q => ?_, h.temps, by rw [own]; exact h.nd, h.s1, h.s2, by rw [own]; exact h.s3⟩
  · unfold L2.start
    rw [List.length_append, List.length_append, List.length_replicate, List.length_replicate, h.len]
  · by_cases hi : i < args.length
    · rw [List.getElem?_append_left hi] at q
      rcases h.slots i sl q with z | ⟨v, hv, ok⟩
      · exact .inl z
      · refine .inr ⟨v, ?_, ok⟩
        unfold L2.start
        rw [List.getElem?_append_left (by rw [List.length_map, ← hl]; exact hi)]
        exact hv
    · rw [List.getElem?_append_right (by omega)] at q
      rw [List.getElem?_replicate] at q
      split at q
      · cases q
        exact .inl rfl
      · cases q
abbrev endsOf (args : Env') (Qd : Sl → List Sl → Prop) : DEnds := { nx := fun env => Qd (.ext .non) (finals args env), rt := fun r env => Qd r (finals args env) }
abbrev exOf (args : Env') (Xd : Str → List Sl → Prop) : DX := fun c env => Xd c (finals args env)
theorem fn_ok {st : Stmt} {x qual : Str} {f : Addr} {fd : FuncData} {ps : List Str} {tb : DTS} {spec : DSpec} (F : Fun G.K x qual st f fd) (S : FnScope N ps (defScope st)) (hb : DSs G N (fnS (defScope st)) k (defBody st) tb)
    (h : ∀ args Qd Xd, spec args Qd Xd → args.length = ps.length → tb (exOf args Xd) (endsOf args Qd) (args ++ List.replicate (N.length - args.length) .un)) : FnG G.P G.w G.K G.mg G.base (L2.CX G.P G.w) (k + 1) f fd ps (toSp G.K ps.length spec) := by
  refine fnG_of F S (fun vs H Q E h => ?_) (fun cdv A outer s H vs Q E gd hr hsp => ?_)
  · obtain ⟨_, _, _, _, hl, _⟩ := h
    exact hl
  · obtain ⟨F0, args, Qd, Xd, hl, hA, hs, hQ, hX⟩ := hsp
    obtain ⟨ts, p1, i1⟩ := hb.ex fun cls d _ H => E cls d H
    have al : args.length = vs.length := by
      have z := hA.len
      rw [List.length_map] at z
      exact z
    refine ⟨ts, p1 _ ?_, ?_⟩
    · exact ⟨rfl, rfl, rfl, rfl, rfl, rfl, S.nd, rfl, rfl, hr, takes_of rfl rfl rfl rfl, fun _ _ => rfl, passes_of rfl, fun _ => ⟨rfl, rfl⟩, gd⟩
    · have hh := start_holds N hA
      rw [← al] at hh
      refine i1 (entOf F0 H args) (exOf args Xd) (fun c env F' σ' H' hh' q => hX c H' F' _ (hA.finals hh') q) _ F0 _ H (endsOf args Qd) _ hh (h args Qd Xd hs (al.trans hl)) ⟨fun env F' σ' H' hh' q => ?_, fun env F' σ' H' v r hh' q => hQ v H' F' r _ (hA.finals hh') q, fun _ _ _ _ _ z => z, fun _ _ _ _ _ z => z⟩
      exact hQ .non H' F' (.ext .non) _ (hA.finals (hh'.pushE rfl)) q
end
end HD
namespace HD
open PySem L2
def SqX (b : Bool) (K : PySem.W.Frag) (H : Hp) (a : Addr) (xs : List V) : Prop := if b = true then SqT K H a xs else SqL K H a xs
def ItX (b : Bool) (h : Heap) (it a : Addr) (i : Nat) : Prop := if b = true then h.IsTupleIter it a i else h.IsListIter it a i
def IsX (b : Bool) (h : Heap) (a : Addr) (items : Array Value) : Prop := if b = true then h.IsTuple a items else h.IsList a items
def objX (b : Bool) (a : Addr) : Obj := if b = true then { cls := .type "tuple_iterator", data := .fields #[.ref a, .int 0 0] } else { cls := .type "list_iterator", data := .fields #[.ref a, .int 0 0] }
theorem IsX.lt {b : Bool} {h : Heap} {a : Addr} {items : Array Value} (x : IsX b h a items) : a < h.objs.size := by
  cases b with
  | true =>
    obtain ⟨o, e, _⟩ := (x : h.IsTuple a items)
    exact Heap.lt_size e
  | false =>
    obtain ⟨o, e, _⟩ := (x : h.IsList a items)
    exact Heap.lt_size e
theorem draws_X {prog : Program} {w : World} {A : Around} (b : Bool) (hh : A.handled = none) (it l : Addr) (hne : l ≠ it) (items : Array Value) : Draws prog w A it [it, l] items.size (fun i v => items[i]? = some v) (fun i h => ItX b h it l i ∧ IsX b h l items) := by
  cases b with
  | true => exact Draws.tuple hh it l hne items
  | false => exact Draws.list hh it l hne items
theorem begins_X (b : Bool) (l : Addr) (items : Array Value) : Begins (.ref l) (objX b l) fun h => IsX b h l items := by
  cases b with
  | true => exact begins_tuple l items
  | false => exact begins_list l items
theorem itX_new {b : Bool} {h : Heap} {it a : Addr} (e : h.get? it = some (objX b a)) : ItX b h it a 0 := by
  cases b with
  | true => exact ⟨_, e, rfl, rfl⟩
  | false => exact ⟨_, e, rfl, rfl⟩
theorem ItX.at {b : Bool} {h h' : Heap} {it a : Addr} {i : Nat} (x : ItX b h it a i) (k : ∀ o, h.get? it = some o → h'.get? it = some o) : ItX b h' it a i := by
  cases b with
  | true => exact Heap.IsTupleIter.at (h := h) x k
  | false => exact Heap.IsListIter.at (h := h) x k
theorem ItX.obj {b : Bool} {h : Heap} {it a : Addr} {i : Nat} (x : ItX b h it a i) : ∃ o, h.get? it = some o ∧ ∀ v, o.data ≠ .cell v := by
  cases b with
  | true =>
    obtain ⟨o, e, _, d⟩ := (x : h.IsTupleIter it a i)
    exact ⟨o, e, fun v q => by rw [d] at q; cases q⟩
  | false =>
    obtain ⟨o, e, _, d⟩ := (x : h.IsListIter it a i)
    exact ⟨o, e, fun v q => by rw [d] at q; cases q⟩
theorem Inv.seqX {X : Cx} {pins : List (Addr × Obj)} {σ : L2.St} {H : Hp} {s : Shared} {b : Bool} {a : Addr} {xs : List V} (I : L2.Inv X pins σ H s) (h : SqX b X.K H a xs) : ∃ its : List Value, Vals xs its ∧ IsX b s.heap a its.toArray := by
  cases b with
  | true =>
    obtain ⟨its, r, p, _⟩ := I.tuple h
    exact ⟨its, r, p⟩
  | false =>
    obtain ⟨its, r, p, _⟩ := I.list h
    exact ⟨its, r, p.isList⟩
theorem seqX_inj {X : Cx} {pins : List (Addr × Obj)} {σ : L2.St} {H : Hp} {s : Shared} {b : Bool} {a : Addr} {xs ys : List V} (I : L2.Inv X pins σ H s) (h : SqX b X.K H a xs) (h' : SqX b X.K H a ys) : xs = ys := by
  cases b with
  | true => exact I.tuple_inj h h'
  | false => exact I.list_inj h h'
def ItzX (b1 b2 : Bool) (K : PySem.W.Frag) (a b : Addr) : It :=
  ⟨fun i H => ∃ (xs ys : List V) (x y : V), SqX b1 K H a xs ∧ SqX b2 K H b ys ∧ xs[i]? = some x ∧ ys[i]? = some y,
    fun i H v H' => ∃ T x y, v = .ref T ∧ H T = none ∧ H' = upd H T (.tup [x, y]) ∧ (∀ xs, SqX b1 K H a xs → xs[i]? = some x) ∧ ∀ ys, SqX b2 K H b ys → ys[i]? = some y,
    fun i H => ∃ xs ys : List V, SqX b1 K H a xs ∧ SqX b2 K H b ys ∧ i = min xs.length ys.length⟩
theorem turn_zipX {P : Program} {w : World} {K : PySem.W.Frag} {elts : List Expr} {kk : Nat} {tpos : Pos} {b1 b2 : Bool} {a b n : Addr} (la : a < n) (lb : b < n) :
    Turn P w K (.Tuple elts kk tpos) (ItzX b1 b2 K a b) [n + 4, n + 2, n + 3, n, n + 1] (n + 4) (fun i h => IsZip h (n + 4) (n + 2) (n + 3) .none ∧ IsTupOf2 h (n + 2) (.ref n) (.ref (n + 1)) ∧ (∃ x y, IsTupOf2 h (n + 3) x y) ∧ ItX b1 h n a i ∧ ItX b2 h (n + 1) b i) where
  mem := by simp
  obj := fun i h st c hc => by
    obtain ⟨hz, hTI, ⟨x, y, hTO⟩, h1, h2⟩ := st
    have e' : c = n + 4 ∨ c = n + 2 ∨ c = n + 3 ∨ c = n ∨ c = n + 1 := by simpa using hc
    rcases e' with q | q | q | q | q
    · rw [q]
      exact ⟨_, hz, fun v q => nomatch q⟩
    · rw [q]
      exact ⟨_, hTI, fun v q => nomatch q⟩
    · rw [q]
      exact ⟨_, hTO, fun v q => nomatch q⟩
    · rw [q]
      exact h1.obj
    · rw [q]
      exact h2.obj
  keep := fun i h h' st k => by
    obtain ⟨hz, hTI, ⟨x, y, hTO⟩, h1, h2⟩ := st
    exact ⟨k (n + 4) (by simp) _ hz, k (n + 2) (by simp) _ hTI, ⟨x, y, k (n + 3) (by simp) _ hTO⟩, h1.at fun o q => k n (by simp) o q, h2.at fun o q => k (n + 1) (by simp) o q⟩
  item := by
    intro X hP hw hK hc i pins s σ H E I hf st hg
    subst hP hw hK
    obtain ⟨hz, hTI, hTO, h1, h2⟩ := st
    obtain ⟨xs, ys, x, y, hqx, hqy, hx, hy⟩ := hg
    obtain ⟨its, rv, p1⟩ := Inv.seqX I hqx
    obtain ⟨its2, rv2, p2⟩ := Inv.seqX I hqy
    obtain ⟨u, hu, ru⟩ := rv.get hx
    obtain ⟨u2, hu2, ru2⟩ := rv2.get hy
    have hh := I.ok.hd hc
    have Z := GoesN.zip2 (elts := elts) (x1 := kk) (pos := tpos) (zip_sep2 (N := n) (fp1 := [a]) (fp2 := [b]) (fun c hc => by rw [List.mem_singleton.mp hc]; exact la) (fun c hc => by rw [List.mem_singleton.mp hc]; exact lb))
      (draws_X (prog := X.prog) (w := X.w) (A := X.A.in1) b1 hh n a (Nat.ne_of_lt la) its.toArray) (draws_X (prog := X.prog) (w := X.w) (A := X.A.in1) b2 hh (n + 1) b (Nat.ne_of_lt (Nat.lt_succ_of_lt lb)) its2.toArray)
    have hi1 : i < its.length := (List.getElem?_eq_some_iff.mp hu).1
    have hi2 : i < its2.length := (List.getElem?_eq_some_iff.mp hu2).1
    refine Z.goes i s _ E (by rw [List.size_toArray, List.size_toArray]; omega) ⟨hz, hTI, hTO, ⟨h1, p1⟩, ⟨h2, p2⟩⟩ fun v h' tk hY st' hk htk => ?_
    obtain ⟨T, x', y', rfl, hT, hx', hy', hTup⟩ := hY
    rw [List.getElem?_toArray, hu] at hx'
    rw [List.getElem?_toArray, hu2] at hy'
    cases hx'
    cases hy'
    obtain ⟨hz', hTI', hTO', ⟨h1', _⟩, ⟨h2', _⟩⟩ := st'
    have new : ObjOk X.prog X.w (upd H T (.tup [x, y])) h' T (.tup [x, y]) := ⟨by show 2 ≤ sizeLine; decide, [u, u2], .cons ru (.cons ru2 .nil), hTup⟩
    have I1 : L2.Inv X pins σ (upd H T (.tup [x, y])) { s with heap := h', toks := tk } :=
      I.turnedNew (t' := tk) (ch := [n + 4, n + 2, n + 3, n, n + 1]) (fun c o hb q => hk c o (fun m => hb (by
        have m' : c = n + 4 ∨ c = n + 3 ∨ c = n ∨ c = n + 1 := by simpa using m
        rcases m' with m | m | m | m <;> simp [m])) q) hf hT new
    refine ⟨.ref T, _, I1, rfl, ⟨T, x, y, rfl, I.hok.fresh hT, rfl, fun l hl => by rw [seqX_inj I hl hqx]; exact hx, fun l hl => by rw [seqX_inj I hl hqy]; exact hy⟩, ⟨hz', hTI', hTO', h1', h2'⟩, fun c hcm => ?_⟩
    have hlt : c < s.heap.objs.size := by
      have e' : c = n + 4 ∨ c = n + 2 ∨ c = n + 3 ∨ c = n ∨ c = n + 1 := by simpa using hcm
      obtain ⟨a1, a2, hTO⟩ := hTO
      rcases e' with q | q | q | q | q
      · rw [q]; exact Heap.lt_size hz
      · rw [q]; exact Heap.lt_size hTI
      · rw [q]; exact Heap.lt_size hTO
      · rw [q]; obtain ⟨_, e1, _⟩ := h1.obj; exact Heap.lt_size e1
      · rw [q]; obtain ⟨_, e1, _⟩ := h2.obj; exact Heap.lt_size e1
    rw [upd_ne (Nat.ne_of_lt (Nat.lt_of_lt_of_le hlt hT))]
    exact (hf c hcm).1
  done := by
    intro X hP hw hK hc i pins s σ H E I hf st hg
    subst hP hw hK
    obtain ⟨hz, hTI, hTO, h1, h2⟩ := st
    obtain ⟨xs, ys, hqx, hqy, hend⟩ := hg
    obtain ⟨its, rv, p1⟩ := Inv.seqX I hqx
    obtain ⟨its2, rv2, p2⟩ := Inv.seqX I hqy
    have hh := I.ok.hd hc
    have Z := GoesN.zip2 (elts := elts) (x1 := kk) (pos := tpos) (zip_sep2 (N := n) (fp1 := [a]) (fp2 := [b]) (fun c hc => by rw [List.mem_singleton.mp hc]; exact la) (fun c hc => by rw [List.mem_singleton.mp hc]; exact lb))
      (draws_X (prog := X.prog) (w := X.w) (A := X.A.in1) b1 hh n a (Nat.ne_of_lt la) its.toArray) (draws_X (prog := X.prog) (w := X.w) (A := X.A.in1) b2 hh (n + 1) b (Nat.ne_of_lt (Nat.lt_succ_of_lt lb)) its2.toArray)
    have en : i = min its.toArray.size its2.toArray.size := by
      rw [List.size_toArray, List.size_toArray, ← rv.length, ← rv2.length]
      exact hend
    rw [en] at h1 h2
    refine Z.stops s _ E ⟨hz, hTI, hTO, ⟨h1, p1⟩, ⟨h2, p2⟩⟩ fun h' tk hk htk => ?_
    exact I.turnedL (t' := tk) (ch := [n + 4, n + 2, n + 3, n, n + 1]) (fun c o hb q => hk c o (fun m => hb (by
        have m' : c = n + 4 ∨ c = n + 3 ∨ c = n ∨ c = n + 1 := by simpa using m
        rcases m' with m | m | m | m <;> simp [m])) q) hf
  self := fun A i s Q E st h => wpAny_pyIter_zip st.1 h
def iZipX (K : PySem.W.Frag) (ta : TA) : TI := fun σ H R => ta σ H fun vs H1 => ∃ b1 b2 a b xs ys, vs = [.ref a, .ref b] ∧ SqX b1 K H1 a xs ∧ SqX b2 K H1 b ys ∧ R (ItzX b1 b2 K a b) H1
theorem pi_zipX {X : Cx} {e e2 : Expr} {ta : TA} {p pos tpos : Pos} {elts : List Expr} {kk : Nat} (hg : Gl X "zip") (hm : X.mg "zip" = none) (ha : PA X [e, e2] ta)
    (hs : starEach [e, e2] X.env = (false, eval e X.env) :: starEach [e2] X.env) (hpl : (backTo pos (starEach [e2] X.env)).any (·.1) = false) :
    PI X (.Tuple elts kk tpos) (.Call (.Name "zip" p) [e, e2] [] pos) (iZipX X.K ta) := by
  refine ⟨fun pins s σ H R I h => ?_⟩
  refine PyProof.Rows.Call_ (ld_blt I hg hm PyProof.Rows.boot_zip (PyProof.Rows.callWith_type1 (thn (ha.run pos pins s σ H _ I h) fun us s1 ⟨vs, H1, I1, r1, q1⟩ => ?_) hs hpl))
  obtain ⟨b1, b2, a, b, xs, ys, ex, hqx, hqy, q⟩ := q1
  subst ex
  obtain ⟨u1, u2, rfl, ru1, ru2⟩ := vals2 r1
  cases ru1
  cases ru2
  obtain ⟨its, rv, p1⟩ := Inv.seqX I1 hqx
  obtain ⟨its2, rv2, p2⟩ := Inv.seqX I1 hqy
  refine zip_begins2 (begins_X b1 a its.toArray) (begins_X b2 b its2.toArray) p1 p2 fun h' hz hTI hTO g1 g2 hsz hk => wpAny_pyIter_zip hz ?_
  have I2 : L2.Inv X pins σ H1 { s1 with heap := h' } := I1.kept (t' := s1.toks) hk
  refine ⟨s1.heap.objs.size + 4, [s1.heap.objs.size + 4, s1.heap.objs.size + 2, s1.heap.objs.size + 3, s1.heap.objs.size, s1.heap.objs.size + 1], _, _, H1, rfl, I2, turn_zipX p1.lt p2.lt, ⟨hz, hTI, ⟨_, _, hTO⟩, itX_new g1, itX_new g2⟩, fun c hcm => ?_, q⟩
  have e' : c = s1.heap.objs.size + 4 ∨ c = s1.heap.objs.size + 2 ∨ c = s1.heap.objs.size + 3 ∨ c = s1.heap.objs.size ∨ c = s1.heap.objs.size + 1 := by simpa using hcm
  have hle : s1.heap.objs.size ≤ c := by
    rcases e' with z | z | z | z | z
    · rw [z]; exact Nat.le_add_right _ _
    · rw [z]; exact Nat.le_add_right _ _
    · rw [z]; exact Nat.le_add_right _ _
    · rw [z]; exact Nat.le_refl _
    · rw [z]; exact Nat.le_add_right _ _
  exact I1.fpOk hle (I1.hok.fresh hle)
def seqD (env : Env') (x : Sl) (q : List D → (Env' → Prop) → Prop) : Prop := match x with
  | .ext (.tup ds) => q ds fun _ => True
  | x => iterD env x q
def dZip (ta tb : DT) : DTI := fun Ex env Q => ta Ex env fun x env1 => tb Ex env1 fun y env2 => seqD env2 x fun xs k1 => seqD env2 y fun ys k2 => Q ((xs.zip ys).map fun p => D.tk [p.1, p.2]) (fun env' => k1 env' ∧ k2 env') env2
def Stands (K : PySem.W.Frag) (b : Bool) (a : Addr) (ds : List D) (k : Env' → Prop) (F0 : Hp) : Prop :=
  ∀ (e : Ent) (env : Env') (T : Tmp) (F : Hp) (σ : L2.St) (H : Hp), Holds K e env T F σ H → Same F0 F → k env → ∃ vs, SqX b K H a vs ∧ Reps K F ds vs
theorem Stands.mono {K : PySem.W.Frag} {b : Bool} {a : Addr} {ds : List D} {k : Env' → Prop} {F0 F1 : Hp} (h : Stands K b a ds k F0) (sm : Same F0 F1) : Stands K b a ds k F1 := fun e env T F σ H hh s kk => h e env T F σ H hh (sm.trans s) kk
theorem Holds.seqD {K : PySem.W.Frag} {e : Ent} {env : Env'} {T : Tmp} {F : Hp} {σ : L2.St} {H : Hp} {v : V} {x : Sl} {q : List D → (Env' → Prop) → Prop} (h : Holds K e env ((v, x) :: T) F σ H) (w : HD.seqD env x q) :
    ∃ b a ds k F1, v = .ref a ∧ q ds k ∧ Same F F1 ∧ Holds K e env T F1 σ H ∧ Stands K b a ds k F1 ∧ k env := by
  have fz : ∀ (ds : List D) (F1 : Hp), Same F F1 → Holds K e env ((v, .ext (.lst ds)) :: T) F1 σ H → q ds (fun _ => True) → ∃ b a ds k F1, v = .ref a ∧ q ds k ∧ Same F F1 ∧ Holds K e env T F1 σ H ∧ Stands K b a ds k F1 ∧ k env := fun ds F1 sm h1 w => by
    obtain ⟨a, vs, rfl, hb, hr⟩ := h1.temps (v, .ext (.lst ds)) List.mem_cons_self
    exact ⟨false, a, ds, _, F1, rfl, w, sm, h1.pop, fun e' env' T' F' σ' H' hh s _ => ⟨vs, SqL.of (hh.fh _ _ (s _ _ hb)), hr.same s⟩, trivial⟩
  cases x with
  | un => exact w.elim
  | reg _ _ => exact w.elim
  | ar i b =>
    have ev : v = .ref b := h.temps (v, .ar i b) List.mem_cons_self
    have w' : (match env[i]? with | some (.reg _ cs) => (match cellOf cs b with | some (.lst ds) => q ds (atC i b ds) | _ => False) | _ => False) := w
    split at w'
    · rename_i d cs hc
      split at w'
      · rename_i ds hd
        refine ⟨false, b, ds, _, F, ev, w', Same.refl _, h.pop, fun e' env' T' F' σ' H' hh s kk => ?_, ⟨d, cs, hc, hd⟩⟩
        obtain ⟨d0, cs0, k1, k2⟩ := kk
        obtain ⟨_, o, hv, vs, rfl, hr⟩ := hh.cell k1 k2
        exact ⟨vs, SqL.of hv, hr⟩
      · exact w'.elim
    · exact w'.elim
  | ext d =>
    cases d with
    | tup ds =>
      obtain ⟨a, vs, rfl, hb, hr⟩ := h.temps (v, .ext (.tup ds)) List.mem_cons_self
      exact ⟨true, a, ds, _, F, rfl, w, Same.refl _, h.pop, fun e' env' T' F' σ' H' hh s _ => ⟨vs, SqT.same hh.fh (SqT.same s hb.sq), hr.same s⟩, trivial⟩
    | lst ds => exact fz ds F (Same.refl _) h w
    | _ => exact w.elim
  | lst b ds =>
    obtain ⟨F1, sm, h1⟩ := h.freezeT
    exact fz ds F1 sm h1 w
  | al i b =>
    have ev : v = .ref b := h.temps (v, .al i b) List.mem_cons_self
    have w' : (match env[i]? with | some (.lst c ds) => c = b ∧ q ds (fun env' => env'[i]? = some (.lst b ds)) | _ => False) := w
    split at w'
    · rename_i c ds hc
      obtain ⟨rfl, w'⟩ := w'
      refine ⟨false, c, ds, _, F, ev, w', Same.refl _, h.pop, fun e' env' T' F' σ' H' hh s kk => ?_, hc⟩
      rcases hh.slots i _ kk with z | ⟨u, hu, e1, e2, vs, hv, hr⟩
      · cases z
      · exact ⟨vs, SqL.of hv, hr⟩
    · exact w'.elim
theorem src_zip {K : PySem.W.Frag} {b1 b2 : Bool} {a b : Addr} {xs ys : List D} {k1 k2 : Env' → Prop} {F0 : Hp} (h1 : Stands K b1 a xs k1 F0) (h2 : Stands K b2 b ys k2 F0) : Src K (ItzX b1 b2 K a b) ((xs.zip ys).map fun p => D.tk [p.1, p.2]) (fun env => k1 env ∧ k2 env) F0 := fun e env T F σ H i hh sm kk => by
  obtain ⟨vs, s1, r1⟩ := h1 e env T F σ H hh sm kk.1
  obtain ⟨us, s2, r2⟩ := h2 e env T F σ H hh sm kk.2
  refine ⟨fun hi => ⟨vs, us, s1, s2, ?_⟩, fun d hd => ?_⟩
  · rw [List.length_map, List.length_zip, r1.length, r2.length] at hi
    exact hi.symm
  · rw [List.getElem?_map] at hd
    cases hz : (xs.zip ys)[i]? with
    | none =>
      rw [hz] at hd
      cases hd
    | some p =>
      rw [hz] at hd
      have ed := Option.some.inj hd
      obtain ⟨hx, hy⟩ := List.getElem?_zip_eq_some.mp hz
      obtain ⟨v, hv, rv⟩ := r1.get hx
      obtain ⟨u, hu, ru⟩ := r2.get hy
      refine ⟨⟨vs, us, v, u, s1, s2, hv, hu⟩, fun x H2 hyl => ?_⟩
      obtain ⟨T', x1, x2, rfl, nT, rfl, f1, f2⟩ := hyl
      have e1 := f1 _ s1
      rw [hv] at e1
      cases e1
      have e2 := f2 _ s2
      rw [hu] at e2
      cases e2
      have g := Grow.frozen (o := .tup [v, u]) hh.fh nT
      refine ⟨_, g, ?_⟩
      rw [← ed]
      exact ⟨T', [v, u], rfl, SqT.of upd_same, ⟨v, [u], rfl, Rep.same g.ff rv, u, [], rfl, Rep.same g.ff ru, rfl⟩⟩
section
variable {G : GG} {N : List Str} {sc : SC} {k : Nat} {a b : Expr} {ta tb : DT} {p pos tpos : Pos} {elts : List Expr} {kk : Nat}
theorem di_zip (ha : DE G N sc k a ta) (hb : DE G N sc k b tb) (hm : G.mg "zip" = none) (hg : GlS sc "zip" := by rfl) (hs : NoStar a [b] := by intro _; rfl) (hs2 : NoStar b [] := by intro _; rfl) (hpl : ∀ env, (backTo pos (starEach [b] env)).any (·.1) = false := by intro _; rfl) :
    DI G N sc k (.Tuple elts kk tpos) (.Call (.Name "zip" p) [a, b] [] pos) (dZip ta tb) := ⟨fun W => by
  obtain ⟨te, p1, i1⟩ := ha.ex W
  obtain ⟨tf, p2, i2⟩ := hb.ex W
  refine ⟨iZipX G.K (tCons te (tCons tf tNil)), fun X S => ?_, fun e Ex hl env T F σ H Q R hh ht hR => ?_⟩
  · rw [← S.K]
    exact pi_zipX (S.gl hg) (by rw [S.mg]; exact hm) (pa_cons (p1 X S) (pa_cons (p2 X S) pa_nil (hs2 _)) (hs _)) (hs _) (hpl _)
  · refine i1 e Ex hl env T F σ H _ _ hh ht fun v H1 F1 env1 x hh1 q1 => ?_
    refine i2 e Ex hl env1 _ F1 σ H1 _ _ hh1 q1 fun u H2 F2 env2 y hh2 q2 => ?_
    obtain ⟨b1, a1, xs, k1, F3, rfl, q3, sm3, hh3, st1, kk1⟩ := (hh2.perm (List.Perm.swap _ _ _)).seqD q2
    obtain ⟨b2, a2, ys, k2, F4, rfl, q4, sm4, hh4, st2, kk2⟩ := hh3.seqD q3
    have st1' := st1.mono sm4
    obtain ⟨vs, s1, _⟩ := st1' e env2 T F4 σ H2 hh4 (Same.refl _) kk1
    obtain ⟨us, s2, _⟩ := st2 e env2 T F4 σ H2 hh4 (Same.refl _) kk2
    exact ⟨b1, b2, a1, a2, vs, us, rfl, s1, s2, hR _ H2 F4 env2 _ _ hh4 (src_zip st1' st2) q4⟩⟩
end
end HD
namespace HD
open PySem L2
def dCB (f : List D → (Sl → Prop) → Prop) (t : DTA) : DT := fun Ex env Q => t Ex env fun xs env1 => wds env1 xs fun ds => f ds fun sl => Q sl env1
theorem im_cb {K : PySem.W.Frag} {W : WX} {r : List V → Hp → VK → Prop} {f : List D → (Sl → Prop) → Prop} {ta : TA} {t : DTA} (hr : Pr K r f) (h : ImA K W ta t) : Im K W (tCB r ta) (dCB f t) := fun e Ex hl env T F σ H Q R hh ht hR => by
  refine h e Ex hl env T F σ H _ _ hh ht fun vs H1 F1 env1 xs le hh1 q1 => ?_
  obtain ⟨ds, rr, q2⟩ := hh1.wds le (fun p hp => List.mem_append_left _ hp) q1
  exact hr F1 H1 vs ds _ R hh1.fh rr q2 ((hh1.sub (List.sublist_append_right _ _)).done hR)
abbrev RR := Program → World → PySem.W.Frag → List V → Hp → VK → Prop
def BR (id : String) (f : List D → (Sl → Prop) → Prop) : Prop := ∃ r : RR, (∀ P w K, Pr K (r P w K) f) ∧ ∀ X : Cx, X.calm = true → X.A.units + 64 < cLine → CallR X (.builtin id) (r X.prog X.w X.K)
def TR (T : String) (f : List D → (Sl → Prop) → Prop) : Prop := ∃ r : RR, (∀ P w K, Pr K (r P w K) f) ∧ ∀ X : Cx, X.calm = true → X.A.units + 64 < cLine → CallR X (.type T) (r X.prog X.w X.K)
section
variable {G : GG} {N : List Str} {sc : SC} {k : Nat} {e : Expr} {es : List Expr} {x : Str} {id T : String} {f : List D → (Sl → Prop) → Prop} {t : DTA} {p pos : Pos}
theorem de_cb (hr : BR id f) (hm : G.mg x = none) (ha : DAs G N sc k (e :: es) t) (hv : bootBuiltins x = some (.builtin id) := by decide +kernel) (hg : GlS sc x := by rfl) (hn : x ≠ "__name__" := by decide) (hdb : (x == ("__debug__" : Str)) = false := by decide)
    (he : NoStar e es := by intro _; rfl) (hpl : ∀ env, (backTo pos (starEach es env)).any (·.1) = false := by intro _; rfl) : DE G N sc k (.Call (.Name x p) (e :: es) [] pos) (dCB f t) := ⟨fun W => by
  obtain ⟨r, h1, h2⟩ := hr
  obtain ⟨ta, p1, i1⟩ := ha.ex W
  refine ⟨tCB (r G.P G.w G.K) ta, fun X S => ?_, im_cb (h1 _ _ _) i1⟩
  have c := h2 X S.calm S.units
  rw [S.prog, S.w, S.K] at c
  exact pe_callB c (S.gl hg) (by rw [S.mg]; exact hm) hv (p1 X S) hn hdb (he _) (hpl _)⟩
theorem de_ct (hr : TR T f) (hm : G.mg x = none) (ha : DAs G N sc k (e :: es) t) (hv : bootBuiltins x = some (.type T) := by decide +kernel) (hg : GlS sc x := by rfl) (hn : x ≠ "__name__" := by decide) (hdb : (x == ("__debug__" : Str)) = false := by decide)
    (he : NoStar e es := by intro _; rfl) (hpl : ∀ env, (backTo pos (starEach es env)).any (·.1) = false := by intro _; rfl) : DE G N sc k (.Call (.Name x p) (e :: es) [] pos) (dCB f t) := ⟨fun W => by
  obtain ⟨r, h1, h2⟩ := hr
  obtain ⟨ta, p1, i1⟩ := ha.ex W
  refine ⟨tCB (r G.P G.w G.K) ta, fun X S => ?_, im_cb (h1 _ _ _) i1⟩
  have c := h2 X S.calm S.units
  rw [S.prog, S.w, S.K] at c
  exact pe_callTy c (S.gl hg) (by rw [S.mg]; exact hm) hv (p1 X S) hn hdb (he _) (hpl _)⟩
end
def fLen : List D → (Sl → Prop) → Prop
  | [.lst ds], Q => Q (.ext (.int ds.length))
  | [.tup ds], Q => Q (.ext (.int ds.length))
  | [.fz ds], Q => Q (.ext (.int ds.length))
  | [.tk ds], Q => Q (.ext (.int ds.length))
  | [.str z], Q => z.length ≤ sizeLine ∧ Q (.ext (.int z.length))
  | _, _ => False
theorem b_len : BR "len" fLen := ⟨fun _ _ K xs H Q => (∃ p ys, xs = [.ref p] ∧ (SqL K H p ys ∨ SqT K H p ys) ∧ Q (.int ys.length) H) ∨ (∃ z, xs = [.str z] ∧ z.length ≤ sizeLine ∧ Q (.int z.length) H), fun _ _ K F H vs ds Q R fh hr hf ha => by
    unfold fLen at hf
    split at hf
    · obtain ⟨v, rfl, r⟩ := hr.one
      obtain ⟨a, vs, rfl, e1, r1⟩ := r.lst fh
      refine .inl ⟨a, vs, rfl, .inl (SqL.of e1), ?_⟩
      rw [← r1.length]
      exact ha.int fh hf
    · obtain ⟨v, rfl, r⟩ := hr.one
      obtain ⟨a, vs, rfl, e1, _, r1⟩ := r.tup fh
      refine .inl ⟨a, vs, rfl, .inr e1, ?_⟩
      rw [← r1.length]
      exact ha.int fh hf
    · obtain ⟨v, rfl, r⟩ := hr.one
      obtain ⟨a, vs, rfl, e1, r1⟩ := r.fz fh
      refine .inl ⟨a, vs, rfl, .inl e1, ?_⟩
      rw [← r1.length]
      exact ha.int fh hf
    · obtain ⟨v, rfl, r⟩ := hr.one
      obtain ⟨a, vs, rfl, e1, _, r1⟩ := r.tk fh
      refine .inl ⟨a, vs, rfl, .inr e1, ?_⟩
      rw [← r1.length]
      exact ha.int fh hf
    · obtain ⟨v, rfl, r⟩ := hr.one
      exact .inr ⟨_, by rw [r.str], hf.1, ha.int fh hf.2⟩
    · exact hf.elim, fun X _ _ => call_len_seq.or call_len_str⟩
def fMin : List D → (Sl → Prop) → Prop
  | [.int i, .int j], Q => Q (.ext (.int (if j < i then j else i)))
  | [.lst ds], Q => ∃ ns : List Int, ds = ns.map D.int ∧ ns ≠ [] ∧ ∀ m, m ∈ ns → (∀ y, y ∈ ns → m ≤ y) → Q (.ext (.int m))
  | _, _ => False
def fMax : List D → (Sl → Prop) → Prop
  | [.int i, .int j], Q => Q (.ext (.int (if j > i then j else i)))
  | [.lst ds], Q => ∃ ns : List Int, ds = ns.map D.int ∧ ns ≠ [] ∧ ∀ m, m ∈ ns → (∀ y, y ∈ ns → y ≤ m) → Q (.ext (.int m))
  | _, _ => False
theorem b_min : BR "min" fMin := ⟨fun _ _ K xs H Q => (∃ i j, xs = [.int i, .int j] ∧ Q (.int (if j < i then j else i)) H) ∨ rMin K xs H Q, fun _ _ K F H vs ds Q R fh hr hf ha => by
    unfold fMin at hf
    split at hf
    · obtain ⟨v, u, rfl, r1, r2⟩ := hr.two
      exact .inl ⟨_, _, by rw [r1.int, r2.int], ha.int fh hf⟩
    · obtain ⟨v, rfl, r⟩ := hr.one
      obtain ⟨ns, rfl, ne, q⟩ := hf
      obtain ⟨a, vs, rfl, e1, r1⟩ := r.lst fh
      have z := r1.ints
      subst z
      exact .inr ⟨a, ns, rfl, SqL.of e1, List.length_pos_iff.mpr ne, fun m h1 h2 => ha.int fh (q m h1 h2)⟩
    · exact hf.elim, fun X hc _ => (call_min2 hc).or (cr_min hc)⟩
theorem b_max : BR "max" fMax := ⟨fun _ _ K xs H Q => (∃ i j, xs = [.int i, .int j] ∧ Q (.int (if j > i then j else i)) H) ∨ rMax K xs H Q, fun _ _ K F H vs ds Q R fh hr hf ha => by
    unfold fMax at hf
    split at hf
    · obtain ⟨v, u, rfl, r1, r2⟩ := hr.two
      exact .inl ⟨_, _, by rw [r1.int, r2.int], ha.int fh hf⟩
    · obtain ⟨v, rfl, r⟩ := hr.one
      obtain ⟨ns, rfl, ne, q⟩ := hf
      obtain ⟨a, vs, rfl, e1, r1⟩ := r.lst fh
      have z := r1.ints
      subst z
      exact .inr ⟨a, ns, rfl, SqL.of e1, List.length_pos_iff.mpr ne, fun m h1 h2 => ha.int fh (q m h1 h2)⟩
    · exact hf.elim, fun X hc _ => (call_max2 hc).or (cr_max hc)⟩
def fSum : List D → (Sl → Prop) → Prop
  | [.lst ds], Q => ∃ ns : List Int, ds = ns.map D.int ∧ Q (.ext (.int ns.sum))
  | _, _ => False
theorem b_sum : BR "sum" fSum := ⟨fun _ _ K => rSum K, fun _ _ K F H vs ds Q R fh hr hf ha => by
    unfold fSum at hf
    split at hf
    · obtain ⟨v, rfl, r⟩ := hr.one
      obtain ⟨ns, rfl, q⟩ := hf
      obtain ⟨a, vs, rfl, e1, r1⟩ := r.lst fh
      have z := r1.ints
      subst z
      exact ⟨a, ns, rfl, SqL.of e1, ha.int fh q⟩
    · exact hf.elim, fun X hc _ => cr_sum hc⟩
def fAll : List D → (Sl → Prop) → Prop
  | [.lst ds], Q => ∃ bs : List Bool, ds = bs.map D.bl ∧ Q (.ext (.bl (bs.all id)))
  | _, _ => False
def fAny : List D → (Sl → Prop) → Prop
  | [.lst ds], Q => ∃ bs : List Bool, ds = bs.map D.bl ∧ Q (.ext (.bl (bs.any id)))
  | _, _ => False
theorem b_all : BR "all" fAll := ⟨fun _ _ K => rAll K, fun _ _ K F H vs ds Q R fh hr hf ha => by
    unfold fAll at hf
    split at hf
    · obtain ⟨v, rfl, r⟩ := hr.one
      obtain ⟨ns, rfl, q⟩ := hf
      obtain ⟨a, vs, rfl, e1, r1⟩ := r.lst fh
      have z := r1.bls
      subst z
      exact ⟨a, ns, rfl, SqL.of e1, ha.bl fh q⟩
    · exact hf.elim, fun X hc _ => cr_all hc⟩
def fSorted : List D → (Sl → Prop) → Prop
  | [.lst ds], Q => ∃ ns : List Int, ds = ns.map D.int ∧ ∀ (ns' : List Int) (a : Addr), ns'.Perm ns → ns'.Pairwise (· ≤ ·) → Q (.lst a (ns'.map D.int))
  | _, _ => False
theorem b_sorted : BR "sorted" fSorted := ⟨fun _ _ K => rSortedI K, fun _ _ K F H vs ds Q R fh hr hf ha => by
    unfold fSorted at hf
    split at hf
    · obtain ⟨v, rfl, r⟩ := hr.one
      obtain ⟨ns, rfl, q⟩ := hf
      obtain ⟨a, vs, rfl, e1, r1⟩ := r.lst fh
      have z := r1.ints
      subst z
      exact ⟨a, ns, rfl, SqL.of e1, fun ns' p h1 h2 n => ha.lst fh n (Reps.of_ints ns') (q ns' p h1 h2)⟩
    · exact hf.elim, fun X _ _ => cr_sortedI⟩
def fTuple : List D → (Sl → Prop) → Prop
  | [.lst ds], Q => Q (.ext (.tup ds))
  | [.tup ds], Q => Q (.ext (.tup ds))
  | _, _ => False
theorem t_tuple : TR "tuple" fTuple := ⟨fun _ _ K xs H Q => ∃ p ys, xs = [.ref p] ∧ ((SqL K H p ys ∧ newT H ys Q) ∨ (SqT K H p ys ∧ Q (.ref p) H)), fun _ _ K F H vs ds Q R fh hr hf ha => by
    unfold fTuple at hf
    split at hf
    · obtain ⟨v, rfl, r⟩ := hr.one
      obtain ⟨a, vs, rfl, e1, r1⟩ := r.lst fh
      exact ⟨a, vs, rfl, .inl ⟨SqL.of e1, ha.tup fh r1 hf⟩⟩
    · obtain ⟨v, rfl, r⟩ := hr.one
      obtain ⟨a, vs, rfl, e1, e2, r1⟩ := r.tup fh
      exact ⟨a, vs, rfl, .inr ⟨e1, ha.ext (d := .tup _) fh ⟨a, vs, rfl, e2, r1⟩ hf⟩⟩
    · exact hf.elim, fun X _ _ => call_tupleF⟩
def fList : List D → (Sl → Prop) → Prop
  | [.lst ds], Q => ∀ a, Q (.lst a ds)
  | [.tup ds], Q => ∀ a, Q (.lst a ds)
  | [.fz ds], Q => ∀ a, Q (.lst a ds)
  | _, _ => False
theorem t_list : TR "list" fList := ⟨fun _ _ K xs H Q => ∃ p ys, xs = [.ref p] ∧ (SqL K H p ys ∨ SqT K H p ys) ∧ ∀ l, H l = none → Q (.ref l) (upd H l (.lst ys)), fun _ _ K F H vs ds Q R fh hr hf ha => by
    unfold fList at hf
    split at hf
    · obtain ⟨v, rfl, r⟩ := hr.one
      obtain ⟨a, vs, rfl, e1, r1⟩ := r.lst fh
      exact ⟨a, vs, rfl, .inl (SqL.of e1), fun l n => ha.lst fh n r1 (hf l)⟩
    · obtain ⟨v, rfl, r⟩ := hr.one
      obtain ⟨a, vs, rfl, e1, e2, r1⟩ := r.tup fh
      exact ⟨a, vs, rfl, .inr e1, fun l n => ha.lst fh n r1 (hf l)⟩
    · obtain ⟨v, rfl, r⟩ := hr.one
      obtain ⟨a, vs, rfl, e1, r1⟩ := r.fz fh
      exact ⟨a, vs, rfl, .inl e1, fun l n => ha.lst fh n r1 (hf l)⟩
    · exact hf.elim, fun X _ _ => call_list_of⟩
def D.ty : D → String
  | .non => "NoneType"
  | .bl _ => "bool"
  | .int _ => "int"
  | .str _ => "str"
  | .lst _ => "list"
  | .fz _ => "list"
  | .tup _ => "tuple"
  | .tk _ => "tuple"
  | .val _ => "?"
  | .exc _ => "?"
  | .glo _ => "?"
  | .dk _ _ => "?"
  | .dt _ _ => "?"
theorem tyX_of {K : PySem.W.Frag} {H : Hp} {d : D} {v : V} (n : d.noVal = true) (h : Rep K H d v) : TyX K H v (.type d.ty) ∨ ∃ ds, d = .fz ds := by
  cases d with
  | non =>
    have e : v = .non := h
    rw [e]
    exact .inl (.base .non)
  | bl b =>
    have e : v = .bl b := h
    rw [e]
    exact .inl (.base (.bl b))
  | int b =>
    have e : v = .int b := h
    rw [e]
    exact .inl (.base (.int b))
  | str b =>
    have e : v = .str b := h
    rw [e]
    exact .inl (.base (.str b))
  | val u => cases n
  | exc c => cases n
  | glo c => cases n
  | dk _ _ => cases n
  | dt _ _ => cases n
  | fz ds => exact .inr ⟨ds, rfl⟩
  | lst ds =>
    obtain ⟨a, xs, rfl, hs, _⟩ := h
    exact .inl (.base (.lst hs))
  | tup ds =>
    obtain ⟨a, xs, rfl, hs, _⟩ := h
    left
    rcases hs.sq with (hs | ⟨o, hs⟩) | ⟨o, its, m, hs, hc, _⟩
    · exact .base (.tup hs)
    · exact .fTuple hs
    · exact .kTuple hs hc
  | tk ds =>
    obtain ⟨a, xs, rfl, hs, _⟩ := h
    left
    rcases hs with (hs | ⟨o, hs⟩) | ⟨o, its, m, hs, hc, _⟩
    · exact .base (.tup hs)
    · exact .fTuple hs
    · exact .kTuple hs hc
theorem tyX_T {K : PySem.W.Frag} {F H : Hp} {d : D} {v : V} (fh : Same F H) (n : d.noVal = true) (h : RepT K F H d v) (nf : ∀ ds, d ≠ .fz ds) : TyX K H v (.type d.ty) := by
  rcases tyX_of n (h.rep fh) with z | ⟨ds, z⟩
  · exact z
  · exact absurd z (nf ds)
def rIsiS (K : PySem.W.Frag) : List V → Hp → VK → Prop := fun xs H Q => ∃ (x : V) (tp : Addr) (cs : List V) (t : Value) (us : List Value) (b : Bool), xs = [x, .ref tp] ∧ SqT K H tp cs ∧ Paired ClsV cs us ∧ TyX K H x t ∧ PySem.W.kitAny K t us = some b ∧ Q (.bl b) H
theorem call_isiS {X : Cx} : CallR X (.builtin "isinstance") (rIsiS X.K) := by
  intro pins s σ H xs us Q I r h
  obtain ⟨x, tp, cs, t, ws, b, rfl, hT, k, ty, e, q⟩ := h
  obtain ⟨u1, u2, rfl, r1, r2⟩ := vals2 r
  cases (show u2 = Value.ref tp from r2)
  obtain ⟨P, Z, p, hx⟩ := kit_of I r1 ty
  obtain ⟨its, rv, ⟨o, h1, h2, n, h3⟩, _⟩ := I.tuple hT
  have e3 := ClsV.all k rv
  subst e3
  obtain ⟨oc, od, dt, sl⟩ := o
  simp only at h2 h3
  subst h2 h3
  exact PySem.W.kia_tup Z I.kIn p h1 e hx fun tk => ⟨.bl b, H, I.tok tk, rfl, q⟩
def D.isFz : D → Bool
  | .fz _ => true
  | _ => false
def fIsi : List D → (Sl → Prop) → Prop
  | [d, .val (.ty T)], Q => d.noVal = true ∧ d.isFz = false ∧ ∃ b, kitB d.ty T = some b ∧ Q (.ext (.bl b))
  | [d, .tup [.val (.ty T), .val (.ty U)]], Q => d.noVal = true ∧ d.isFz = false ∧ ∃ b c, kitB d.ty T = some b ∧ kitB d.ty U = some c ∧ Q (.ext (.bl (b || c)))
  | _, _ => False
theorem b_isi : BR "isinstance" fIsi := ⟨fun _ _ K xs H Q => rIsi K xs H Q ∨ rIsiS K xs H Q, fun _ _ K F H vs ds Q R fh hr hf ha => by
    unfold fIsi at hf
    split at hf
    · rename_i d T
      obtain ⟨v, u, rfl, r1, r2⟩ := hr.two
      obtain ⟨n, nf, b, hb, q⟩ := hf
      rw [r2.val]
      exact .inl ⟨v, _, _, _, b, rfl, .ty T, tyX_T fh n r1 (fun ds z => by subst z; cases nf), kit_ty hb, ha.bl fh q⟩
    · rename_i d T U
      obtain ⟨v, u, rfl, r1, r2⟩ := hr.two
      obtain ⟨n, nf, b, c, hb, hc, q⟩ := hf
      obtain ⟨a, vs, rfl, e1, _, rr⟩ := r2.tup fh
      obtain ⟨v1, w1, rfl, h1, h2⟩ := rr
      obtain ⟨v2, w2, rfl, h3, h4⟩ := h2
      have z1 : v1 = .ty T := h1
      have z2 : v2 = .ty U := h3
      have z3 : w2 = [] := h4
      subst z1 z2 z3
      refine .inr ⟨v, a, _, _, [.type T, .type U], (b || c), rfl, e1, .cons (.ty T) (.cons (.ty U) .nil), tyX_T fh n r1 (fun ds z => by subst z; cases nf), ?_, ha.bl fh q⟩
      cases b with
      | true => exact kitAny_cons (kit_ty hb) (fun z => nomatch z) (fun _ => rfl)
      | false => exact kitAny_cons (kit_ty hb) (fun _ => kitAny_cons (kit_ty hc) (fun z => by subst z; exact kitAny_nil) (fun z => by subst z; rfl)) (fun z => nomatch z)
    · exact hf.elim, fun X _ _ => call_isi.or call_isiS⟩
def fStr : List D → (Sl → Prop) → Prop
  | [.int i], Q => i.natAbs.log2 < 1920 ∧ Q (.ext (.str (toString i)))
  | _, _ => False
section
variable {G : GG} {N : List Str} {sc : SC} {k : Nat} {a b : Expr} {ta tb : DT} {p p2 pos pos2 : Pos}
structure DRg (G : GG) (N : List Str) (sc : SC) (k : Nat) (e : Expr) (t : DX → Env' → (Int → Int → Env' → Prop) → Prop) : Prop where
  ex : ∀ W : WX, ∃ te, (∀ X, Sit G N sc W k X → PRg X e te) ∧ ∀ (e : Ent) (Ex : DX), Link G.K e W Ex → ∀ (env : Env') (T : Tmp) (F : Hp) (σ : L2.St) (H : Hp) (Q : Int → Int → Env' → Prop) (R : Int → Int → Hp → Prop),
    Holds G.K e env T F σ H → t Ex env Q → (∀ i j H' F' env', Holds G.K e env' T F' σ H' → Q i j env' → R i j H') → te σ H R
def dRg1 (t : DT) : DX → Env' → (Int → Int → Env' → Prop) → Prop := fun Ex env Q => t Ex env fun x env1 => match x with
  | .ext (.int n) => Q 0 n env1
  | _ => False
def dRg2 (t u : DT) : DX → Env' → (Int → Int → Env' → Prop) → Prop := fun Ex env Q => t Ex env fun x env1 => u Ex env1 fun y env2 => match x, y with
  | .ext (.int n), .ext (.int m) => Q n m env2
  | _, _ => False
theorem drg_1 (h : DE G N sc k a ta) (hm : G.mg "range" = none) (hg : GlS sc "range" := by rfl) (na : NoStar a [] := by intro _; rfl) : DRg G N sc k (.Call (.Name "range" p) [a] [] pos) (dRg1 ta) := ⟨fun W => by
  obtain ⟨te, p1, i1⟩ := h.ex W
  refine ⟨tRg1 te, fun X S => prg_1 (S.gl hg) (by rw [S.mg]; exact hm) (p1 X S) (na _), fun e Ex hl env T F σ H Q R hh ht hR => ?_⟩
  refine i1 e Ex hl env T F σ H _ _ hh ht fun v H1 F1 env1 x hh1 q1 => ?_
  cases x with
  | ext d =>
    cases d with
    | int n => exact ⟨n, hh1.temps (v, .ext (.int n)) List.mem_cons_self, hR 0 n H1 F1 env1 hh1.pop q1⟩
    | _ => exact q1.elim
  | _ => exact q1.elim⟩
theorem Reps.rg {K : PySem.W.Frag} {F : Hp} (lo hi : Int) : Reps K F (rgD lo hi) (rgV lo hi) := by
  unfold rgD rgV
  refine Reps.of_get (by rw [List.length_map, List.length_map]) fun i d v h1 h2 => ?_
  rw [List.getElem?_map] at h1 h2
  cases e : (List.range (hi - lo).toNat)[i]? with
  | none =>
    rw [e] at h1
    cases h1
  | some j =>
    rw [e] at h1 h2
    cases h1
    cases h2
    exact rfl
def dLstRg (t : DX → Env' → (Int → Int → Env' → Prop) → Prop) : DT := fun Ex env Q => t Ex env fun lo hi env1 => RgOk lo hi ∧ ∀ a, Q (.lst a (rgD lo hi)) env1
def dTupRg (t : DX → Env' → (Int → Int → Env' → Prop) → Prop) : DT := fun Ex env Q => t Ex env fun lo hi env1 => RgOk lo hi ∧ Q (.ext (.tup (rgD lo hi))) env1
theorem de_listRg {e : Expr} {t : DX → Env' → (Int → Int → Env' → Prop) → Prop} (h : DRg G N sc k e t) (hm : G.mg "list" = none) (hg : GlS sc "list" := by rfl) (na : NoStar e [] := by intro _; rfl) : DE G N sc k (.Call (.Name "list" p) [e] [] pos) (dLstRg t) := ⟨fun W => by
  obtain ⟨te, p1, i1⟩ := h.ex W
  refine ⟨tLstRg te, fun X S => pe_listRg S.calm (S.gl hg) (by rw [S.mg]; exact hm) (p1 X S) (na _), fun e Ex hl env T F σ H Q R hh ht hR => ?_⟩
  refine i1 e Ex hl env T F σ H _ _ hh ht fun lo hi H1 F1 env1 hh1 q1 => ⟨q1.1, fun q n => ?_⟩
  exact (hh1.done hR).lst hh1.fh n (Reps.rg lo hi) (q1.2 q)⟩
end
end HD
namespace HD
open PySem PyProof.Rows L2
section
variable {X : Cx} {o e : Expr} {es : List Expr} {to : TE} {t : TA} {name : Str} {apos cpos : Pos}
abbrev FewArgs (o : Expr) (name : Str) (e : Expr) (es : List Expr) (cpos : Pos) : Prop := ∀ env, attributeBase o name env (eval o env) = eval o env ∧
  ((backTo cpos (starEach (e :: es) env)).all (fun x => !x.1) && (backToKw cpos (keywordEach [] env)).all (fun x => x.1.isSome) && decide ((e :: es).length + ([] : List Keyword).length + (if ([] : List Keyword).isEmpty then 0 else 1) < 30)) = true ∧
  starEach (e :: es) env = (false, eval e env) :: starEach es env ∧ (backTo cpos (starEach es env)).any (·.1) = false
def tIndex (K : PySem.W.Frag) (rT rL : V → List V → Hp → VK → Prop) (to : TE) (t : TA) : TE := fun σ H Q => to σ H fun x H1 => ((∃ p xs, x = .ref p ∧ TupD K H1 p xs) ∧ t σ H1 fun xs H2 => rT x xs H2 Q) ∨ ((∃ p xs, x = .ref p ∧ SqL K H1 p xs) ∧ t σ H1 fun xs H2 => rL x xs H2 Q)
theorem pe_bmX {idT idL : String} {rT rL : V → List V → Hp → VK → Prop} (sT : Slot "tuple" name idT) (sL : Slot "list" name idL) (tyT : typeOf (.builtin idT) = pure (.type "method_descriptor")) (tyL : typeOf (.builtin idL) = pure (.type "method_descriptor")) (mT : MtR X idT rT) (mL : MtR X idL rL)
    (ho : PE X o to) (ha : PA X (e :: es) t) (hw : FewArgs o name e es cpos) (hline : (apos.endLine == cpos.line) = true) : PE X (.Call (.Attribute o name apos) (e :: es) [] cpos) (tIndex X.K rT rL to t) := by
  obtain ⟨hbase, hfew, hs, hplain⟩ := hw X.env
  refine ⟨fun pins s σ H Q I h => ?_⟩
  refine wpAny_Call_method_late hbase hfew hline rfl (thn (ho.run pins s σ H _ I h) fun v s1 ⟨x, H1, I1, r1, q1⟩ => ?_)
  rcases q1 with ⟨⟨p, xs, rfl, hT⟩, q1⟩ | ⟨⟨p, xs, rfl, hL⟩, q1⟩
  · obtain ⟨its, _, pt, _⟩ := I1.tuple hT.sq
    cases r1
    refine ⟨"tuple", idT, PySem.F.plainAttrs_tuple, sT, tyT, pt.typeIs, fun a ea => ?_, ?_⟩
    · cases ea
      exact hT.noDict I1
    · have hA := ha.run cpos pins s1 σ H1 _ I1 q1
      rw [hs] at hA ⊢
      refine Calls.callWith_builtin (by show (false || (backTo cpos (starEach es X.env)).any (·.1)) = false; rw [hplain] <;> rfl) (Calls.evalArgs_plain ?_)
      exact thn hA fun us s2 ⟨vs, H2, I2, r2, q2⟩ => mT pins s2 σ H2 (.ref p) vs _ us Q I2 rfl r2 q2
  · have ty : tyV X.K "list" (.ref p) H1 := .inl ⟨rfl, xs, hL⟩
    obtain ⟨h1, h2⟩ := tyV_is I1 r1 ty
    refine ⟨"list", idL, PySem.F.plainAttrs_list, sL, tyL, h1, h2, ?_⟩
    have hA := ha.run cpos pins s1 σ H1 _ I1 q1
    rw [hs] at hA ⊢
    refine Calls.callWith_builtin (by show (false || (backTo cpos (starEach es X.env)).any (·.1)) = false; rw [hplain] <;> rfl) (Calls.evalArgs_plain ?_)
    exact thn hA fun us s2 ⟨vs, H2, I2, r2, q2⟩ => mL pins s2 σ H2 _ vs _ us Q I2 r1 r2 q2
def rIndexT (K : PySem.W.Frag) : V → List V → Hp → VK → Prop := fun x xs H Q => ∃ (a : Addr) (ys : List V) (y : V) (j : Nat) (z : V), x = V.ref a ∧ xs = [y] ∧ SqT K H a ys ∧ flatV y = true ∧ ys.all flatV = true ∧ ys[j]? = some z ∧ eqV z y = true ∧
  (∀ m z', m < j → ys[m]? = some z' → eqV z' y = false) ∧ Q (.int (j : Nat)) H
theorem mt_indexT : MtR X "tuple.index" (rIndexT X.K) := by
  intro pins s σ H x xs v us Q I rx rs h
  obtain ⟨p, ys, y, j, z, rfl, rfl, hq, fy, fys, hz, hit, hno, q⟩ := h
  cases rx
  obtain ⟨u, rfl, ru⟩ := vals1 rs
  obtain ⟨its, r, pl, _⟩ := I.tuple hq
  obtain ⟨⟨cls, dd, dt, sl⟩, ho, hc, n, hd⟩ := pl
  simp only at hc hd
  subst hc
  subst hd
  have hl : its.toArray.size = ys.length := by rw [List.size_toArray, ← r.length]
  have hj : j < its.toArray.size := by rw [hl]; exact (List.getElem?_eq_some_iff.mp hz).1
  have key : ∀ (m : Nat) (hm : m < its.toArray.size) (w : V), ys[m]? = some w → eqU y its.toArray[m] = eqV w y := fun m hm w hw => by
    obtain ⟨iv, hiv, riv⟩ := r.get hw
    have e : its.toArray[m] = iv := by
      have e2 := (List.getElem?_eq_some_iff.mp hiv).2
      rw [← e2]
      simp
    rw [e]
    exact eqU_of riv (List.all_eq_true.mp fys w (List.mem_of_getElem? hw))
  refine call_meets PySem.F.slot_tuple_index ⟨_, ho, rfl⟩ PySem.F.entry_tuple_index (PySem.F.args_tuple_index_2 _ _) (TI.tuple_indexAt p its.toArray n dd sl u (eqU y) j hj ?_ ?_)
    ⟨ho, fun w hw => mem_eqAt ru fy r fys w (by simpa using hw), ⟨.int (j : Nat), H, I.tok _, ⟨_, rfl⟩, q⟩⟩
  · rw [key j hj z hz]
    exact hit
  · intro m hm hmj
    have hm' : m < ys.length := by rw [← hl]; exact hm
    rw [key m hm ys[m] (List.getElem?_eq_getElem hm')]
    exact hno m _ hmj (List.getElem?_eq_getElem hm')
end
def D.at? (d : D) (ds : List D) : Option Nat := ds.findIdx? fun z => eqV z.toV d.toV
def D.isSq : D → Bool
  | .tup _ => true
  | .lst _ => true
  | _ => false
def fIdx (d d' : D) (q : Sl → Prop) : Prop := match d with
  | .tup ds => d'.flat = true ∧ ds.all D.flat = true ∧ ∃ j, d'.at? ds = some j ∧ q (.ext (.int (j : Nat)))
  | .lst ds => d'.flat = true ∧ ds.all D.flat = true ∧ ∃ j, d'.at? ds = some j ∧ q (.ext (.int (j : Nat)))
  | _ => False
def dIndex (to ta : DT) : DT := fun Ex env Q => to Ex env fun x env1 => wd env1 x (fun d => d.isSq = true) ∧ ta Ex env1 fun y env2 => wd env2 x fun d => wd env2 y fun d' => fIdx d d' fun sl => Q sl env2
theorem at?_spec {K : PySem.W.Frag} {F : Hp} {d : D} {ds : List D} {vs : List V} {j : Nat} (r : Reps K F ds vs) (fd : d.flat = true) (fs : ds.all D.flat = true) (h : d.at? ds = some j) :
    flatV d.toV = true ∧ vs.all flatV = true ∧ ∃ z, vs[j]? = some z ∧ eqV z d.toV = true ∧ ∀ m z', m < j → vs[m]? = some z' → eqV z' d.toV = false := by
  obtain ⟨e1, e2⟩ := flat_reps r fs
  unfold D.at? at h
  obtain ⟨hj, h1, h2⟩ := List.findIdx?_eq_some_iff_getElem.mp h
  have fv : flatV d.toV = true := by
    cases d <;> first
      | rfl
      | exact nomatch fd
  refine ⟨fv, e2, ds[j].toV, ?_, h1, fun m z' hm hz => ?_⟩
  · rw [e1, List.getElem?_map, List.getElem?_eq_getElem hj]
    rfl
  · rw [e1, List.getElem?_map] at hz
    have hm' : m < ds.length := Nat.lt_trans hm hj
    rw [List.getElem?_eq_getElem hm'] at hz
    cases hz
    have z := h2 m hm
    simpa using z
section
variable {G : GG} {N : List Str} {sc : SC} {k : Nat} {a b : Expr} {ta tb : DT} {apos cpos p p2 pos pos2 : Pos}
theorem de_index (ha : DE G N sc k a ta) (hb : DE G N sc k b tb) (hw : FewArgs a "index" b [] cpos := by intro _; exact ⟨rfl, rfl, rfl, rfl⟩) (hline : (apos.endLine == cpos.line) = true := by rfl) : DE G N sc k (.Call (.Attribute a "index" apos) [b] [] cpos) (dIndex ta tb) := ⟨fun W => by
  obtain ⟨te, p1, i1⟩ := ha.ex W
  obtain ⟨tf, p2, i2⟩ := hb.ex W
  refine ⟨tIndex G.K (rIndexT G.K) (rIndex G.K) te (tCons tf tNil), fun X S => ?_, fun e Ex hl env T F σ H Q R hh ht hR => ?_⟩
  · rw [← S.K]
    exact pe_bmX PySem.F.slot_tuple_index PySem.F.slot_list_index PySem.F.type_tuple_index PySem.F.type_list_index mt_indexT mt_index (p1 X S) (pa_cons (p2 X S) pa_nil (hw X.env).2.2.1) hw hline
  · refine i1 e Ex hl env T F σ H _ _ hh ht fun v H1 F1 env1 x hh1 q1 => ?_
    obtain ⟨q0, q1⟩ := q1
    obtain ⟨d0, rd0, _⟩ := hh1.wd (v := v) (sl := x) List.mem_cons_self q0
    have finT : ∀ (u : V) (H2 F2 : Hp) (env2 : Env') (y : Sl) (ds : List D), Holds G.K e env2 ((u, y) :: (v, x) :: T) F2 σ H2 → RepT G.K F2 H2 (.tup ds) v → (HD.wd env2 y fun d' => fIdx (.tup ds) d' fun sl => Q sl env2) → rIndexT G.K v [u] H2 R := fun u H2 F2 env2 y ds hh2 rd q3 => by
      obtain ⟨d', rd', f1, f2, j, hj, q5⟩ := hh2.wd (v := u) (sl := y) List.mem_cons_self q3
      obtain ⟨c, vs, rfl, e1, _, r1⟩ := rd.tup hh2.fh
      obtain ⟨x1, _⟩ := flat_rep (rd'.rep hh2.fh) f1
      obtain ⟨g1, g2, z, g3, g4, g5⟩ := at?_spec r1 f1 f2 hj
      rw [x1]
      exact ⟨c, vs, _, j, z, rfl, rfl, e1, g1, g2, g3, g4, g5, (hh2.pop.pop.done hR).int hh2.fh q5⟩
    have finL : ∀ (u : V) (H2 F2 : Hp) (env2 : Env') (y : Sl) (ds : List D), Holds G.K e env2 ((u, y) :: (v, x) :: T) F2 σ H2 → RepT G.K F2 H2 (.lst ds) v → (HD.wd env2 y fun d' => fIdx (.lst ds) d' fun sl => Q sl env2) → rIndex G.K v [u] H2 R := fun u H2 F2 env2 y ds hh2 rd q3 => by
      obtain ⟨d', rd', f1, f2, j, hj, q5⟩ := hh2.wd (v := u) (sl := y) List.mem_cons_self q3
      obtain ⟨c, vs, rfl, e1, r1⟩ := rd.lst hh2.fh
      obtain ⟨x1, _⟩ := flat_rep (rd'.rep hh2.fh) f1
      obtain ⟨g1, g2, z, g3, g4, g5⟩ := at?_spec r1 f1 f2 hj
      rw [x1]
      exact ⟨c, vs, _, j, z, rfl, rfl, SqL.of e1, g1, g2, g3, g4, g5, (hh2.pop.pop.done hR).int hh2.fh q5⟩
    have never : ∀ (d : D), (∀ ds, d ≠ .tup ds) → (∀ ds, d ≠ .lst ds) → ∀ d' (q : Sl → Prop), ¬ fIdx d d' q := fun d h1 h2 d' q z => by
      cases d <;> first
        | exact h1 _ rfl
        | exact h2 _ rfl
        | exact z
    cases x with
    | un => exact q0.elim
    | ext d =>
      have rd : Rep G.K F1 d v := hh1.temps (v, .ext d) List.mem_cons_self
      by_cases ht : ∃ ds, d = .tup ds
      · obtain ⟨ds, rfl⟩ := ht
        obtain ⟨c, vs, rfl, e2, _⟩ := rd
        refine .inl ⟨⟨c, vs, rfl, TupD.same hh1.fh e2⟩, ?_⟩
        exact i2 e Ex hl env1 _ F1 σ H1 _ _ hh1 q1 fun u H2 F2 env2 y hh2 q2 => finT u H2 F2 env2 y ds hh2 (.inl (hh2.temps (_, .ext (.tup ds)) (List.mem_cons_of_mem _ List.mem_cons_self))) q2
      · by_cases hl' : ∃ ds, d = .lst ds
        · obtain ⟨ds, rfl⟩ := hl'
          obtain ⟨c, vs, rfl, e2, _⟩ := rd
          refine .inr ⟨⟨c, vs, rfl, SqL.of (hh1.fh _ _ e2)⟩, ?_⟩
          exact i2 e Ex hl env1 _ F1 σ H1 _ _ hh1 q1 fun u H2 F2 env2 y hh2 q2 => finL u H2 F2 env2 y ds hh2 (.inl (hh2.temps (_, .ext (.lst ds)) (List.mem_cons_of_mem _ List.mem_cons_self))) q2
        · have q0' : d.isSq = true := q0
          cases d <;> first
            | exact absurd ⟨_, rfl⟩ ht
            | exact absurd ⟨_, rfl⟩ hl'
            | exact nomatch q0'
    | lst b ds =>
      obtain ⟨rfl, _, vs, hv, _⟩ := hh1.temps (v, .lst b ds) List.mem_cons_self
      refine .inr ⟨⟨b, vs, rfl, SqL.of hv⟩, ?_⟩
      refine i2 e Ex hl env1 _ F1 σ H1 _ _ hh1 q1 fun u H2 F2 env2 y hh2 q2 => ?_
      obtain ⟨_, _, us, hu, hr⟩ := hh2.temps (V.ref b, .lst b ds) (List.mem_cons_of_mem _ List.mem_cons_self)
      exact finL u H2 F2 env2 y ds hh2 (.inr ⟨b, ds, us, rfl, rfl, hu, hr⟩) q2
    | reg _ _ => exact q0.elim
    | ar i b =>
      obtain rfl : v = .ref b := hh1.temps (v, .ar i b) List.mem_cons_self
      have q0' : (match env1[i]? with | some (.reg _ cs) => (match cellOf cs b with | some (.lst ds) => (D.lst ds).isSq = true | _ => False) | _ => False) := q0
      split at q0'
      · rename_i d0 cs hc
        split at q0'
        · rename_i ds0 hd0
          obtain ⟨_, o, hv, vs, rfl, _⟩ := hh1.cell hc hd0
          refine .inr ⟨⟨b, vs, rfl, SqL.of hv⟩, ?_⟩
          refine i2 e Ex hl env1 _ F1 σ H1 _ _ hh1 q1 fun u H2 F2 env2 y hh2 q2 => ?_
          have w' : (match env2[i]? with | some (.reg _ cs) => (match cellOf cs b with | some (.lst ds) => HD.wd env2 y (fun d' => fIdx (.lst ds) d' fun sl => Q sl env2) | _ => False) | _ => False) := q2
          split at w'
          · rename_i d1 cs1 hc1
            split at w'
            · rename_i ds hd1
              obtain ⟨_, o1, hv1, us, rfl, hr⟩ := hh2.cell hc1 hd1
              exact finL u H2 F2 env2 y ds hh2 (.inr ⟨b, ds, us, rfl, rfl, hv1, hr⟩) w'
            · exact w'.elim
          · exact w'.elim
        · exact q0'.elim
      · exact q0'.elim
    | al i b =>
      obtain rfl : v = .ref b := hh1.temps (v, .al i b) List.mem_cons_self
      have q0' : (match env1[i]? with | some (.lst c ds) => c = b ∧ (D.lst ds).isSq = true | _ => False) := q0
      split at q0'
      · rename_i c ds0 hc
        obtain ⟨rfl, _⟩ := q0'
        rcases hh1.slots i _ hc with z | ⟨_, _, _, _, vs, hv, _⟩
        · cases z
        · refine .inr ⟨⟨c, vs, rfl, SqL.of hv⟩, ?_⟩
          refine i2 e Ex hl env1 _ F1 σ H1 _ _ hh1 q1 fun u H2 F2 env2 y hh2 q2 => ?_
          have w' : (match env2[i]? with | some (.lst c' ds) => c' = c ∧ HD.wd env2 y (fun d' => fIdx (.lst ds) d' fun sl => Q sl env2) | _ => False) := q2
          split at w'
          · rename_i c' ds hc'
            obtain ⟨rfl, w'⟩ := w'
            rcases hh2.slots i _ hc' with z | ⟨_, _, _, _, us, hu, hr⟩
            · cases z
            · exact finL u H2 F2 env2 y ds hh2 (.inr ⟨c', ds, us, rfl, rfl, hu, hr⟩) w'
          · exact w'.elim
      · exact q0'.elim⟩
end
end HD
namespace HD
open PySem PyProof.Rows L2
abbrev DMut := List D → (D → List D → Prop) → Prop
def mutD (env : Env') (i : Nat) (a : Addr) (f : DMut) (Q : Sl → Env' → Prop) : Prop := match env[i]? with
  | some (.lst b ds) => b = a ∧ f ds fun d ds' => Q (.ext d) (env.set i (.lst a ds'))
  | _ => False
def PrM (K : PySem.W.Frag) (r : V → List V → Hp → VK → Prop) (vs : List V) (a : Addr) (F H : Hp) (ds : List D) (f : DMut) : Prop :=
  ∀ (q : D → List D → Prop) (R : VK), f ds q → (∀ v d us ds', Rep K F d v → Reps K F ds' us → q d ds' → R v (upd H a (.lst us))) → r (.ref a) vs H R
theorem Holds.mut {K : PySem.W.Frag} {e : Ent} {env : Env'} {T : Tmp} {F : Hp} {σ : L2.St} {H : Hp} {i : Nat} {a : Addr} {f : DMut} {Q : Sl → Env' → Prop} {R : VK} {r : V → List V → Hp → VK → Prop} {vs : List V} (h : Holds K e env T F σ H) (w : mutD env i a f Q)
    (hr : ∀ ds us, H a = some (.lst us) → Reps K F ds us → PrM K r vs a F H ds f) (hR : ∀ v H' F' env' sl, Holds K e env' ((v, sl) :: T) F' σ H' → Q sl env' → R v H') : r (.ref a) vs H R := by
  unfold mutD at w
  split at w
  · rename_i b ds hb
    obtain ⟨rfl, w⟩ := w
    rcases h.slots i _ hb with z | ⟨u, hu, e1, e2, us, hv, rr⟩
    · cases z
    · refine hr ds us hv rr _ R w fun v d us' ds' rd rs q => ?_
      exact hR v _ F _ (.ext d) ((h.write hb rs).pushE rd) q
  · exact w.elim
section
variable {G : GG} {N : List Str} {sc : SC} {k : Nat} {a b : Expr} {ta tb : DT} {apos cpos p p2 pos pos2 py : Pos} {x : Str}
abbrev VisV (N : List Str) (sc : SC) (i : Nat) (x : Str) : Prop := N[i]? = some x ∧ Vis sc.sc x ∧ (x == ("__debug__" : Str)) = false ∧ (x == ("__classdict__" : Str)) = false
def dAppend (i : Nat) (t : DT) : DT := fun Ex env Q => match env[i]? with
  | some (.lst a _) => t Ex env fun x env1 => frzD env1 x fun d env2 => mutD env2 i a (fun ds q => ds.length < sizeLine ∧ q .non (ds ++ [d])) Q
  | _ => False
theorem de_append (i : Nat) (hb : DE G N sc k b tb) (hw : FewArgs (.Name x py) "append" b [] cpos := by intro _; exact ⟨rfl, rfl, rfl, rfl⟩) (hv : VisV N sc i x := by exact ⟨rfl, by first | exact Or.inl rfl | exact Or.inr (Or.inl rfl) | exact Or.inr (Or.inr rfl), by decide, by decide⟩) (hline : (apos.endLine == cpos.line) = true := by rfl) :
    DE G N sc k (.Call (.Attribute (.Name x py) "append" apos) [b] [] cpos) (dAppend i tb) := ⟨fun W => by
  obtain ⟨tf, p2, i2⟩ := hb.ex W
  refine ⟨tBM G.K "list" rAppend (tVar i) (tCons tf tNil), fun X S => ?_, fun e Ex hl env T F σ H Q R hh ht hR => ?_⟩
  · obtain ⟨hbase, hfew, hs, hplain⟩ := hw X.env
    rw [← S.K]
    exact pe_bm PySem.F.plainAttrs_list PySem.F.slot_list_append PySem.F.type_list_append mt_append (pe_var (by rw [S.nms]; exact hv.1) (S.vis hv.2.1) hv.2.2.1 hv.2.2.2) (pa_cons (p2 X S) pa_nil hs) hbase hfew hline hs hplain
  · unfold dAppend at ht
    split at ht
    · rename_i c ds0 hc
      rcases hh.slots i _ hc with z | ⟨v0, hv0, e0, _, us0, hu0, _⟩
      · cases z
      · subst e0
        refine ⟨_, hv0, .inl ⟨rfl, us0, SqL.of hu0⟩, ?_⟩
        refine i2 e Ex hl env T F σ H _ _ hh ht fun u H2 F2 env2 y hh2 q2 => ?_
        obtain ⟨d, F3, env3, _, hh3, rd, q3⟩ := hh2.frz1 q2
        show rAppend (.ref c) [u] H2 R
        refine hh3.mut q3 (fun ds us hu rr q R' hf hk => ?_) hR
        obtain ⟨hz, hf⟩ := hf
        exact ⟨c, us, u, rfl, rfl, hu, by rw [← rr.length]; exact hz, hk .non .non _ _ rfl (rr.append (.one rd)) hf⟩
    · exact ht.elim⟩
def dExtend (i : Nat) (t : DT) : DT := fun Ex env Q => match env[i]? with
  | some (.lst a _) => t Ex env fun x env1 => wd env1 x fun d => match d with
    | .lst es => mutD env1 i a (fun ds q => ds.length + es.length ≤ sizeLine ∧ q .non (ds ++ es)) Q
    | _ => False
  | _ => False
theorem de_extend (i : Nat) (hb : DE G N sc k b tb) (hw : FewArgs (.Name x py) "extend" b [] cpos := by intro _; exact ⟨rfl, rfl, rfl, rfl⟩) (hv : VisV N sc i x := by exact ⟨rfl, by first | exact Or.inl rfl | exact Or.inr (Or.inl rfl) | exact Or.inr (Or.inr rfl), by decide, by decide⟩) (hline : (apos.endLine == cpos.line) = true := by rfl) :
    DE G N sc k (.Call (.Attribute (.Name x py) "extend" apos) [b] [] cpos) (dExtend i tb) := ⟨fun W => by
  obtain ⟨tf, p2, i2⟩ := hb.ex W
  refine ⟨tBM G.K "list" rExtend (tVar i) (tCons tf tNil), fun X S => ?_, fun e Ex hl env T F σ H Q R hh ht hR => ?_⟩
  · obtain ⟨hbase, hfew, hs, hplain⟩ := hw X.env
    rw [← S.K]
    exact pe_bm PySem.F.plainAttrs_list PySem.F.slot_list_extend PySem.F.type_list_extend mt_extend (pe_var (by rw [S.nms]; exact hv.1) (S.vis hv.2.1) hv.2.2.1 hv.2.2.2) (pa_cons (p2 X S) pa_nil hs) hbase hfew hline hs hplain
  · unfold dExtend at ht
    split at ht
    · rename_i c ds0 hc
      rcases hh.slots i _ hc with z | ⟨v0, hv0, e0, _, us0, hu0, _⟩
      · cases z
      · subst e0
        refine ⟨_, hv0, .inl ⟨rfl, us0, SqL.of hu0⟩, ?_⟩
        refine i2 e Ex hl env T F σ H _ _ hh ht fun u H2 F2 env2 y hh2 q2 => ?_
        obtain ⟨d, rd, q3⟩ := hh2.wd (v := u) (sl := y) List.mem_cons_self q2
        cases d with
        | lst es =>
          obtain ⟨c2, us2, rfl, hu2, rr2⟩ := rd.lst hh2.fh
          show rExtend (.ref c) [.ref c2] H2 R
          refine hh2.pop.mut q3 (fun ds us hu rr q R' hf hk => ?_) hR
          obtain ⟨hz, hf⟩ := hf
          exact ⟨c, c2, us, us2, rfl, rfl, hu, hu2, by rw [← rr.length, ← rr2.length]; exact hz, hk .non .non _ _ rfl (rr.append rr2) hf⟩
        | _ => exact q3.elim
    · exact ht.elim⟩
def dPopAt (i : Nat) (t : DT) : DT := fun Ex env Q => match env[i]? with
  | some (.lst a _) => t Ex env fun x env1 => match x with
    | .ext (.int n) => mutD env1 i a (fun ds q => 0 ≤ n ∧ n < 2 ^ 63 ∧ ∃ d, ds[n.toNat]? = some d ∧ q d (ds.eraseIdx n.toNat)) Q
    | _ => False
  | _ => False
theorem de_popAt (i : Nat) (hb : DE G N sc k b tb) (hw : FewArgs (.Name x py) "pop" b [] cpos := by intro _; exact ⟨rfl, rfl, rfl, rfl⟩) (hv : VisV N sc i x := by exact ⟨rfl, by first | exact Or.inl rfl | exact Or.inr (Or.inl rfl) | exact Or.inr (Or.inr rfl), by decide, by decide⟩) (hline : (apos.endLine == cpos.line) = true := by rfl) :
    DE G N sc k (.Call (.Attribute (.Name x py) "pop" apos) [b] [] cpos) (dPopAt i tb) := ⟨fun W => by
  obtain ⟨tf, p2, i2⟩ := hb.ex W
  refine ⟨tBM G.K "list" rPopAt (tVar i) (tCons tf tNil), fun X S => ?_, fun e Ex hl env T F σ H Q R hh ht hR => ?_⟩
  · obtain ⟨hbase, hfew, hs, hplain⟩ := hw X.env
    rw [← S.K]
    exact pe_bm PySem.F.plainAttrs_list PySem.F.slot_list_pop PySem.F.type_list_pop mt_popAt (pe_var (by rw [S.nms]; exact hv.1) (S.vis hv.2.1) hv.2.2.1 hv.2.2.2) (pa_cons (p2 X S) pa_nil hs) hbase hfew hline hs hplain
  · unfold dPopAt at ht
    split at ht
    · rename_i c ds0 hc
      rcases hh.slots i _ hc with z | ⟨v0, hv0, e0, _, us0, hu0, _⟩
      · cases z
      · subst e0
        refine ⟨_, hv0, .inl ⟨rfl, us0, SqL.of hu0⟩, ?_⟩
        refine i2 e Ex hl env T F σ H _ _ hh ht fun u H2 F2 env2 y hh2 q2 => ?_
        cases y with
        | ext d =>
          cases d with
          | int n =>
            have eu : u = .int n := hh2.temps (u, .ext (.int n)) List.mem_cons_self
            show rPopAt (.ref c) [u] H2 R
            refine hh2.pop.mut q2 (fun ds us hu rr q R' hf hk => ?_) hR
            obtain ⟨h0, h1, d, hd, hf⟩ := hf
            obtain ⟨v, hv', rd⟩ := rr.get hd
            have hlt : n.toNat < us.length := (List.getElem?_eq_some_iff.mp hv').1
            refine ⟨c, us, n, n.toNat, v, rfl, by rw [eu], hu, Int.le_trans (by decide) h0, h1, ?_, hv', hk v d _ _ rd (rr.eraseIdx _) hf⟩
            obtain ⟨m, rfl⟩ := Int.eq_ofNat_of_zero_le h0
            exact (ixN_seq (n := us.length) (i := (m : Int)) (j := m) (by
              unfold ixN
              rw [if_pos h0, if_pos (by rw [Int.toNat_natCast] at hlt; omega)]
              rfl)).1
          | _ => exact q2.elim
        | _ => exact q2.elim
    · exact ht.elim⟩
def dPop (i : Nat) : DT := fun Ex env Q => match env[i]? with
  | some (.lst a _) => mutD env i a (fun ds q => ∃ d, ds[ds.length - 1]? = some d ∧ q d ds.dropLast) Q
  | _ => False
def sSetItem (i : Nat) (tI te : DT) : DTS := fun Ex E env => te Ex env fun y env0 => frzD env0 y fun d env1 => match env1[i]? with
  | some (.lst a _) => tI Ex env1 fun z env2 => match z with
    | .ext (.int n) => match env2[i]? with
      | some (.lst b ds) => b = a ∧ ∃ j, ixN ds.length n = some j ∧ E.nx (env2.set i (.lst a (ds.set j d)))
      | _ => False
    | _ => False
  | _ => False
theorem ds_setitem {spos : Pos} (i : Nat) (hb : DE G N sc k b tb) (ha : DE G N sc k a ta) (hv : VisV N sc i x := by exact ⟨rfl, by first | exact Or.inl rfl | exact Or.inr (Or.inl rfl) | exact Or.inr (Or.inr rfl), by decide, by decide⟩)
    (hs : ∀ env, swapsWithSole [.Subscript (.Name x py) b spos] a pos.line env = pure false := by intro _; rfl) (hw : ∀ env, swappedStores [.Subscript (.Name x py) b spos] a env = pure none := by intro _; rfl)
    (h1 : ∀ env, (assignEach [.Subscript (.Name x py) b spos] env).map (·.2) = [assign (.Subscript (.Name x py) b spos) env] := by intro _; rfl)
    (h2 : ∀ env v, assign (.Subscript (.Name x py) b spos) env v = (do
      let ov ← holding [v] (eval (.Name x py) env)
      let iv ← holding [v, ov] (eval b env)
      standAt spos
      holding [v, ov, iv] (setItem ov iv v)
      release [v, ov, iv] []) := by intro _ _; rfl) :
    DS G N sc k (.Assign [.Subscript (.Name x py) b spos] a pos) (sSetItem i tb ta) := ⟨fun W => by
  obtain ⟨te, p1, i1⟩ := ha.ex W
  obtain ⟨tf, p2, i2⟩ := hb.ex W
  refine ⟨tAsg te (gSub (tVar i) tf rSetL), fun X S => ?_, fun e Ex hl env F σ H E Dn hh ht ok => ?_⟩
  · exact ps_asg (p1 X S) (pg_sub (pe_var (by rw [S.nms]; exact hv.1) (S.vis hv.2.1) hv.2.2.1 hv.2.2.2) (p2 X S) set_list (h2 _)) (hs _) (hw _) (h1 _)
  · refine i1 e Ex hl env [] F σ H _ _ hh ht fun v H1 F1 env0 y hh1 q1 => ?_
    obtain ⟨d, F2, env1, _, hh2, rd, q2⟩ := hh1.frz1 q1
    split at q2
    · rename_i c ds0 hc
      rcases hh2.slots i _ hc with z | ⟨v0, hv0, e0, _⟩
      · cases z
      · subst e0
        refine ⟨_, hv0, ?_⟩
        refine i2 e Ex hl env1 [(v, .ext d)] F2 σ H1 _ _ (hh2.pushE rd) q2 fun u H3 F3 env3 z hh3 q3 => ?_
        have rd3 : Rep G.K F3 d v := hh3.temps (v, .ext d) (List.mem_cons_of_mem _ List.mem_cons_self)
        cases z with
        | ext dz =>
          cases dz with
          | int n =>
            have eu : u = .int n := hh3.temps (u, .ext (.int n)) List.mem_cons_self
            have q3' : (match env3[i]? with | some (.lst b ds) => b = c ∧ ∃ j, ixN ds.length n = some j ∧ E.nx (env3.set i (.lst c (ds.set j d))) | _ => False) := q3
            split at q3'
            · rename_i c' ds hc'
              obtain ⟨rfl, j, hj, q4⟩ := q3'
              rcases hh3.slots i _ hc' with z | ⟨_, _, _, _, us, hu, rr⟩
              · cases z
              · exact ⟨c', us, n, j, rfl, eu, hu, by rw [← rr.length]; exact hj, ok.nx _ F3 σ _ (hh3.bare.write hc' (rr.set j rd3)) q4⟩
            · exact q3'.elim
          | _ => exact q3.elim
        | _ => exact q3.elim
    · exact q2.elim⟩
end
def rSetT (K : PySem.W.Frag) (w : World) : List V → Hp → VK → Prop := fun xs H Q => ∃ (a : Addr) (ns : List Int), xs = [.ref a] ∧ SqT K H a (ns.map V.int) ∧ ns.length + 1 < scanBound ∧ ∀ (p : Addr) (c : Nat), H p = none → c ≤ ns.length → Q (.ref p) (upd H p (SetO w p (fun j => decide (j ∈ ns)) c))
theorem cr_setT {X : Cx} (hc : X.calm = true) : CallR X (.type "set") (rSetT X.K X.w) := by
  intro pins s σ H xs us Q I r h
  obtain ⟨a, ns, rfl, hq, hb, q⟩ := h
  rw [Vals.ref1 r]
  obtain ⟨its, r', pl, _⟩ := I.tuple hq
  refine call_set_tupI ns (I.ok.hd hc) (show s.heap.IsTuple a its.toArray from pl) (by rw [List.toList_toArray]; exact intsAre_of r') hb fun h' tk c R hc' hk => ?_
  have hn : H s.heap.objs.size = none := I.hok.fresh (Nat.le_refl _)
  exact ⟨.ref s.heap.objs.size, _, I.laid (t' := tk) hk (Nat.le_refl _) (setO_new R), rfl, q _ c hn hc'⟩
section
variable {G : GG} {N : List Str} {sc : SC} {k : Nat} {a : Expr} {ta : DT} {p p2 pos pos2 : Pos}
def dSortSet (t : DT) : DT := fun Ex env Q => t Ex env fun x env1 => wd env1 x fun d => match d with
  | .tup ds => ∃ ns : List Int, ds = ns.map D.int ∧ ns.length < 64 ∧ ∀ (ns' : List Int) (b : Addr), ns'.Pairwise (· < ·) → (∀ n : Int, n ∈ ns' ↔ n ∈ ns) → Q (.lst b (ns'.map D.int)) env1
  | _ => False
theorem de_sortset (ha : DE G N sc k a ta) (hm : G.mg "sorted" = none) (hm2 : G.mg "set" = none) (hg : GlS sc "sorted" := by rfl) (hg2 : GlS sc "set" := by rfl) (n1 : NoStar a [] := by intro _; rfl) (n2 : NoStar (.Call (.Name "set" p2) [a] [] pos2) [] := by intro _; rfl) (hp1 : ∀ env, (backTo pos (starEach [] env)).any (·.1) = false := by intro _; rfl) (hp2 : ∀ env, (backTo pos2 (starEach [] env)).any (·.1) = false := by intro _; rfl) :
    DE G N sc k (.Call (.Name "sorted" p) [.Call (.Name "set" p2) [a] [] pos2] [] pos) (dSortSet ta) := ⟨fun W => by
  obtain ⟨te, p1, i1⟩ := ha.ex W
  refine ⟨tCB (rSortedSet G.w) (tCons (tCB (rSetT G.K G.w) (tCons te tNil)) tNil), fun X S => ?_, fun e Ex hl env T F σ H Q R hh ht hR => ?_⟩
  · have c1 := cr_sortedSet (X := X) S.calm
    have c2 := cr_setT (X := X) S.calm
    rw [S.w] at c1
    rw [S.w, S.K] at c2
    exact pe_callB c1 (S.gl hg) (by rw [S.mg]; exact hm) (by decide +kernel) (pa_cons (pe_callTy c2 (S.gl hg2) (by rw [S.mg]; exact hm2) (by decide +kernel) (pa_cons (p1 X S) pa_nil (n1 _)) (by decide) (by decide) (n1 _) (hp2 _)) pa_nil (n2 _)) (by decide) (by decide) (n2 _) (hp1 _)
  · refine i1 e Ex hl env T F σ H _ _ hh ht fun v H1 F1 env1 x hh1 q1 => ?_
    obtain ⟨d, rd, q2⟩ := hh1.wd (v := v) (sl := x) List.mem_cons_self q1
    cases d with
    | tup ds =>
      obtain ⟨ns, rfl, hl64, q⟩ := q2
      obtain ⟨c, vs, rfl, e1, _, r1⟩ := rd.tup hh1.fh
      have z := r1.ints
      subst z
      refine ⟨c, ns, rfl, e1, Nat.lt_of_lt_of_le (Nat.add_lt_add_right hl64 1) (by decide), fun p' cn hn hc => ?_⟩
      refine ⟨p', _, cn, rfl, upd_same, Nat.lt_of_le_of_lt hc hl64, fun ns' p'' h1 h2 h3 hn2 => ?_⟩
      have aft := (hh1.pop.done hR).more (o := SetO G.w p' (fun j => decide (j ∈ ns)) cn) hh1.fh hn
      refine aft.lst (Grow.loose hh1.fh hn).fh hn2 (Reps.of_ints ns') (q ns' p'' h1 fun n => ?_)
      rw [h2 n]
      exact decide_eq_true_iff
    | _ => exact q2.elim⟩
end
end HD
namespace HD
open PySem PyProof.Rows L2
abbrev Tab := List (Str × Int)
def tabV (t : Tab) : List (Key × V) := t.map fun p => (Sum.inr p.1, V.int p.2)
theorem merge_fresh : ∀ (more acc : List (Key × V)), (∀ q ∈ more, ∀ p ∈ acc, p.1 ≠ q.1) → (more.map (·.1)).Nodup → mergeK acc more = acc ++ more
  | [], acc, _, _ => by
    show acc = acc ++ []
    rw [List.append_nil]
  | q :: more, acc, h, nd => by
    have e : putK acc q.1 q.2 = acc ++ [q] := by
      unfold putK
      rw [if_neg]
      intro z
      obtain ⟨p, hp, hq⟩ := List.any_eq_true.mp z
      exact h q List.mem_cons_self p hp (of_decide_eq_true hq)
    show mergeK (putK acc q.1 q.2) more = acc ++ q :: more
    rw [List.map_cons, List.nodup_cons] at nd
    rw [e, merge_fresh more (acc ++ [q]) (fun r hr p hp => ?_) nd.2, List.append_assoc]
    · rfl
    · rcases List.mem_append.mp hp with hp | hp
      · exact h r (List.mem_cons_of_mem _ hr) p hp
      · rw [List.mem_singleton.mp hp]
        intro z
        exact nd.1 (by rw [z]; exact List.mem_map_of_mem hr)
theorem tab_val : ∀ (t : Tab) (w : Str) (n : Int), t.lookup w = some n → valV (tabV t) (Sum.inr w) = some (.int n)
  | [], _, _, h => by cases h
  | (k, m) :: t, w, n, h => by
    unfold valV tabV
    rw [List.map_cons, List.find?_cons]
    rw [List.lookup_cons] at h
    by_cases e : w = k
    · subst e
      simp only [beq_self_eq_true] at h
      rw [decide_eq_true rfl]
      cases h
      rfl
    · have e1 : (w == k) = false := beq_eq_false_iff_ne.mpr e
      rw [e1] at h
      have e2 : decide ((Sum.inr k : Key) = Sum.inr w) = false := decide_eq_false fun z => e (Sum.inr.inj z).symm
      show Option.map _ (match decide ((Sum.inr k : Key) = Sum.inr w) with | true => some _ | false => _) = _
      rw [e2]
      exact tab_val t w n h
def dTable (tab : Tab) (i : Nat) : DT := fun _ env Q => match env[i]? with
  | some (.ext (.str w)) => ∃ n, tab.lookup w = some n ∧ Q (.ext (.int n)) env
  | _ => False
section
variable {G : GG} {N : List Str} {sc : SC} {k : Nat} {x : Str} {px pos dpos : Pos} {keys : List (Option Expr)} {values : List Expr} {trs : List (TE × TE)}
theorem de_table (tab : Tab) (i : Nat) (hp : ∀ X : Cx, PPs X dpos keys values trs) (hc : ∀ (σ : L2.St) (H : Hp) (Q : List (V × V) → Hp → Prop), Q (tab.map fun p => (V.str p.1, V.int p.2)) H → tPairs trs σ H Q)
    (hnd : (tab.map (·.1)).Nodup) (h15 : tab.length ≤ 15) (hall : keys.all (·.isSome) = true := by rfl) (hl : keys.length = values.length := by rfl) (h0 : keys ≠ [] := by intro z; cases z) (hk15 : keys.length ≤ 15 := by decide)
    (hv : VisV N sc i x := by exact ⟨rfl, by first | exact Or.inl rfl | exact Or.inr (Or.inl rfl) | exact Or.inr (Or.inr rfl), by decide, by decide⟩) (hs : NoSl (.Name x px) := by intro _ _; rfl) :
    DE G N sc k (.Subscript (.Dict keys values dpos) (.Name x px) pos) (dTable tab i) := ⟨fun W => by
  refine ⟨tDGet (tDisp trs) (tVar i), fun X S => ?_, fun e Ex hl env T F σ H Q R hh ht hR => ?_⟩
  · exact pe_dget (Nat.lt_of_le_of_lt (Nat.add_le_add_left (by decide : 1 ≤ 64) _) S.units) (pe_disp (hp X) hall hl h0 hk15) (pe_var (by rw [S.nms]; exact hv.1) (S.vis hv.2.1) hv.2.2.1 hv.2.2.2) hs
  · unfold dTable at ht
    split at ht
    · rename_i w hw
      obtain ⟨n, hn, q⟩ := ht
      rcases hh.slots i _ hw with z | ⟨v, hv', ok⟩
      · cases z
      · have ev : v = .str w := ok
        subst ev
        intro p hp'
        refine hc _ _ _ ⟨upd_same, tabV tab, ?_, by unfold tabV; rw [List.length_map]; exact h15, ?_⟩
        · unfold tabV
          rw [List.map_map]
          rfl
        · refine ⟨.str w, hv', p, .int n, rfl, ?_, ?_⟩
          · have nd : ((tabV tab).map (·.1)).Nodup := by
              unfold tabV
              rw [List.map_map]
              have z : (fun p : Str × Int => (Sum.inr p.1 : Key)) = (Sum.inr ∘ fun p : Str × Int => p.1) := rfl
              show (tab.map fun p => (Sum.inr p.1 : Key)).Nodup
              rw [z, ← List.map_map]
              exact List.Pairwise.map _ (fun a b h => fun e => h (Sum.inr.inj e)) hnd
            have z : valV (mergeK [] (tabV tab)) (Sum.inr w : Key) = some (.int n) := by
              rw [merge_fresh (tabV tab) [] (fun q _ p hp => nomatch hp) nd, List.nil_append]
              exact tab_val tab w n hn
            have g : DGet (upd (upd H p (.dK [])) p (.dK (mergeK [] (tabV tab)))) p (kV (Sum.inr w)) (valV (mergeK [] (tabV tab)) (Sum.inr w)) := DGet.k upd_same
            rw [z] at g
            exact g
          · rw [upd_upd]
            have aft := (hh.done hR).more (o := .dK (mergeK [] (tabV tab))) hh.fh hp'
            exact aft.int (Grow.loose hh.fh hp').fh q
    · exact ht.elim⟩
end
structure Blt (G : GG) : Prop where
  len : G.mg "len" = none
  range : G.mg "range" = none
  sorted : G.mg "sorted" = none
  set : G.mg "set" = none
  tuple : G.mg "tuple" = none
  list : G.mg "list" = none
  dict : G.mg "dict" = none
  zip : G.mg "zip" = none
  enumerate : G.mg "enumerate" = none
  all : G.mg "all" = none
  any : G.mg "any" = none
  sum : G.mg "sum" = none
  min : G.mg "min" = none
  max : G.mg "max" = none
  isinstance : G.mg "isinstance" = none
  str : G.mg "str" = none
  int : G.mg "int" = none
  repr : G.mg "repr" = none
  bool : G.mg "bool" = none
def lawSpec (n : Nat) : DSpec := fun args Q _ => ∃ ns : List Int, args = [.ext (.fz (ns.map D.int))] ∧ ns.length ≤ n ∧ ∀ fin, Q (.ext (.bl true)) fin
theorem law_sp {K : PySem.W.Frag} {n : Nat} {H : Hp} {a : Addr} {ns : List Int} (hl : ns.length ≤ n) (hS : SqL K H a (ns.map V.int)) : toSp K 1 (lawSpec n) [.ref a] H (fun v _ => v = .bl true) fun _ _ _ => False := by
  have r : Reps K H [.fz (ns.map D.int)] [.ref a] := ⟨_, _, rfl, ⟨a, _, rfl, hS, Reps.of_ints ns⟩, rfl⟩
  refine ⟨H, [.ext (.fz (ns.map D.int))], fun r _ => r = .ext (.bl true), fun _ _ => False, rfl, argsE (Same.refl _) r, ⟨ns, rfl, hl, fun _ => rfl⟩, fun v H' F' r fin hf hq => ?_, fun _ _ _ _ _ z => z⟩
  subst hq
  exact hf.temps (v, .ext (.bl true)) List.mem_cons_self
theorem cx_no {P : Program} {w : World} (H : Hp) (s : Shared) (e : Value) (s' : Shared) (h : L2.CX P w [] H s (fun _ _ _ => False) e s') : False := by
  obtain ⟨_, _, _, _, _, _, _, _, _, _, _, _, z⟩ := h
  exact z
end HD
namespace HD
open PySem PyProof.Rows L2
def iSeq (K : PySem.W.Frag) (tl : TE) : TI := fun σ H R => tl σ H fun x H1 => ∃ a, x = .ref a ∧ (((∃ xs, SqL K H1 a xs) ∧ R (Itl K a) H1) ∨ ((∃ xs, SqT K H1 a xs) ∧ R (Itt K a) H1))
theorem pi_seq {X : Cx} {tg l : Expr} {tl : TE} (hl : PE X l tl) : PI X tg l (iSeq X.K tl) := by
  refine ⟨fun pins s σ H R I h => ?_⟩
  refine thn (hl.run pins s σ H _ I h) fun v s1 ⟨x, H1, I1, r1, q1⟩ => ?_
  obtain ⟨a, ex, q1⟩ := q1
  subst ex
  cases r1
  have fp : ∀ b ∈ [s1.heap.objs.size], FpOk X pins H1 b := fun b hb => by
    have eb : b = s1.heap.objs.size := by simpa using hb
    subst eb
    exact I1.fpOk (Nat.le_refl _) (I1.hok.fresh (Nat.le_refl _))
  rcases q1 with ⟨⟨xs, hq⟩, q⟩ | ⟨⟨xs, hq⟩, q⟩
  · obtain ⟨its, rv, p, hz⟩ := I1.list hq
    refine wpAny_pyIter_list p.isList ?_
    exact ⟨s1.heap.objs.size, [s1.heap.objs.size], _, _, H1, rfl, I1.kept (t' := s1.toks) fun b o e => Heap.get?_push_of_some _ e, turn_list a _, ⟨_, Heap.get?_push_size _ rfl, rfl, rfl⟩, fp, q⟩
  · obtain ⟨its, rv, p, hz⟩ := I1.tuple hq
    refine wpAny_pyIter_tuple (show s1.heap.IsTuple a its.toArray from p) ?_
    exact ⟨s1.heap.objs.size, [s1.heap.objs.size], _, _, H1, rfl, I1.kept (t' := s1.toks) fun b o e => Heap.get?_push_of_some _ e, turn_tuple a _, ⟨_, Heap.get?_push_size _ rfl, rfl, rfl⟩, fp, q⟩
def dSeq (t : DT) : DTI := fun Ex env Q => t Ex env fun x env1 => seqD env1 x fun ds keep => Q ds keep env1
theorem src_stands {K : PySem.W.Frag} {b : Bool} {a : Addr} {ds : List D} {k : Env' → Prop} {F0 : Hp} (h : Stands K b a ds k F0) : Src K (if b = true then Itt K a else Itl K a) ds k F0 := fun e env T F σ H i hh sm kk => by
  obtain ⟨vs, s1, r⟩ := h e env T F σ H hh sm kk
  cases b with
  | true =>
    refine ⟨fun hi => ⟨vs, s1, by rw [← r.length]; exact Nat.le_of_eq hi⟩, fun d hd => ?_⟩
    obtain ⟨v, hv, rd⟩ := r.get hd
    refine ⟨⟨vs, v, s1, hv⟩, fun x H2 hy => ?_⟩
    obtain ⟨rfl, hx⟩ := hy
    have e1 := hx _ s1
    rw [hv] at e1
    cases e1
    exact ⟨F, Grow.refl hh.fh, rd⟩
  | false =>
    refine ⟨fun hi => ⟨vs, s1, by rw [← r.length]; exact Nat.le_of_eq hi⟩, fun d hd => ?_⟩
    obtain ⟨v, hv, rd⟩ := r.get hd
    refine ⟨⟨vs, v, s1, hv⟩, fun x H2 hy => ?_⟩
    obtain ⟨rfl, hx⟩ := hy
    have e1 := hx _ s1
    rw [hv] at e1
    cases e1
    exact ⟨F, Grow.refl hh.fh, rd⟩
section
variable {G : GG} {N : List Str} {sc : SC} {k : Nat} {a : Expr} {ta : DT}
theorem di_seq {tg : Expr} (h : DE G N sc k a ta) : DI G N sc k tg a (dSeq ta) := ⟨fun W => by
  obtain ⟨te, p1, i1⟩ := h.ex W
  refine ⟨iSeq G.K te, fun X S => by rw [← S.K]; exact pi_seq (p1 X S), fun e Ex hl env T F σ H Q R hh ht hR => ?_⟩
  refine i1 e Ex hl env T F σ H _ _ hh ht fun v H1 F1 env1 x hh1 q1 => ?_
  obtain ⟨b, c, ds, kp, F2, rfl, q2, _, hh2, st, kk⟩ := hh1.seqD q1
  have src := src_stands st
  obtain ⟨vs, s1, _⟩ := st e env1 T F2 σ H1 hh2 (Same.refl _) kk
  cases b with
  | true => exact ⟨c, rfl, .inr ⟨⟨vs, s1⟩, hR _ H1 F2 env1 ds kp hh2 src q2⟩⟩
  | false => exact ⟨c, rfl, .inl ⟨⟨vs, s1⟩, hR _ H1 F2 env1 ds kp hh2 src q2⟩⟩⟩
end
end HD
namespace HD
open PySem L2
theorem eqv_refl {d : D} (h : d.cmp) : d.eqv d = true := PySem.SeqAt.eqv_refl d.py (PySem.SeqAt.canLay_of_shaped h.2)
def Meets (t : DTS) (n m : Nat) (sp : DSpec) : Prop := ∀ args Qd Xd, sp args Qd Xd → t (exOf args Xd) (endsOf args Qd) (args ++ List.replicate m .un)
theorem finals1 (x : Sl) (env : Env') : finals [x] env = [fin1 x env[0]?] := rfl
theorem finals2 (x y : Sl) (env : Env') : finals [x, y] env = [fin1 x env[0]?, fin1 y env[1]?] := rfl
theorem finals3 (x y z : Sl) (env : Env') : finals [x, y, z] env = [fin1 x env[0]?, fin1 y env[1]?, fin1 z env[2]?] := rfl
theorem finals4 (x y z u : Sl) (env : Env') : finals [x, y, z, u] env = [fin1 x env[0]?, fin1 y env[1]?, fin1 z env[2]?, fin1 u env[3]?] := rfl
theorem finals5 (x y z u v : Sl) (env : Env') : finals [x, y, z, u, v] env = [fin1 x env[0]?, fin1 y env[1]?, fin1 z env[2]?, fin1 u env[3]?, fin1 v env[4]?] := rfl
theorem finals6 (x y z u v w : Sl) (env : Env') : finals [x, y, z, u, v, w] env = [fin1 x env[0]?, fin1 y env[1]?, fin1 z env[2]?, fin1 u env[3]?, fin1 v env[4]?, fin1 w env[5]?] := rfl
theorem fin1_ext (d : D) (o : Option Sl) : fin1 (.ext d) o = .ext d := rfl
theorem fin1_lst (a : Addr) (ds es : List D) : fin1 (.lst a ds) (some (.lst a es)) = .lst a es := if_pos rfl
theorem fEq_ii (i j : Int) (Q : Sl → Prop) : fEq (.int i) (.int j) Q = Q (.ext (.bl (i == j))) := rfl
theorem fEq_ss (i j : Str) (Q : Sl → Prop) : fEq (.str i) (.str j) Q = Q (.ext (.bl (i == j))) := rfl
theorem fEq_bb (i j : Bool) (Q : Sl → Prop) : fEq (.bl i) (.bl j) Q = Q (.ext (.bl (i == j))) := rfl
theorem fEq_tt (i j : List D) (Q : Sl → Prop) : fEq (.tup i) (.tup j) Q = (D.cmp (.tup i) ∧ D.cmp (.tup j) ∧ Q (.ext (.bl (D.eqv (.tup i) (.tup j))))) := rfl
theorem fEq_ll (i j : List D) (Q : Sl → Prop) : fEq (.lst i) (.lst j) Q = (D.cmp (.lst i) ∧ D.cmp (.lst j) ∧ Q (.ext (.bl (D.eqv (.lst i) (.lst j))))) := rfl
theorem fNe_ii (i j : Int) (Q : Sl → Prop) : fNe (.int i) (.int j) Q = Q (.ext (.bl (!(i == j)))) := rfl
theorem fNe_ss (i j : Str) (Q : Sl → Prop) : fNe (.str i) (.str j) Q = Q (.ext (.bl (!(i == j)))) := rfl
theorem fNe_bb (i j : Bool) (Q : Sl → Prop) : fNe (.bl i) (.bl j) Q = Q (.ext (.bl (!(i == j)))) := rfl
theorem fNe_tt (i j : List D) (Q : Sl → Prop) : fNe (.tup i) (.tup j) Q = (D.cmp (.tup i) ∧ D.cmp (.tup j) ∧ Q (.ext (.bl (!D.eqv (.tup i) (.tup j))))) := rfl
theorem fNe_ll (i j : List D) (Q : Sl → Prop) : fNe (.lst i) (.lst j) Q = (D.cmp (.lst i) ∧ D.cmp (.lst j) ∧ Q (.ext (.bl (!D.eqv (.lst i) (.lst j))))) := rfl
inductive Tok {α : Type _} (Q : α) : Type where
  | mk
def CallS (spec : DSpec) (args : List Sl) (Q : Sl → List Sl → Prop) (X : Str → List Sl → Prop) (_ : Tok Q) (_ : Tok X) : Prop := spec args Q X
def GetS (o : Option D) (k : D → Prop) (_ : Tok k) : Prop := ∃ d, o = some d ∧ k d
def AtS (o : Option Sl) (k1 : D → Prop) (k2 : Addr → List D → Prop) (_ : Tok k1) (_ : Tok k2) : Prop := match o with
  | some (.ext d) => k1 d
  | some (.lst a ds) => k2 a ds
  | _ => False
theorem GetS_some (d : D) (k : D → Prop) (t : Tok k) : GetS (some d) k t = k d := propext ⟨fun ⟨_, e, h⟩ => by cases e; exact h, fun h => ⟨d, rfl, h⟩⟩
theorem AtS_ext (d : D) (k1 : D → Prop) (k2 : Addr → List D → Prop) (t : Tok k1) (u : Tok k2) : AtS (some (.ext d)) k1 k2 t u = k1 d := rfl
theorem AtS_lst (a : Addr) (ds : List D) (k1 : D → Prop) (k2 : Addr → List D → Prop) (t : Tok k1) (u : Tok k2) : AtS (some (.lst a ds)) k1 k2 t u = k2 a ds := rfl
abbrev AtL (o : Option Sl) (k2 : Addr → List D → Prop) : Prop := AtS o (fun _ => False) k2 .mk .mk
theorem AtL_eq (o : Option Sl) (k2 : Addr → List D → Prop) : (match o with | some (.lst a ds) => k2 a ds | _ => False) = AtS o (fun _ => False) k2 .mk .mk := by
  unfold AtS
  rcases o with _ | (_ | _ | _ | _ | _) <;> rfl
theorem dCall_w (spec : DSpec) (ta : DTA) (Ex : DX) (env : Env') (Q : Sl → Env' → Prop) : dCall spec ta Ex env Q = ta Ex env fun xs env1 => wds env1 xs fun ds =>
  CallS spec (ds.map .ext) (fun r _ => (anyAl xs = false ∨ r.imm = true) ∧ r.plain ∧ Q r env1) (fun c _ => Ex c env1) .mk .mk := rfl
theorem dCallJ_w (spec : DSpec) (i : Nat) (ta : DTA) (Ex : DX) (env : Env') (Q : Sl → Env' → Prop) : dCallJ spec i ta Ex env Q = AtL env[i]? fun a _ => ta Ex env fun xs env1 => AtL env1[i]? fun b ds => b = a ∧ frozs env1 xs fun es => CallS spec (.lst a ds :: es.map .ext)
        (fun r fin => match fin with | s' :: _ => s'.plain ∧ r.plain ∧ Q r (env1.set i s') | [] => False) (fun c fin => match fin with | s' :: _ => s'.plain ∧ Ex c (env1.set i s') | [] => False) .mk .mk := by
  simp only [AtL, ← AtL_eq] <;> rfl
theorem dVar_w (i : Nat) (Ex : DX) (env : Env') (Q : Sl → Env' → Prop) : dVar i Ex env Q = AtS env[i]? (fun d => Q (.ext d) env) (fun a _ => Q (.al i a) env) .mk .mk := by
  unfold dVar AtS
  rcases env[i]? with _ | (_ | _ | _ | _ | _) <;> rfl
theorem wd_ext (env : Env') (d : D) (k : D → Prop) : wd env (.ext d) k = k d := rfl
theorem wd_lst (env : Env') (a : Addr) (ds : List D) (k : D → Prop) : wd env (.lst a ds) k = k (.lst ds) := rfl
theorem wd_al (env : Env') (i : Nat) (a : Addr) (k : D → Prop) : wd env (.al i a) k = AtL env[i]? fun b ds => b = a ∧ k (.lst ds) := by
  simp only [AtL, ← AtL_eq] <;> rfl
theorem frzD_ext (env : Env') (d : D) (q : D → Env' → Prop) : frzD env (.ext d) q = q d env := rfl
theorem frzD_lst (env : Env') (a : Addr) (ds : List D) (q : D → Env' → Prop) : frzD env (.lst a ds) q = q (.lst ds) env := rfl
theorem frzD_al (env : Env') (i : Nat) (a : Addr) (q : D → Env' → Prop) : frzD env (.al i a) q = AtL env[i]? fun b ds => b = a ∧ q (.lst ds) (env.set i (.ext (.lst ds))) := by
  simp only [AtL, ← AtL_eq, frzD]
  rcases env[i]? with _ | (_ | d | _ | _ | _) <;> try rfl
  cases d <;> rfl
theorem retD_ext (env : Env') (d : D) (q : Sl → Env' → Prop) : retD env (.ext d) q = q (.ext d) env := rfl
theorem retD_lst (env : Env') (a : Addr) (ds : List D) (q : Sl → Env' → Prop) : retD env (.lst a ds) q = q (.lst a ds) env := rfl
theorem retD_al (env : Env') (i : Nat) (a : Addr) (q : Sl → Env' → Prop) : retD env (.al i a) q = AtL env[i]? fun b ds => b = a ∧ q (.lst a ds) (env.set i .un) := by
  simp only [AtL, ← AtL_eq] <;> rfl
theorem seqD_tup (env : Env') (ds : List D) (q : List D → (Env' → Prop) → Prop) : seqD env (.ext (.tup ds)) q = q ds fun _ => True := rfl
theorem seqD_elst (env : Env') (ds : List D) (q : List D → (Env' → Prop) → Prop) : seqD env (.ext (.lst ds)) q = q ds fun _ => True := rfl
theorem seqD_lst (env : Env') (a : Addr) (ds : List D) (q : List D → (Env' → Prop) → Prop) : seqD env (.lst a ds) q = q ds fun _ => True := rfl
theorem seqD_al (env : Env') (i : Nat) (a : Addr) (q : List D → (Env' → Prop) → Prop) : seqD env (.al i a) q = AtL env[i]? fun b ds => b = a ∧ q ds fun env' => env'[i]? = some (.lst a ds) := by
  simp only [AtL, ← AtL_eq] <;> rfl
theorem mutD_w (env : Env') (i : Nat) (a : Addr) (f : DMut) (Q : Sl → Env' → Prop) : mutD env i a f Q = AtL env[i]? fun b ds => b = a ∧ f ds fun d ds' => Q (.ext d) (env.set i (.lst a ds')) := by
  simp only [AtL, ← AtL_eq] <;> rfl
theorem dAppend_w (i : Nat) (t : DT) (Ex : DX) (env : Env') (Q : Sl → Env' → Prop) : dAppend i t Ex env Q = AtL env[i]? fun a _ => t Ex env fun x env1 => frzD env1 x fun d env2 => mutD env2 i a (fun ds q => ds.length < sizeLine ∧ q .non (ds ++ [d])) Q := by
  simp only [AtL, ← AtL_eq] <;> rfl
def extD (env : Env') (i : Nat) (a : Addr) (d : D) (Q : Sl → Env' → Prop) : Prop := match d with
    | .lst es => mutD env i a (fun ds q => ds.length + es.length ≤ sizeLine ∧ q .non (ds ++ es)) Q
    | _ => False
theorem extD_lst (env : Env') (i : Nat) (a : Addr) (es : List D) (Q : Sl → Env' → Prop) : extD env i a (.lst es) Q = mutD env i a (fun ds q => ds.length + es.length ≤ sizeLine ∧ q .non (ds ++ es)) Q := rfl
theorem dExtend_w (i : Nat) (t : DT) (Ex : DX) (env : Env') (Q : Sl → Env' → Prop) : dExtend i t Ex env Q = AtL env[i]? fun a _ => t Ex env fun x env1 => wd env1 x fun d => extD env1 i a d Q := by
  simp only [AtL, ← AtL_eq] <;> rfl
def popD (env : Env') (i : Nat) (a : Addr) (x : Sl) (Q : Sl → Env' → Prop) : Prop := match x with
    | .ext (.int n) => mutD env i a (fun ds q => 0 ≤ n ∧ n < 2 ^ 63 ∧ ∃ d, ds[n.toNat]? = some d ∧ q d (ds.eraseIdx n.toNat)) Q
    | _ => False
theorem popD_int (env : Env') (i : Nat) (a : Addr) (n : Int) (Q : Sl → Env' → Prop) : popD env i a (.ext (.int n)) Q = mutD env i a (fun ds q => 0 ≤ n ∧ n < 2 ^ 63 ∧ GetS ds[n.toNat]? (fun d => q d (ds.eraseIdx n.toNat)) .mk) Q := rfl
theorem dPopAt_w (i : Nat) (t : DT) (Ex : DX) (env : Env') (Q : Sl → Env' → Prop) : dPopAt i t Ex env Q = AtL env[i]? fun a _ => t Ex env fun x env1 => popD env1 i a x Q := by
  simp only [AtL, ← AtL_eq] <;> rfl
theorem dPop_w (i : Nat) (Ex : DX) (env : Env') (Q : Sl → Env' → Prop) : dPop i Ex env Q = AtL env[i]? fun a _ => mutD env i a (fun ds q => GetS ds[ds.length - 1]? (fun d => q d ds.dropLast) .mk) Q := by
  simp only [AtL, ← AtL_eq] <;> rfl
def setD (env2 : Env') (i : Nat) (a : Addr) (d : D) (z : Sl) (q : Env' → Prop) : Prop := match z with
    | .ext (.int n) => AtL env2[i]? fun b ds => b = a ∧ ∃ j, ixN ds.length n = some j ∧ q (env2.set i (.lst a (ds.set j d)))
    | _ => False
def NatS (o : Option Nat) (k : Nat → Prop) (_ : Tok k) : Prop := ∃ j, o = some j ∧ k j
theorem NatS_some (j : Nat) (k : Nat → Prop) (t : Tok k) : NatS (some j) k t = k j := propext ⟨fun ⟨_, e, h⟩ => by cases e; exact h, fun h => ⟨j, rfl, h⟩⟩
theorem setD_int (env2 : Env') (i : Nat) (a : Addr) (d : D) (n : Int) (q : Env' → Prop) : setD env2 i a d (.ext (.int n)) q = AtL env2[i]? fun b ds => b = a ∧ NatS (ixN ds.length n) (fun j => q (env2.set i (.lst a (ds.set j d)))) .mk := rfl
theorem sSetItem_w (i : Nat) (tI te : DT) (Ex : DX) (E : DEnds) (env : Env') : sSetItem i tI te Ex E env = te Ex env fun y env0 => frzD env0 y fun d env1 => AtL env1[i]? fun a _ => tI Ex env1 fun z env2 => setD env2 i a d z E.nx := by
  simp only [AtL, ← AtL_eq, setD, sSetItem] <;> rfl
theorem dTable_w (tab : Tab) (i : Nat) (Ex : DX) (env : Env') (Q : Sl → Env' → Prop) : dTable tab i Ex env Q = AtS env[i]? (fun d => match d with | .str w => ∃ n, tab.lookup w = some n ∧ Q (.ext (.int n)) env | _ => False) (fun _ _ => False) .mk .mk := by
  unfold dTable AtS
  rcases env[i]? with _ | (_ | d | _ | _ | _) <;> try rfl
  cases d <;> rfl
theorem fIx_l (ds : List D) (i : Int) (Q : Sl → Prop) : fIx (.lst ds) (.int i) Q = GetS (atI ds i) (fun d => Q (.ext d)) .mk := rfl
theorem fIx_t (ds : List D) (i : Int) (Q : Sl → Prop) : fIx (.tup ds) (.int i) Q = GetS (atI ds i) (fun d => Q (.ext d)) .mk := rfl
theorem fIx_k (ds : List D) (i : Int) (Q : Sl → Prop) : fIx (.tk ds) (.int i) Q = GetS (atI ds i) (fun d => Q (.ext d)) .mk := rfl
theorem fIx_f (ds : List D) (i : Int) (Q : Sl → Prop) : fIx (.fz ds) (.int i) Q = GetS (atI ds i) (fun d => Q (.ext d)) .mk := rfl
def BoolS (o : Option Bool) (k : Bool → Prop) (_ : Tok k) : Prop := ∃ b, o = some b ∧ k b
theorem BoolS_some (b : Bool) (k : Bool → Prop) (t : Tok k) : BoolS (some b) k t = k b := propext ⟨fun ⟨_, e, h⟩ => by cases e; exact h, fun h => ⟨b, rfl, h⟩⟩
theorem fIsi1 (d : D) (T : String) (Q : Sl → Prop) : fIsi [d, .val (.ty T)] Q = (d.noVal = true ∧ d.isFz = false ∧ BoolS (kitB d.ty T) (fun b => Q (.ext (.bl b))) .mk) := rfl
theorem fIsi2 (d : D) (T U : String) (Q : Sl → Prop) : fIsi [d, .tup [.val (.ty T), .val (.ty U)]] Q = (d.noVal = true ∧ d.isFz = false ∧ BoolS (kitB d.ty T) (fun b => BoolS (kitB d.ty U) (fun c => Q (.ext (.bl (b || c)))) .mk) .mk) := by
  simp only [fIsi, BoolS]
  refine propext ⟨fun ⟨h1, h2, b, c, h3, h4, q⟩ => ⟨h1, h2, b, h3, c, h4, q⟩, fun ⟨h1, h2, b, h3, c, h4, q⟩ => ⟨h1, h2, b, c, h3, h4, q⟩⟩
theorem kb_non_tuple : kitB (D.ty .non) "tuple" = some false := by decide +kernel
theorem kb_non_list : kitB (D.ty .non) "list" = some false := by decide +kernel
theorem kb_non_bool : kitB (D.ty .non) "bool" = some false := by decide +kernel
theorem kb_non_int : kitB (D.ty .non) "int" = some false := by decide +kernel
theorem kb_non_str : kitB (D.ty .non) "str" = some false := by decide +kernel
theorem kb_bl_tuple (b : Bool) : kitB (D.ty (.bl b)) "tuple" = some false := show kitB "bool" "tuple" = some false by decide +kernel
theorem kb_bl_list (b : Bool) : kitB (D.ty (.bl b)) "list" = some false := show kitB "bool" "list" = some false by decide +kernel
theorem kb_bl_bool (b : Bool) : kitB (D.ty (.bl b)) "bool" = some true := show kitB "bool" "bool" = some true by decide +kernel
theorem kb_bl_int (b : Bool) : kitB (D.ty (.bl b)) "int" = some true := show kitB "bool" "int" = some true by decide +kernel
theorem kb_bl_str (b : Bool) : kitB (D.ty (.bl b)) "str" = some false := show kitB "bool" "str" = some false by decide +kernel
theorem kb_int_tuple (i : Int) : kitB (D.ty (.int i)) "tuple" = some false := show kitB "int" "tuple" = some false by decide +kernel
theorem kb_int_list (i : Int) : kitB (D.ty (.int i)) "list" = some false := show kitB "int" "list" = some false by decide +kernel
theorem kb_int_bool (i : Int) : kitB (D.ty (.int i)) "bool" = some false := show kitB "int" "bool" = some false by decide +kernel
theorem kb_int_int (i : Int) : kitB (D.ty (.int i)) "int" = some true := show kitB "int" "int" = some true by decide +kernel
theorem kb_int_str (i : Int) : kitB (D.ty (.int i)) "str" = some false := show kitB "int" "str" = some false by decide +kernel
theorem kb_str_tuple (x : Str) : kitB (D.ty (.str x)) "tuple" = some false := show kitB "str" "tuple" = some false by decide +kernel
theorem kb_str_list (x : Str) : kitB (D.ty (.str x)) "list" = some false := show kitB "str" "list" = some false by decide +kernel
theorem kb_str_bool (x : Str) : kitB (D.ty (.str x)) "bool" = some false := show kitB "str" "bool" = some false by decide +kernel
theorem kb_str_int (x : Str) : kitB (D.ty (.str x)) "int" = some false := show kitB "str" "int" = some false by decide +kernel
theorem kb_str_str (x : Str) : kitB (D.ty (.str x)) "str" = some true := show kitB "str" "str" = some true by decide +kernel
theorem kb_lst_tuple (ds : List D) : kitB (D.ty (.lst ds)) "tuple" = some false := show kitB "list" "tuple" = some false by decide +kernel
theorem kb_lst_list (ds : List D) : kitB (D.ty (.lst ds)) "list" = some true := show kitB "list" "list" = some true by decide +kernel
theorem kb_lst_bool (ds : List D) : kitB (D.ty (.lst ds)) "bool" = some false := show kitB "list" "bool" = some false by decide +kernel
theorem kb_lst_int (ds : List D) : kitB (D.ty (.lst ds)) "int" = some false := show kitB "list" "int" = some false by decide +kernel
theorem kb_lst_str (ds : List D) : kitB (D.ty (.lst ds)) "str" = some false := show kitB "list" "str" = some false by decide +kernel
theorem kb_tup_tuple (ds : List D) : kitB (D.ty (.tup ds)) "tuple" = some true := show kitB "tuple" "tuple" = some true by decide +kernel
theorem kb_tup_list (ds : List D) : kitB (D.ty (.tup ds)) "list" = some false := show kitB "tuple" "list" = some false by decide +kernel
theorem kb_tup_bool (ds : List D) : kitB (D.ty (.tup ds)) "bool" = some false := show kitB "tuple" "bool" = some false by decide +kernel
theorem kb_tup_int (ds : List D) : kitB (D.ty (.tup ds)) "int" = some false := show kitB "tuple" "int" = some false by decide +kernel
theorem kb_tup_str (ds : List D) : kitB (D.ty (.tup ds)) "str" = some false := show kitB "tuple" "str" = some false by decide +kernel
def BlS (z : Sl) (k : Bool → Prop) (_ : Tok k) : Prop := match z with
  | .ext (.bl b) => k b
  | _ => False
theorem BlS_bl (b : Bool) (k : Bool → Prop) (t : Tok k) : BlS (.ext (.bl b)) k t = k b := rfl
theorem bl_match (z : Sl) (p q : Prop) : (match z with
  | .ext (.bl true) => p
  | .ext (.bl false) => q
  | _ => False) = BlS z (fun b => if b = true then p else q) .mk := by
  unfold BlS
  rcases z with _ | (_ | b | _ | _ | _ | _ | _ | _ | _ | _ | _) | _ | _ <;> try rfl
  cases b <;> simp
theorem dChain_w (f f' : D → D → (Sl → Prop) → Prop) (ta tb tc : DT) (Ex : DX) (env : Env') (Q : Sl → Env' → Prop) : dChain f f' ta tb tc Ex env Q = ta Ex env fun x env1 => tb Ex env1 fun y env2 => wd env2 x fun d => wd env2 y fun d' => f d d' fun z =>
  BlS z (fun b => if b = true then (tc Ex env2 fun w env3 => wd env3 y fun d1 => wd env3 w fun d2 => f' d1 d2 fun sl => Q sl env3) else Q (.ext (.bl false)) env2) .mk := by
  simp only [← bl_match] <;> rfl
theorem dAndV_w (ta tb : DT) (Ex : DX) (env : Env') (Q : Sl → Env' → Prop) : dAndV ta tb Ex env Q = ta Ex env fun x env1 => BlS x (fun b => if b = true then tb Ex env1 Q else Q (.ext (.bl false)) env1) .mk := by
  simp only [← bl_match] <;> rfl
theorem dOrV_w (ta tb : DT) (Ex : DX) (env : Env') (Q : Sl → Env' → Prop) : dOrV ta tb Ex env Q = ta Ex env fun x env1 => BlS x (fun b => if b = true then Q (.ext (.bl true)) env1 else tb Ex env1 Q) .mk := by
  have e : ∀ (z : Sl) (p q : Prop), (match z with
    | .ext (.bl false) => q
    | .ext (.bl true) => p
    | _ => False) = BlS z (fun b => if b = true then p else q) .mk := by
    intro z p q
    unfold BlS
    rcases z with _ | (_ | b | _ | _ | _ | _ | _ | _ | _ | _ | _) | _ | _ <;> try rfl
    cases b <;> simp
  simp only [← e] <;> rfl
abbrev iD (l : List Int) : List D := l.map D.int
abbrev nD (l : List Nat) : List D := l.map fun n : Nat => D.int (n : Int)
theorem nD_cons (x : Nat) (l : List Nat) : nD (x :: l) = D.int (x : Int) :: nD l := rfl
theorem iD_cons (x : Int) (l : List Int) : iD (x :: l) = D.int x :: iD l := rfl
theorem nD_app (a b : List Nat) : nD (a ++ b) = nD a ++ nD b := List.map_append
theorem iD_app (a b : List Int) : iD (a ++ b) = iD a ++ iD b := List.map_append
theorem nD_len (a : List Nat) : (nD a).length = a.length := List.length_map _
theorem iD_len (a : List Int) : (iD a).length = a.length := List.length_map _
theorem cmulN {i j : Int} {a b : Nat} (hi : i.natAbs < 2 ^ a) (hj : j.natAbs < 2 ^ b) (h : a + b < 1000000) : CMulW i j := by
  unfold CMulW
  have h1 : i.natAbs.log2 ≤ a := by
    rcases Nat.eq_zero_or_pos i.natAbs with z | z
    · rw [z]; exact Nat.zero_le _
    · exact Nat.le_of_lt ((Nat.log2_lt (by omega)).2 hi)
  have h2 : j.natAbs.log2 ≤ b := by
    rcases Nat.eq_zero_or_pos j.natAbs with z | z
    · rw [z]; exact Nat.zero_le _
    · exact Nat.le_of_lt ((Nat.log2_lt (by omega)).2 hj)
  omega
theorem cmul64 {i j : Int} (h1 : -18446744073709551616 < i) (h2 : i < 18446744073709551616) (h3 : -18446744073709551616 < j) (h4 : j < 18446744073709551616) : CMulW i j :=
  cmulN (a := 64) (b := 64) (by omega) (by omega) (by decide)
theorem atN {α : Type} {xs : List α} {n : Nat} {x : α} (h : xs[n]? = some x) : atI xs (n : Int) = some x := by
  have hl : n < xs.length := (List.getElem?_eq_some_iff.1 h).1
  have e : ixN xs.length (n : Int) = some n := by
    unfold ixN
    rw [if_pos (by omega), if_pos (by omega)]
    simp
  unfold atI
  rw [e]
  exact h
theorem ixN_nat {n i : Nat} (h : i < n) : ixN n (i : Int) = some i := by
  unfold ixN
  rw [if_pos (by omega), if_pos (by omega)]
  simp
theorem atI_int {α : Type} {xs : List α} {i : Int} {x : α} (h0 : 0 ≤ i) (h : xs[i.toNat]? = some x) : atI xs i = some x := by
  have := atN h
  rwa [Int.toNat_of_nonneg h0] at this
theorem atI_0 {α : Type} (x : α) (xs : List α) : atI (x :: xs) 0 = some x := atN (n := 0) rfl
theorem atI_1 {α : Type} (x y : α) (xs : List α) : atI (x :: y :: xs) 1 = some y := atN (n := 1) rfl
theorem atI_2 {α : Type} (x y z : α) (xs : List α) : atI (x :: y :: z :: xs) 2 = some z := atN (n := 2) rfl
theorem atI_3 {α : Type} (x y z u : α) (xs : List α) : atI (x :: y :: z :: u :: xs) 3 = some u := atN (n := 3) rfl
theorem ixN_0 (n : Nat) : ixN (n + 1) 0 = some 0 := ixN_nat (i := 0) (by omega)
theorem ixN_1 (n : Nat) : ixN (n + 1 + 1) 1 = some 1 := ixN_nat (i := 1) (by omega)
theorem ixN_2 (n : Nat) : ixN (n + 1 + 1 + 1) 2 = some 2 := ixN_nat (i := 2) (by omega)
end HD
namespace HD
open PySem PySem.Spec PyProof.Rows L2
section
variable {X : Cx} {pins : List (Addr × Obj)} {σ : L2.St} {H : Hp} {s : Shared}
theorem un_adopt {fs ex : List Addr} {H0 H1 : Hp} {h h1 : Heap} {a : Addr} {o : HO} (u : Un fs ex H0 H1 h h1) (n0 : a ∉ ex → h.get? a = none) (n1 : H1 a = none) : Un fs ex H0 (upd H1 a o) h h1 where
  keep := u.keep
  slot := u.slot
  there := u.there
  free := fun b x q n z => by
    have nb : b ≠ a := fun e => by
      subst e
      rw [n0 z] at q; cases q
    rw [upd_ne nb]; exact u.free b x q n z
  tups := fun b xs q => by
    have q1 := u.tups b xs q
    rw [upd_ne (ne_of_none q1 n1)]; exact q1
  frzs := fun b x y q => by
    have q1 := u.frzs b x y q
    rw [upd_ne (ne_of_none q1 n1)]; exact q1
  tbls := fun b ps q => by
    obtain ⟨m, q1⟩ := u.tbls b ps q
    exact ⟨m, by rw [upd_ne (ne_of_none q1 n1)]; exact q1⟩
theorem inv_adopt {a : Addr} {oe : Obj} (I : Inv X pins σ H s) (ha : s.heap.get? a = some oe) (na : H a = none) (nL : a ≠ X.env.locals) (nc : ∀ v, oe.data ≠ .cell v) (n0 : a ∉ X.ex → X.s_0.heap.get? a = none) (np : ∀ p ∈ X.pn ++ pins, p.1 ≠ a) :
    Inv X pins σ (upd H a (.frz oe (.own a))) s where
  ok := I.ok
  os := I.os
  bare := I.bare
  base := un_adopt I.base n0 na
  loc := I.loc
  cell := I.cell
  free := by rw [upd_ne (Ne.symm nL)]; exact I.free
  freeC := fun x c q => by
    obtain ⟨v, hv⟩ := I.cell x c q
    have : c ≠ a := fun e => by
      rw [e] at hv
      obtain ⟨o, q1, q2⟩ := hv
      rw [ha] at q1
      cases q1
      exact nc _ q2
    rw [upd_ne this]; exact I.freeC x c q
  pin := fun p hp => by
    obtain ⟨h1, h2, h3⟩ := I.pin p hp
    exact ⟨h1, by rw [upd_ne (np p hp)]; exact h2, h3⟩
  hok := I.hok.laidN (fun _ _ q => q) na ⟨ha, oe, ha⟩
  len := I.len
end
def wKeep (K : PySem.W.Frag) (c : Value) (i : Nat) (ts : Addr → Value → Option Addr → TS) (Wout : WX) (D : Ends) : WX := fun cls d σ H =>
  ∃ b, PySem.W.exmOne K cls c = some b ∧
    (b = true → ∀ (a : Addr) (oe : Obj), H a = none → Zc cls d oe → (∃ vs, oe.data = .fields vs) →
      ts a cls d { nx := fun σ' H' => D.nx (σ'.set i none) (upd H' a (.frz oe (.own a))), rt := fun _ _ => False } (σ.set i (some (.ref a))) H) ∧
    (b = false → Wout cls d σ H)
section
variable {X : Cx} {x n : Str} {c : Value} {i : Nat} {body suite : List Stmt} {b0 : Stmt} {np pos pos' : Pos} {tb : WX → TS} {ts : Addr → Value → Option Addr → TS} {Wout : WX}
theorem ps_try_keep (hs : X.stack = X.env :: X.outer) (hf : X.env.frame = some X.env.locals) (hN : X.N.Nodup) (hi : X.N[i]? = some n) (hl : X.env.kindOf n = some .local) (hc : Names X x c) (tk : Takes X Wout)
    (hb : ∀ (W : WX) (pn : List (Addr × Obj)) (xe : Value → Shared → Prop), Takes (X.tr pn xe) W → PassesOwn (model X.prog X.w) X.A X.env xe → PSs (X.tr pn xe) body (tb W))
    (hsu : ∀ (a : Addr) (oe : Obj) (cls : Value) (d : Option Addr) (pn : List (Addr × Obj)), Zc cls d oe → (∃ vs, oe.data = .fields vs) → PSs (X.suite a ((a, oe) :: pn)) (b0 :: suite) (ts a cls d)) :
    PS X (.Try body [.ExceptHandler (some (.Name x np)) (some n) (b0 :: suite) pos'] [] [] pos) (fun D σ H => tb (wKeep X.K c i ts Wout D) D σ H) := by
  refine ⟨fun pins s σ H D I h => wpAny_Try_except ?_⟩
  have ok := I.ok
  have fr : X.A.frames = some (X.env :: X.outer) := ok.frames.trans (by rw [hs])
  refine wpAny_mono ((hb (wKeep X.K c i ts Wout D) (X.pn ++ pins)
    (fun e t1 => wpAny (model X.prog X.w) X.A (noteFrame e X.env) (fun _ t2 => wpAny (model X.prog X.w) X.A (setFlight e none) (fun _ t3 =>
      wpAny (model X.prog X.w) X.A (handleBy e X.env [.ExceptHandler (some (.Name x np)) (some n) (b0 :: suite) pos']) (SP X pins D) X.xe t3) X.xe t2) X.xe t1)
    (fun u t xx => ?_) PassesOwn.looking).run [] s σ H D (I.toTry _) h) (fun f t1 q => ?_) (fun _ _ z => z)
  · obtain ⟨a, B, sI, pins', σ1, H1, cls, d, rfl, J0, nb, up, sky, na, os, ag, b, hb1, yes, no⟩ := xx
    have J : Inv X pins σ1 H1 sI := J0.ofTry ok
    have sky1 : Sky B (X.env :: X.outer) a (Zc cls d) X.env.locals t.heap := hs ▸ sky
    show wpAny (model X.prog X.w) X.A (noteFrame (.ref a) X.env) _ _ _
    refine Sky.land Zc.steady fr hf sky1 fun g fl ug => ?_
    have J3 : Inv X pins σ1 H1 { t with heap := g } := J.landed nb fl.1 (up.trans ug) os ag
    obtain ⟨o3, vs3, e3, z3, d3⟩ := fl.there
    have away : ∀ {k : Heap} {o : Obj} {vs : Array Value}, k.FunFrames B (X.env :: X.outer) → k.get? a = some o → o.data = .fields vs → a ∉ frs (X.env :: X.outer) := fun ff e dd hm => by
      obtain ⟨_, o', e', hnf⟩ := ff.mem hm
      rw [e] at e'
      cases e'
      exact hnf _ dd
    have nfr := away fl.2.2.1 e3 d3
    have Bn : B.get? a = none := fl.2.1
    have nL : a ≠ X.env.locals := fun z => nfr (List.mem_filterMap.mpr ⟨X.env, List.mem_cons_self, by rw [hf, z]⟩)
    have nF : a ∉ X.fs := fun hm => by
      obtain ⟨e, he, q⟩ := List.mem_filterMap.mp hm
      exact nfr (List.mem_filterMap.mpr ⟨e, List.mem_cons_of_mem _ he, q⟩)
    -- nothing stood at a ahead of the raise
    have sIn : sI.heap.get? a = none := by
      cases q : sI.heap.get? a with
      | none => rfl
      | some o =>
        have := nb a o q (by rw [hs]; exact nfr)
        rw [Bn] at this
        cases this
    have S3 := J3.suite e3 d3 na nL nF
    refine wpAny_handleBy_cons (codeAny_handlers_test ?_) (by intro q; cases q)
    have LT : PySem.W.Looks (model X.prog X.w) g (typeOf (.ref a)) cls := fun A Q E s k q => wpAny_typeOf_ref (k _ _ e3) (by rw [z3.1]; exact q)
    have LM := PySem.W.exm_one (M := model X.prog X.w) (J3.kIn) LT hb1
    have test : ∀ {Q : Value → Shared → Prop} {E : Value → Shared → Prop}, Q c { t with heap := g } → wpAny (model X.prog X.w) (X.A.mark (some (.ref a))) (eval (.Name x np) X.env) Q E { t with heap := g } := fun {Q E} q => by
      obtain ⟨hg, hd, hm | ⟨hm, hv, hnn⟩⟩ := hc
      · exact ld_glob (X := X.suite a ((a, o3) :: (X.pn ++ pins))) S3 hg hm q hd
      · exact ld_blt (X := X.suite a ((a, o3) :: (X.pn ++ pins))) S3 hg hm hv q hnn hd
    refine test (LM.here ?_)
    cases b with
    | true =>
      refine codeAny_handlers_suite_as (HandSPX.lands_againZ fl fun g4 fl4 ug4 => ?_)
      have J4 : Inv X pins σ1 H1 { t with heap := g4 } := J.landed nb fl4.1 ((up.trans ug).trans ug4) os ag
      obtain ⟨o4, vs4, e4, z4, d4⟩ := fl4.there
      have S4 := J4.suite e4 d4 na nL nF
      refine store_ok (X := X.suite a ((a, o4) :: (X.pn ++ pins))) (v := .ref a) S4 hN hi (.inl hl) rfl (fun s5 S5 => ?_) (.inr hl)
      refine wpAny_mono ((hsu a o4 cls d (X.pn ++ pins) z4 ⟨_, d4⟩).run [] s5 _ H1 _ S5 (yes rfl a o4 na z4 ⟨_, d4⟩)) (fun f s6 q => ?_) (fun _ _ z => z.elim)
      cases f with
      | next =>
        obtain ⟨σ6, H6, S6, q6⟩ := q
        obtain ⟨p1, p2, p3, p4, p5⟩ := S6.pin (a, o4) (List.mem_append_left _ List.mem_cons_self)
        have J6 : Inv X pins σ6 H6 s6 := S6.unsuite ok
        have n0 : a ∉ X.ex → X.s_0.heap.get? a = none := fun hx => by
          cases q : X.s_0.heap.get? a with
          | none => rfl
          | some o =>
            obtain ⟨o', q'⟩ := J.base.there a o q hx
            rw [sIn] at q'
            cases q'
        have npin : ∀ p ∈ X.pn ++ pins, p.1 ≠ a := fun p hp e => by
          have := (J.pin p hp).1
          rw [e, sIn] at this
          cases this
        exact gone_ok (inv_adopt J6 p1 p2 p3 p5 n0 npin) hN hi hl fun s7 J7 => ⟨_, _, J7, q6⟩
      | brk =>
        obtain ⟨σ6, H6, S6, q6⟩ := q
        exact q6.elim
      | cont =>
        obtain ⟨σ6, H6, S6, q6⟩ := q
        exact q6.elim
      | ret u =>
        obtain ⟨v6, σ6, H6, S6, r6, q6⟩ := q
        exact q6.elim
    | false =>
      show wpAny _ X.A (handleBy (.ref a) X.env []) _ _ _
      refine wpAny_handleBy_nil ?_
      obtain ⟨k1, k2, k3, oe, vs, T, oT, ts', he, hz, hd, h1, hr⟩ := id fl
      unfold PySem.passOn
      refine wpAny_bind (wpAny_field he hd h1 ?_)
      rw [if_neg (show ¬ ((Value.ref T == Value.none) = true) from by simp)]
      have last : wpAny (model X.prog X.w) X.A (setFlight (.ref a) X.env.frame) (fun _ t4 => wpAny (model X.prog X.w) X.A (throw (.ref a) : Sem Flow) (SP X pins D) X.xe t4) X.xe { t with heap := g } := by
        rw [hf]
        refine HandSPX.setFlight_upZ fl fun g4 hh ug4 => wpAny_throw (tk _ _ ?_)
        exact ⟨a, B, sI, pins, σ1, H1, cls, d, rfl, J, nb, (up.trans ug).trans ug4, .inr (.inr (by rw [hs]; exact hh)), na, os, ag, no rfl⟩
      first
        | exact wpAny_bind (wpAny_pure (wpAny_bind last))
        | exact wpAny_bind last
  · cases f with
    | next =>
      obtain ⟨σ1, H1, J1, q1⟩ := q
      exact wpAny_execs_nil ⟨σ1, H1, J1.ofTry ok, q1⟩
    | brk =>
      obtain ⟨σ1, H1, J1, q1⟩ := q
      exact ⟨σ1, H1, J1.ofTry ok, q1⟩
    | cont =>
      obtain ⟨σ1, H1, J1, q1⟩ := q
      exact ⟨σ1, H1, J1.ofTry ok, q1⟩
    | ret u =>
      obtain ⟨v, σ1, H1, J1, r, q1⟩ := q
      exact ⟨v, σ1, H1, J1.ofTry ok, r, q1⟩
end
end HD
namespace HD
open PySem L2
structure XOk (G : GG) (x : Str) : Prop where
  mg : G.mg x = some (clsV G.K x)
  exc : (He.Fa.exc x).ok G.K = true
def sRaise (x : Str) : DTS := fun Ex _ env => Ex x env
section
variable {G : GG} {N : List Str} {sc : SC} {k : Nat}
theorem ds_raise {x m : Str} {j : Nat} {p p2 pos pos' : Pos} (h : XOk G x) (hg : GlS sc x := by rfl) (hdb : (x == ("__debug__" : Str)) = false := by decide) :
    DS G N sc k (.Raise (some (.Call (.Name x p) [.Constant (.str m) j p2] [] pos)) none pos') (sRaise x) := ⟨fun W => by
  obtain ⟨q1, q2, q3, q4⟩ := He.exc_ok h.exc
  refine ⟨fun _ σ H => W (clsV G.K x) none σ H, fun X S => ?_, fun e Ex hl env F σ H E Dn hh ht ok => hl x env F σ H hh ht⟩
  have a1 : PySem.W.excIn X.K (He.ga G.K x) He.veBase "ValueError.__new__" = true := by rw [S.K]; exact q1
  have a2 : PySem.W.keepIn X.K (.ref (He.ga G.K x)) = true := by rw [S.K]; exact q2
  have a3 : Raises X (.ref (He.ga G.K x)) := raises_own (by rw [S.K]; exact q3) (by rw [S.K]; exact q4)
  have a4 : X.mg x = some (.ref (He.ga G.K x)) := by rw [S.mg]; exact h.mg
  have a5 : Gl X x := S.gl hg
  exact ps_raise S.calm S.tk (pmk_own PySem.F.excBase_ValueError a1 a4 a2 a3 a5 hdb)⟩
structure XCat (G : GG) (x : Str) (cs : List Str) : Prop where
  mg : G.mg x = some (clsV G.K x)
  exm : ∀ c ∈ cs, PySem.W.exmOne G.K (clsV G.K c) (clsV G.K x) = some true
def sTryKeep (cs : List Str) (i j : Nat) (t : DTS) : DTS := fun _ E env => t (fun c env1 => c ∈ cs ∧ i < env1.length ∧ E.nx ((env1.set j (.ext (.exc c))).set i .un)) E env
theorem ds_tryKeep {x n m : Str} {cs : List Str} {body : List Stmt} {t : DTS} {np pm pn ap pos pos' : Pos} (i j : Nat) (hx : XCat G x cs) (hb : DSs G N sc k body t) (htop : sc.top = true := by rfl) (hi : N[i]? = some n := by rfl) (hj : N[j]? = some m := by rfl) (hij : i ≠ j := by decide)
    (hg : GlS sc x := by rfl) (hn : sc.sc.names.lookup n = some .local := by rfl) (hm : sc.sc.names.lookup m = some .local := by rfl) (hdb : (x == ("__debug__" : Str)) = false := by decide)
    (hdn : (n == ("__debug__" : Str)) = false := by decide) (hcn : (n == ("__classdict__" : Str)) = false := by decide) (hs : ∀ env, env.scope = sc.sc → swapsWith (.Name n pn) (some (.Name m pm)) ap.line env = pure false := by intro _ _; rfl) :
    DS G N sc k (.Try body [.ExceptHandler (some (.Name x np)) (some n) [.Assign [.Name m pm] (.Name n pn) ap] pos'] [] [] pos) (sTryKeep cs i j t) := ⟨fun W => by
  have tb : ∀ W' : WX, ∃ ts, (∀ X, Sit G N sc W' k X → PSs X body ts) ∧ ImS G.K W' ts t := hb.ex
  let ts : WX → TS := fun W' => Classical.choose (tb W')
  have p1 : ∀ W' X, Sit G N sc W' k X → PSs X body (ts W') := fun W' => (Classical.choose_spec (tb W')).1
  have i1 : ∀ W', ImS G.K W' (ts W') t := fun W' => (Classical.choose_spec (tb W')).2
  let su : Addr → Value → Option Addr → TS := fun _ _ _ => tAsg (tVar i) (gName j)
  refine ⟨fun D σ H => ts (wKeep G.K (clsV G.K x) i su W D) D σ H, fun X S => ?_, fun e Ex hl env F σ H E Dn hh ht ok => ?_⟩
  · have hk : X.env.kindOf n = some .local := by unfold Env.kindOf; rw [S.scp]; exact hn
    have key := ps_try_keep (X := X) (x := x) (n := n) (c := clsV G.K x) (i := i) (body := body) (suite := []) (b0 := .Assign [.Name m pm] (.Name n pn) ap) (np := np) (pos := pos) (pos' := pos') (tb := ts) (ts := su) (Wout := W)
      (S.stk htop).1 (S.stk htop).2 (by rw [S.nms]; exact S.nd) (by rw [S.nms]; exact hi) hk ⟨S.gl hg, hdb, .inl (by rw [S.mg]; exact hx.mg)⟩ S.tk
      (fun W' pn xe tk own => p1 W' _ ⟨S.prog, S.w, S.K, S.mg, S.base, S.nms, S.nd, S.scp, S.calm, S.room, tk, S.fn, own, S.stk, S.gd⟩)
      (fun a oe cls d pn hz hd => pss_one (ps_set (X := X.suite a ((a, oe) :: pn)) (i := j) (by rw [show (X.suite a ((a, oe) :: pn)).N = N from S.nms]; exact S.nd) (by rw [show (X.suite a ((a, oe) :: pn)).N = N from S.nms]; exact hj) (.inl (by show X.env.kindOf m = _; unfold Env.kindOf; rw [S.scp]; exact hm)) (pe_var (by rw [show (X.suite a ((a, oe) :: pn)).N = N from S.nms]; exact hi) (.inl hk) hdn hcn) (hs _ S.scp) (.inr (by show X.env.scope.names.lookup m = _; rw [S.scp]; exact hm))))
    rw [S.K] at key
    exact key
  · refine i1 _ e _ (fun c env1 F1 σ1 H1 h1 q1 => ?_) env F σ H E Dn hh ht ok
    obtain ⟨hc, hil, q⟩ := q1
    refine ⟨true, hx.exm c hc, fun _ a oe na zc hd => ?_, fun z => by cases z⟩
    have g := Grow.frozen (o := .frz oe (.own a)) h1.fh na
    have h2 := h1.grow g
    have rp : Rep G.K (upd F1 a (.frz oe (.own a))) (.exc c) (.ref a) := ⟨a, oe, rfl, upd_same, zc.1, zc.2, hd⟩
    have h3 := ((h2.pushE rp).assign j trivial).wipe1 i
    have e1 : (((σ1.set i (some (V.ref a))).set j (some (V.ref a))).set i none) = (σ1.set j (some (V.ref a))).set i none := by
      rw [List.set_comm _ _ hij, List.set_set]
    refine ⟨.ref a, ?_, ?_⟩
    · rw [List.getElem?_set_self (by rw [← h1.len]; exact hil)]
    · show Dn.nx (((σ1.set i (some (V.ref a))).set j (some (V.ref a))).set i none) _
      rw [e1]
      exact ok.nx _ _ _ _ h3 q⟩
end
end HD
namespace HD
open PySem L2
abbrev FTab := Str → Option (Nat × DSpec)
structure Defs (G : GG) (kf : Nat) (FT : FTab) : Prop where
  all : ∀ nm n spec, FT nm = some (n, spec) → (∃ k', k' ≤ kf ∧ Def G k' nm n spec) ∧ G.mg nm = some (clsV G.K nm)
def dCallV (FT : FTab) (i : Nat) (ta : DTA) : DT := fun Ex env Q => match env[i]? with
  | some (.ext (.glo nm)) => ∃ n spec, FT nm = some (n, spec) ∧ dCall spec ta Ex env Q
  | _ => False
def tCallV (K : PySem.W.Frag) (FT : FTab) (W : WX) (i : Nat) (t : TA) : TE := fun σ H Q => ∃ nm n spec, σ[i]? = some (some (.ref (He.ga K nm))) ∧ FT nm = some (n, spec) ∧ tCallS (toSp K n spec) (WE W) t σ H Q
section
variable {G : GG} {N : List Str} {sc : SC} {k kf : Nat} {x : Str} {FT : FTab} {e : Expr} {es : List Expr} {p pos : Pos}
theorem de_glo {x : Str} {pos : Pos} (hm : G.mg x = some (clsV G.K x)) (hg : GlS sc x := by rfl) (hd : (x == ("__debug__" : Str)) = false := by decide) : DE G N sc k (.Name x pos) (dC (.glo x)) :=
  ⟨fun _ => ⟨tC (.ref (He.ga G.K x)), fun X S => pe_glob (S.gl hg) (by rw [S.mg]; exact hm) rfl hd, im_const fun _ => rfl⟩⟩
theorem de_callV {ta : DTA} (i : Nat) (d : Defs G kf FT) (ha : DAs G N sc k (e :: es) ta) (hk : kf ≤ k := by decide) (hN : N[i]? = some x := by rfl)
    (hv : Vis sc.sc x := by first | exact Or.inl rfl | exact Or.inr (Or.inl rfl) | exact Or.inr (Or.inr rfl)) (hdb : (x == ("__debug__" : Str)) = false := by decide) (hcd : (x == ("__classdict__" : Str)) = false := by decide)
    (he : NoStar e es := by intro _; rfl) (hpl : ∀ env, (backTo pos (starEach es env)).any (·.1) = false := by intro _; rfl) :
    DE G N sc k (.Call (.Name x p) (e :: es) [] pos) (dCallV FT i ta) := ⟨fun W => by
  obtain ⟨te, p1, i1⟩ := ha.ex W
  refine ⟨tCallV G.K FT W i te, fun X S => ?_, fun e Ex hl env T F σ H Q R hh ht hR => ?_⟩
  · refine ⟨fun pins s σ H Q I h => ?_⟩
    obtain ⟨nm, n, spec, hs, hf, ht⟩ := h
    obtain ⟨⟨k', hk', dd⟩, hm⟩ := d.all nm n spec hf
    obtain ⟨f, fd, ps, h1, h2, h3, h4⟩ := dd.ex
    have ef : f = He.ga G.K nm := by
      rw [hm] at h2
      cases h2
      rfl
    subst ef
    rw [← S.prog, ← S.w, ← S.K, ← S.mg, ← S.base] at h1
    rw [← S.K] at h3 h4
    have ev := (pe_var (pos := p) (by rw [S.nms]; exact hN) (S.vis hv) hdb hcd).run pins s σ H (fun v H1 => v = .ref (He.ga G.K nm) ∧ H1 = H) I ⟨_, hs, rfl, rfl⟩
    refine wpAny_Call_Name_kw (thn ev fun u s1 ⟨v, H1, I1, r1, q1⟩ => ?_)
    obtain ⟨rfl, rfl⟩ := q1
    cases r1
    rw [S.K] at h3
    refine PySem.W.callWith_K (h₀ := X.base) I1.ok.mod.kin (by rw [S.K]; exact h3) (thn ((p1 X S).run pos pins s1 σ _ _ I1 ht) fun us s2 ⟨vs, H2, I2, r, q⟩ => ⟨I2.kIn, ?_⟩) (he _) (hpl _)
    rw [S.K] at h1 h4
    have h1' : FnG X.prog X.w X.K X.mg X.base (L2.CX X.prog X.w) k' (He.ga G.K nm) fd ps (toSp G.K n spec) := by rw [S.K]; exact h1
    exact runG (E := WE W) h1' S.gd (S.room.mono (Nat.le_trans hk' hk)) (by rw [S.K]; exact h4) (passAt S.tk σ) I2 r q
  · unfold dCallV at ht
    split at ht
    · rename_i nm hi
      obtain ⟨n, spec, hf, ht⟩ := ht
      rcases hh.slots i _ hi with z | ⟨v, hv, ok⟩
      · cases z
      · have ev : v = .ref (He.ga G.K nm) := ok
        subst ev
        exact ⟨nm, n, spec, hv, hf, im_call i1 (let ⟨_, _, dd⟩ := (d.all nm n spec hf).1; dd.len) e Ex hl env T F σ H Q R hh ht hR⟩
    · exact ht.elim⟩
end
end HD
namespace HD
open PySem L2
def isxB (K : PySem.W.Frag) (x : Str) : Bool :=
  decide (PySem.W.findIn K (clsV K x) "__getattribute__" = some (some (.builtin "BaseException.__getattribute__"))) && (decide (PySem.W.findIn K (clsV K x) "__getattr__" = some none) && (decide (PySem.W.subIn K (clsV K x) (.type "BaseException") = some true) &&
    (PySem.W.hasDictIn K (He.ga K x) && (decide (PySem.W.findIn K (clsV K x) "__class__" = some (some (.builtin "object.__class__"))) && (decide (PySem.W.specialIn K (.builtin "object.__class__") "__get__" = some (some (.builtin "getset_descriptor.__get__"))) &&
      (decide (PySem.W.takesIn K (.builtin "object.__class__") = some true) && decide (PySem.W.mroIn K (He.ga K x) (.type "object") = some true)))))))
theorem isx_kit {K : PySem.W.Frag} {x : Str} {a : Addr} {oe : Obj} (h : isxB K x = true) : PySem.W.KitX K (.ref a) (clsV K x) (fun g => PySem.W.InstAt g a oe (He.ga K x) none) := by
  unfold isxB at h
  simp only [Bool.and_eq_true, decide_eq_true_eq] at h
  obtain ⟨h1, h2, h3, h4, h5, h6, h7, h8⟩ := h
  exact PySem.W.handS_kitx_exc h1 h2 h3 h4 h5 h6 h7 h8
abbrev XTab := Str → D → Option Bool
def D.clsVal (K : PySem.W.Frag) : D → Option Value
  | .glo x => some (clsV K x)
  | .val (.ty T) => some (.type T)
  | _ => none
structure XIs (K : PySem.W.Frag) (tab : XTab) : Prop where
  all : ∀ c d b, tab c d = some b → isxB K c = true ∧ ∃ u, D.clsVal K d = some u ∧ PySem.W.kitOne K (clsV K c) u = some b
def fIsX (tab : XTab) : List D → (Sl → Prop) → Prop
  | [.exc c, d], Q => ∃ b, tab c d = some b ∧ Q (.ext (.bl b))
  | _, _ => False
def rIsX (K : PySem.W.Frag) : List V → Hp → VK → Prop := fun xs H Q => ∃ (a : Addr) (oe : Obj) (x : Str) (v : V) (u : Value) (b : Bool), xs = [.ref a, v] ∧ H a = some (.frz oe (.own a)) ∧ oe.cls = clsV K x ∧ oe.dict = none ∧ (∃ vs, oe.data = .fields vs) ∧
  isxB K x = true ∧ (∀ w, RelV v w → w = u) ∧ PySem.W.kitOne K (clsV K x) u = some b ∧ Q (.bl b) H
theorem call_isX {X : Cx} : CallR X (.builtin "isinstance") (rIsX X.K) := by
  intro pins s σ H xs us Q I r h
  obtain ⟨a, oe, x, v, u, b, rfl, hH, hc, hd, ⟨vs, hf⟩, hx, hv, e, q⟩ := h
  obtain ⟨u1, u2, rfl, r1, r2⟩ := vals2 r
  cases (show u1 = Value.ref a from r1)
  have e2 := hv _ r2
  subst e2
  have ho := (I.hok a _ hH).1
  have ia : PySem.W.InstAt s.heap a oe (He.ga X.K x) none := ⟨ho, hc, by unfold PySem.W.notCls; rw [hf], by rw [hd]; trivial⟩
  exact PySem.W.kia_one (isx_kit hx) I.kIn ia e (by intro z; cases z) fun tk => ⟨.bl b, H, I.tok tk, rfl, q⟩
theorem pr_isX {K : PySem.W.Frag} {tab : XTab} (T : XIs K tab) : Pr K (rIsX K) (fIsX tab) := fun F H vs ds Q R fh h hf ha => by
  rcases ds with _ | ⟨d1, _ | ⟨d, _ | ⟨d3, ds⟩⟩⟩ <;> try exact hf.elim
  · cases d1 <;> exact hf.elim
  · cases d1 <;> try exact hf.elim
    rename_i c
    obtain ⟨b, hb, q⟩ := hf
    obtain ⟨h1, u, h2, h3⟩ := T.all c d b hb
    obtain ⟨v1, r1, rfl, g1, v2, r2, rfl, g2, rfl⟩ := h
    have g1' : Rep K F (.exc c) v1 := by
      rcases g1 with z | ⟨_, _, _, z, _⟩
      · exact z
      · cases z
    obtain ⟨a, oe, rfl, x1, x2, x3, x4⟩ := g1'
    refine ⟨a, oe, c, v2, u, b, rfl, fh _ _ x1, x2, x3, x4, h1, fun w hw => ?_, h3, ha.bl fh q⟩
    rcases g2 with z | ⟨_, _, _, z, _⟩
    · cases d with
      | glo y =>
        have e1 : v2 = .ref (He.ga K y) := z
        subst e1
        have e2 : w = .ref (He.ga K y) := hw
        cases h2
        exact e2
      | val y =>
        have e1 : v2 = y := z
        subst e1
        cases v2 with
        | ty T =>
          cases h2
          exact hw
        | _ => cases h2
      | _ => cases h2
    · subst z
      cases h2
  · cases d1 <;> exact hf.elim
section
variable {G : GG} {N : List Str} {sc : SC} {k : Nat} {e : Expr} {es : List Expr} {t : DTA} {p pos : Pos} {tab : XTab}
theorem de_isX (T : XIs G.K tab) (hm : G.mg "isinstance" = none) (ha : DAs G N sc k (e :: es) t) (hg : GlS sc "isinstance" := by rfl)
    (he : NoStar e es := by intro _; rfl) (hpl : ∀ env, (backTo pos (starEach es env)).any (·.1) = false := by intro _; rfl) : DE G N sc k (.Call (.Name "isinstance" p) (e :: es) [] pos) (dCB (fIsX tab) t) := ⟨fun W => by
  obtain ⟨ta, p1, i1⟩ := ha.ex W
  refine ⟨tCB (rIsX G.K) ta, fun X S => ?_, im_cb (pr_isX T) i1⟩
  have c : CallR X (.builtin "isinstance") (rIsX X.K) := call_isX
  rw [S.K] at c
  exact pe_callB c (S.gl hg) (by rw [S.mg]; exact hm) (by decide +kernel) (p1 X S) (by decide) (by decide) (he _) (hpl _)⟩
end
end HD
namespace HD
open PySem PyProof.Rows L2
section
variable {X : Cx}
def rCntV (K : PySem.W.Frag) : V → List V → Hp → VK → Prop := fun x xs H Q => ∃ (a : Addr) (ys : List V) (y : V), x = V.ref a ∧ xs = [y] ∧ SqL K H a ys ∧ flatV y = true ∧ ys.all flatV = true ∧ Q (.int ((ys.countP fun z => eqV z y : Nat) : Int)) H
theorem mt_countF : MtR X "list.count" (rCntV X.K) := by
  intro pins s σ H x xs v us Q I rx rs h
  obtain ⟨p, ys, y, rfl, rfl, hs, fy, fys, q⟩ := h
  cases rx
  obtain ⟨u, rfl, ru⟩ := vals1 rs
  obtain ⟨its, r, ⟨⟨cls, dd, data, sl⟩, n, ho, hc, hdn, hd⟩, hlen⟩ := I.list hs
  simp only at hc hd
  subst hc hd
  have ec : ∀ {zs : List V} {ws : List Value}, Vals zs ws → zs.all flatV = true → ws.countP (eqU y) = zs.countP fun z => eqV z y := by
    intro zs ws rv
    induction rv with
    | nil => intro _; rfl
    | cons r1 rr ih =>
      intro hf
      rw [List.all_cons, Bool.and_eq_true] at hf
      rw [List.countP_cons, List.countP_cons, ih hf.2, eqU_of r1 hf.1]
  refine call_meets PySem.F.slot_list_count ⟨_, ho, rfl⟩ PySem.F.entry_list_count (PySem.F.args_list_count_2 _ _)
    (SeqAt.list_countAt p its.toArray n dd sl u (eqU y)) ⟨ho, fun w hw => mem_eqAt ru fy r fys w (by simpa using hw), ?_⟩
  refine ⟨.int ((ys.countP fun z => eqV z y : Nat) : Int), H, I.tok _, ⟨s.toks, ?_⟩, q⟩
  show Value.int ((its.toArray.toList.countP (eqU y) : Nat) : Int) s.toks = _
  rw [show its.toArray.toList = its from rfl, ec r fys]
end
def dMeth (T : D → Bool) (f : D → D → (Sl → Prop) → Prop) (to ta : DT) : DT := fun Ex env Q => to Ex env fun x env1 => wd env1 x (fun d => T d = true) ∧ ta Ex env1 fun y env2 => wd env2 x fun d => wd env2 y fun d' => f d d' fun sl => Q sl env2
def TyIs (K : PySem.W.Frag) (tn : String) (T : D → Bool) : Prop := ∀ F H d v, Same F H → RepT K F H d v → T d = true → tyV K tn v H
def D.isLst : D → Bool
  | .lst _ => true
  | _ => false
def D.isStr : D → Bool
  | .str _ => true
  | _ => false
theorem ty_lst {K : PySem.W.Frag} : TyIs K "list" D.isLst := fun F H d v fh r h => by
  cases d with
  | lst ds =>
    obtain ⟨a, vs, rfl, hs, _⟩ := r.lst fh
    exact .inl ⟨rfl, vs, SqL.of hs⟩
  | _ => exact absurd h (by simp [D.isLst])
theorem ty_str {K : PySem.W.Frag} : TyIs K "str" D.isStr := fun F H d v fh r h => by
  cases d with
  | str x => rw [r.str]; rfl
  | _ => exact absurd h (by simp [D.isStr])
section
variable {G : GG} {N : List Str} {sc : SC} {k : Nat} {a b : Expr} {ta tb : DT} {name : Str} {apos cpos : Pos} {tn id : String} {T : D → Bool} {r : PySem.W.Frag → V → List V → Hp → VK → Prop} {f : D → D → (Sl → Prop) → Prop}
theorem de_meth (pa : PlainAttrs tn) (slot : Slot tn name id) (hty : typeOf (.builtin id) = pure (.type "method_descriptor")) (hm : ∀ X : Cx, MtR X id (r X.K)) (hT : ∀ K, TyIs K tn T) (hr : ∀ K, Pr2 K (fun v u H R => r K v [u] H R) f) (ha : DE G N sc k a ta) (hb : DE G N sc k b tb)
    (hw : FewArgs a name b [] cpos := by intro _; exact ⟨rfl, rfl, rfl, rfl⟩) (hline : (apos.endLine == cpos.line) = true := by rfl) : DE G N sc k (.Call (.Attribute a name apos) [b] [] cpos) (dMeth T f ta tb) := ⟨fun W => by
  obtain ⟨te, p1, i1⟩ := ha.ex W
  obtain ⟨tf, p2, i2⟩ := hb.ex W
  refine ⟨tBM G.K tn (r G.K) te (tCons tf tNil), fun X S => ?_, fun e Ex hl env T' F σ H Q R hh ht hR => ?_⟩
  · obtain ⟨hbase, hfew, hs, hplain⟩ := hw X.env
    rw [← S.K]
    exact pe_bm pa slot hty (hm X) (p1 X S) (pa_cons (p2 X S) pa_nil hs) hbase hfew hline hs hplain
  · refine i1 e Ex hl env T' F σ H _ _ hh ht fun v H1 F1 env1 x hh1 q1 => ?_
    obtain ⟨q0, q1⟩ := q1
    obtain ⟨d0, rd0, h0⟩ := hh1.wd (v := v) (sl := x) List.mem_cons_self q0
    refine ⟨hT G.K F1 H1 d0 v hh1.fh rd0 h0, ?_⟩
    refine i2 e Ex hl env1 _ F1 σ H1 _ _ hh1 q1 fun u H2 F2 env2 y hh2 q2 => ?_
    obtain ⟨d, rd, q3⟩ := hh2.wd (v := v) (sl := x) (List.mem_cons_of_mem _ List.mem_cons_self) q2
    obtain ⟨d', rd', q4⟩ := hh2.wd (v := u) (sl := y) List.mem_cons_self q3
    exact hr G.K F2 H2 v u d d' _ R hh2.fh rd rd' q4 (hh2.pop.pop.done hR)⟩
end
def fCount (d d' : D) (Q : Sl → Prop) : Prop := match d with
  | .lst ds => d'.flat = true ∧ ds.all D.flat = true ∧ Q (.ext (.int ((ds.countP fun z => eqV z.toV d'.toV : Nat) : Int)))
  | _ => False
theorem pr_count (K : PySem.W.Frag) : Pr2 K (fun v u H R => rCntV K v [u] H R) fCount := fun F H v u d d' Q R fh r1 r2 h ha => by
  cases d <;> try exact h.elim
  rename_i ds
  obtain ⟨f1, f2, q⟩ := h
  obtain ⟨a, vs, rfl, hs, rr⟩ := r1.lst fh
  obtain ⟨x1, x2⟩ := flat_rep (r2.rep fh) f1
  obtain ⟨e1, e2⟩ := flat_reps rr f2
  refine ⟨a, vs, u, rfl, rfl, SqL.of hs, x2, e2, ?_⟩
  rw [x1, e1, List.countP_map]
  exact ha.int fh q
def fSplit (d d' : D) (Q : Sl → Prop) : Prop := match d, d' with
  | .str a, .str b => (b.length == 0) = false ∧ a.length + 2 ≤ sizeLine ∧ ∀ p, Q (.lst p ((Txt.split a b).map D.str))
  | _, _ => False
theorem Reps.of_strs {K : PySem.W.Frag} {F : Hp} : ∀ (ns : List Str), Reps K F (ns.map D.str) (ns.map V.str)
  | [] => rfl
  | n :: ns => ⟨_, _, rfl, rfl, Reps.of_strs ns⟩
theorem pr_split (K : PySem.W.Frag) : Pr2 K (fun v u H Q => ∃ a b, v = .str a ∧ [u] = [.str b] ∧ (b.length == 0) = false ∧ a.length + 2 ≤ sizeLine ∧ rNewStrs (Txt.split a b) H Q) fSplit := fun F H v u d d' Q R fh r1 r2 h ha => by
  cases d <;> try exact h.elim
  cases d' <;> try exact h.elim
  rename_i a b
  obtain ⟨f1, f2, q⟩ := h
  refine ⟨a, b, r1.str, by rw [r2.str], f1, f2, fun p hp => ?_⟩
  exact ha.lst fh hp (Reps.of_strs _) (q p)
section
variable {G : GG} {N : List Str} {sc : SC} {k : Nat} {a b : Expr} {ta tb : DT} {apos cpos : Pos}
theorem de_count (ha : DE G N sc k a ta) (hb : DE G N sc k b tb) (hw : FewArgs a "count" b [] cpos := by intro _; exact ⟨rfl, rfl, rfl, rfl⟩) (hline : (apos.endLine == cpos.line) = true := by rfl) : DE G N sc k (.Call (.Attribute a "count" apos) [b] [] cpos) (dMeth D.isLst fCount ta tb) :=
  de_meth (r := rCntV) PySem.F.plainAttrs_list PySem.F.slot_list_count PySem.F.type_list_count (fun _ => mt_countF) (fun _ => ty_lst) pr_count ha hb hw hline
theorem de_split (ha : DE G N sc k a ta) (hb : DE G N sc k b tb) (hw : FewArgs a "split" b [] cpos := by intro _; exact ⟨rfl, rfl, rfl, rfl⟩) (hline : (apos.endLine == cpos.line) = true := by rfl) : DE G N sc k (.Call (.Attribute a "split" apos) [b] [] cpos) (dMeth D.isStr fSplit ta tb) :=
  de_meth (r := fun _ => fun x xs H Q => ∃ a b, x = .str a ∧ xs = [.str b] ∧ (b.length == 0) = false ∧ a.length + 2 ≤ sizeLine ∧ rNewStrs (Txt.split a b) H Q) PySem.F.plainAttrs_str PySem.F.slot_str_split PySem.F.type_str_split (fun _ => mt_split) (fun _ => ty_str) pr_split ha hb hw hline
end
def xAll : List Str := ["NoFilling", "NoName", "TooMany", "NoDeeds", "NoOffers", "NoTree", "NoBag", "NoPart", "NoWorths", "NoBack", "NoWeights", "NoNumber", "NoRow", "NoText"]
def xtab (cs : List Str) : XTab := fun c d => if c ∈ cs then (match d with
  | .glo x => if x ∈ xAll then some (decide (x = c)) else none
  | .val (.ty T) => if T = "ValueError" then some true else none
  | _ => none) else none
def xsB (cs : List Str) (K : PySem.W.Frag) : Bool := cs.all fun c => isxB K c && ((xAll.all fun x => decide (PySem.W.kitOne K (clsV K c) (clsV K x) = some (decide (x = c)))) && (decide (PySem.W.kitOne K (clsV K c) (.type "ValueError") = some true) && decide (PySem.W.exmOne K (clsV K c) (clsV K "SumError") = some true)))
theorem xis_of {cs : List Str} {K : PySem.W.Frag} (h : xsB cs K = true) : XIs K (xtab cs) := ⟨fun c d b e => by
  unfold xtab at e
  split at e
  · rename_i hc
    have h := List.all_eq_true.1 h c hc
    simp only [Bool.and_eq_true, decide_eq_true_eq, List.all_eq_true] at h
    obtain ⟨h1, h2, h3, h4⟩ := h
    refine ⟨h1, ?_⟩
    split at e
    · rename_i x
      split at e
      · rename_i hx
        cases e
        exact ⟨_, rfl, h2 x hx⟩
      · cases e
    · rename_i T
      split at e
      · rename_i hT
        cases e
        subst hT
        exact ⟨_, rfl, h3⟩
      · cases e
    · cases e
  · cases e⟩
theorem xcat_of {cs : List Str} {G : GG} (h : xsB cs G.K = true) (hm : G.mg "SumError" = some (clsV G.K "SumError")) : XCat G "SumError" cs := ⟨hm, fun c hc => by
  have h := List.all_eq_true.1 h c hc
  simp only [Bool.and_eq_true, decide_eq_true_eq, List.all_eq_true] at h
  exact h.2.2.2⟩
def hookE (n : Nat) (fa : List He.Fa) (fn : List He.DefD) (ex : PySem.W.Frag → Bool) : PySem.W.Hook where
  α := He.AlD × Bool
  obs := fun s => (He.obsDG n fa fn s.heap.get?, ex (He.frG s.heap.get? (He.asD s.heap.get? n)))
  val := fun _ => (He.valD fn, true)
  says := fun _ h => ∃ K : PySem.W.Frag, K.In h ∧ He.SaysD fa fn K ∧ ex K = true
  of := fun _ _ e => ⟨_, He.frG_in, congrArg (fun z : He.AlD × Bool => z.1) e, congrArg (fun z : He.AlD × Bool => z.2) e⟩
  keeps := fun _ _ _ ⟨K, hK, c⟩ k => ⟨K, PySem.W.Frag.In.keeps hK k, c⟩
def obsE (n : Nat) (fa : List He.Fa) (fn : List He.DefD) (ex : PySem.W.Frag → Bool) (g : Addr → Option Obj) : He.AlD × Bool := (He.obsDG n fa fn g, ex (He.frG g (He.asD g n)))
theorem obsE_eq {n : Nat} {fa : List He.Fa} {fn : List He.DefD} {ex : PySem.W.Frag → Bool} {g : Addr → Option Obj} {s : Shared} (h : ∀ a, g a = s.heap.get? a) : obsE n fa fn ex g = (hookE n fa fn ex).obs s := by
  have e : g = s.heap.get? := funext h
  rw [e] <;> rfl
end HD
namespace LS.K30.E
open PySem L2 HD
def topS (i : Nat) : Stmt := PySem.Challenge.pw_sumorder_k30_names_taken_out.main.body.getD i (.Pass ⟨0, 0, 0, 0⟩)
abbrev s_unit : Stmt := topS 2
abbrev s_join : Stmt := topS 3
abbrev s_gather : Stmt := topS 4
abbrev s_is_whole : Stmt := topS 5
abbrev s_fillings_of : Stmt := topS 6
abbrev s_place_of : Stmt := topS 26
abbrev s_without : Stmt := topS 31
abbrev s_law_jar : Stmt := topS 40
abbrev s_law_prime : Stmt := topS 41
abbrev s_law_join : Stmt := topS 43
abbrev s_law_gather : Stmt := topS 44
abbrev s_law_nothing : Stmt := topS 45
abbrev s_law_fillings : Stmt := topS 46
abbrev s_law_times : Stmt := topS 47
abbrev s_law_look : Stmt := topS 48
abbrev s_law_class : Stmt := topS 57
abbrev s_law_is_order : Stmt := topS 63
abbrev s_are_names : Stmt := topS 24
abbrev s_worth_by : Stmt := topS 28
abbrev s_need_name : Stmt := topS 30
abbrev s_is_order : Stmt := topS 35
abbrev s_law_dip : Stmt := topS 42
abbrev s_law_made : Stmt := topS 59
abbrev s_need_names : Stmt := topS 25
abbrev s_joined : Stmt := topS 29
abbrev s_gathered : Stmt := topS 32
abbrev s_need_order : Stmt := topS 36
abbrev s_law_word : Stmt := topS 49
abbrev s_law_number : Stmt := topS 50
abbrev s_law_sizes : Stmt := topS 51
abbrev s_law_some : Stmt := topS 52
abbrev s_law_due : Stmt := topS 60
abbrev s_law_order : Stmt := topS 61
abbrev s_law_bent : Stmt := topS 62
abbrev s_widened : Stmt := topS 33
abbrev s_all_joined : Stmt := topS 37
abbrev s_law_part : Stmt := topS 53
abbrev s_taken_out : Stmt := topS 38
abbrev s_law_sheet : Stmt := topS 54
abbrev s_law_same : Stmt := topS 55
abbrev s_law_call : Stmt := topS 56
abbrev s_law_refused : Stmt := topS 58
abbrev s_law : Stmt := topS 64
def y_unit : He.DefD := ⟨("unit", none), "unit", "unit", defArgs s_unit, defBody s_unit, defScope s_unit, [], []⟩
def y_join : He.DefD := ⟨("join", none), "join", "join", defArgs s_join, defBody s_join, defScope s_join, [], []⟩
def y_gather : He.DefD := ⟨("gather", none), "gather", "gather", defArgs s_gather, defBody s_gather, defScope s_gather, [], []⟩
def y_is_whole : He.DefD := ⟨("is_whole", none), "is_whole", "is_whole", defArgs s_is_whole, defBody s_is_whole, defScope s_is_whole, [], []⟩
def y_fillings_of : He.DefD := ⟨("fillings_of", none), "fillings_of", "fillings_of", defArgs s_fillings_of, defBody s_fillings_of, defScope s_fillings_of, [], []⟩
def y_place_of : He.DefD := ⟨("place_of", none), "place_of", "place_of", defArgs s_place_of, defBody s_place_of, defScope s_place_of, [], []⟩
def y_without : He.DefD := ⟨("without", none), "without", "without", defArgs s_without, defBody s_without, defScope s_without, [], []⟩
def y_law_jar : He.DefD := ⟨("_law_jar", none), "_law_jar", "_law_jar", defArgs s_law_jar, defBody s_law_jar, defScope s_law_jar, [], []⟩
def y_law_prime : He.DefD := ⟨("_law_prime", none), "_law_prime", "_law_prime", defArgs s_law_prime, defBody s_law_prime, defScope s_law_prime, [], []⟩
def y_law_join : He.DefD := ⟨("_law_join", none), "_law_join", "_law_join", defArgs s_law_join, defBody s_law_join, defScope s_law_join, [], []⟩
def y_law_gather : He.DefD := ⟨("_law_gather", none), "_law_gather", "_law_gather", defArgs s_law_gather, defBody s_law_gather, defScope s_law_gather, [], []⟩
def y_law_nothing : He.DefD := ⟨("_law_nothing", none), "_law_nothing", "_law_nothing", defArgs s_law_nothing, defBody s_law_nothing, defScope s_law_nothing, [], []⟩
def y_law_fillings : He.DefD := ⟨("_law_fillings", none), "_law_fillings", "_law_fillings", defArgs s_law_fillings, defBody s_law_fillings, defScope s_law_fillings, [], []⟩
def y_law_times : He.DefD := ⟨("_law_times", none), "_law_times", "_law_times", defArgs s_law_times, defBody s_law_times, defScope s_law_times, [], []⟩
def y_law_look : He.DefD := ⟨("_law_look", none), "_law_look", "_law_look", defArgs s_law_look, defBody s_law_look, defScope s_law_look, [], []⟩
def y_law_class : He.DefD := ⟨("_law_class", none), "_law_class", "_law_class", defArgs s_law_class, defBody s_law_class, defScope s_law_class, [], []⟩
def y_law_is_order : He.DefD := ⟨("_law_is_order", none), "_law_is_order", "_law_is_order", defArgs s_law_is_order, defBody s_law_is_order, defScope s_law_is_order, [], []⟩
def y_are_names : He.DefD := ⟨("are_names", none), "are_names", "are_names", defArgs s_are_names, defBody s_are_names, defScope s_are_names, [], []⟩
def y_worth_by : He.DefD := ⟨("worth_by", none), "worth_by", "worth_by", defArgs s_worth_by, defBody s_worth_by, defScope s_worth_by, [], []⟩
def y_need_name : He.DefD := ⟨("need_name", none), "need_name", "need_name", defArgs s_need_name, defBody s_need_name, defScope s_need_name, [], []⟩
def y_is_order : He.DefD := ⟨("is_order", none), "is_order", "is_order", defArgs s_is_order, defBody s_is_order, defScope s_is_order, [], []⟩
def y_law_dip : He.DefD := ⟨("_law_dip", none), "_law_dip", "_law_dip", defArgs s_law_dip, defBody s_law_dip, defScope s_law_dip, [], []⟩
def y_law_made : He.DefD := ⟨("_law_made", none), "_law_made", "_law_made", defArgs s_law_made, defBody s_law_made, defScope s_law_made, [], []⟩
def y_need_names : He.DefD := ⟨("need_names", none), "need_names", "need_names", defArgs s_need_names, defBody s_need_names, defScope s_need_names, [], []⟩
def y_joined : He.DefD := ⟨("joined", none), "joined", "joined", defArgs s_joined, defBody s_joined, defScope s_joined, [], []⟩
def y_gathered : He.DefD := ⟨("gathered", none), "gathered", "gathered", defArgs s_gathered, defBody s_gathered, defScope s_gathered, [], []⟩
def y_need_order : He.DefD := ⟨("need_order", none), "need_order", "need_order", defArgs s_need_order, defBody s_need_order, defScope s_need_order, [], []⟩
def y_law_word : He.DefD := ⟨("_law_word", none), "_law_word", "_law_word", defArgs s_law_word, defBody s_law_word, defScope s_law_word, [], []⟩
def y_law_number : He.DefD := ⟨("_law_number", none), "_law_number", "_law_number", defArgs s_law_number, defBody s_law_number, defScope s_law_number, [], []⟩
def y_law_sizes : He.DefD := ⟨("_law_sizes", none), "_law_sizes", "_law_sizes", defArgs s_law_sizes, defBody s_law_sizes, defScope s_law_sizes, [], []⟩
def y_law_some : He.DefD := ⟨("_law_some", none), "_law_some", "_law_some", defArgs s_law_some, defBody s_law_some, defScope s_law_some, [], []⟩
def y_law_due : He.DefD := ⟨("_law_due", none), "_law_due", "_law_due", defArgs s_law_due, defBody s_law_due, defScope s_law_due, [], []⟩
def y_law_order : He.DefD := ⟨("_law_order", none), "_law_order", "_law_order", defArgs s_law_order, defBody s_law_order, defScope s_law_order, [], []⟩
def y_law_bent : He.DefD := ⟨("_law_bent", none), "_law_bent", "_law_bent", defArgs s_law_bent, defBody s_law_bent, defScope s_law_bent, [], []⟩
def y_widened : He.DefD := ⟨("widened", none), "widened", "widened", defArgs s_widened, defBody s_widened, defScope s_widened, [], []⟩
def y_all_joined : He.DefD := ⟨("all_joined", none), "all_joined", "all_joined", defArgs s_all_joined, defBody s_all_joined, defScope s_all_joined, [], []⟩
def y_law_part : He.DefD := ⟨("_law_part", none), "_law_part", "_law_part", defArgs s_law_part, defBody s_law_part, defScope s_law_part, [], []⟩
def y_taken_out : He.DefD := ⟨("taken_out", none), "taken_out", "taken_out", defArgs s_taken_out, defBody s_taken_out, defScope s_taken_out, [], []⟩
def y_law_sheet : He.DefD := ⟨("_law_sheet", none), "_law_sheet", "_law_sheet", defArgs s_law_sheet, defBody s_law_sheet, defScope s_law_sheet, [], []⟩
def y_law_same : He.DefD := ⟨("_law_same", none), "_law_same", "_law_same", defArgs s_law_same, defBody s_law_same, defScope s_law_same, [], []⟩
def y_law_call : He.DefD := ⟨("_law_call", none), "_law_call", "_law_call", defArgs s_law_call, defBody s_law_call, defScope s_law_call, [], []⟩
def y_law_refused : He.DefD := ⟨("_law_refused", none), "_law_refused", "_law_refused", defArgs s_law_refused, defBody s_law_refused, defScope s_law_refused, [], []⟩
def y_law : He.DefD := ⟨("law", none), "law", "law", defArgs s_law, defBody s_law, defScope s_law, [], []⟩
def fn0 : List He.DefD := [y_unit, y_join, y_gather, y_is_whole, y_fillings_of, y_place_of, y_without, y_law_jar, y_law_prime, y_law_join, y_law_gather, y_law_nothing, y_law_fillings, y_law_times, y_law_look, y_law_class, y_law_is_order, y_are_names, y_worth_by, y_need_name, y_is_order, y_law_dip, y_law_made, y_need_names, y_joined, y_gathered, y_need_order, y_law_word, y_law_number, y_law_sizes]
def fn1 : List He.DefD := [y_law_some, y_law_due, y_law_order, y_law_bent, y_widened, y_all_joined, y_law_part, y_taken_out, y_law_sheet, y_law_same, y_law_call, y_law_refused, y_law]
def fn : List He.DefD := fn0 ++ fn1
def fa0 : List He.Fa := [.glo "unit", .glo "join", .glo "gather", .glo "is_whole", .glo "fillings_of", .glo "place_of", .glo "without", .glo "_law_jar", .glo "_law_prime", .glo "_law_join", .glo "_law_gather", .glo "_law_nothing", .glo "_law_fillings", .glo "_law_times", .glo "_law_look", .glo "_law_class", .glo "_law_is_order", .glo "are_names", .glo "worth_by", .glo "need_name", .glo "is_order", .glo "_law_dip", .glo "_law_made", .glo "need_names", .glo "joined", .glo "gathered", .glo "need_order", .glo "_law_word", .glo "_law_number", .glo "_law_sizes"]
def fa1 : List He.Fa := [.glo "_law_some", .glo "_law_due", .glo "_law_order", .glo "_law_bent", .glo "widened", .glo "all_joined", .glo "_law_part", .glo "taken_out", .glo "_law_sheet", .glo "_law_same", .glo "_law_call", .glo "_law_refused", .glo "law", .free "len", .free "range", .free "sorted", .free "set", .free "tuple", .free "list", .free "dict", .free "zip", .free "enumerate", .free "all", .free "any", .free "sum", .free "min", .free "max", .free "isinstance", .free "str", .free "int"]
def fa2 : List He.Fa := [.free "repr", .free "bool", .glo "NoName", .exc "NoName", .glo "NoBack", .glo "NoBag", .glo "NoDeeds", .glo "NoFilling", .glo "NoName", .glo "NoNumber", .glo "NoOffers", .glo "NoPart", .glo "NoRow", .glo "NoText", .glo "NoTree", .glo "NoWeights", .glo "NoWorths", .glo "SumError", .glo "TooMany", .free "ValueError", .int "ROOF" 1000000000000000000000000000000]
def fa : List He.Fa := fa0 ++ fa1 ++ fa2
def nm0 : List PySem.Str := ["ROOF", "unit", "join", "gather", "is_whole", "fillings_of", "SumError", "NoFilling", "NoName", "TooMany", "NoDeeds", "NoOffers", "NoTree", "NoBag", "NoPart", "NoWorths", "NoBack", "NoWeights", "NoNumber", "NoRow", "NoText", "are_names", "need_names", "place_of", "worth_by", "joined", "need_name", "without", "gathered", "widened"]
def nm1 : List PySem.Str := ["is_order", "need_order", "all_joined", "taken_out", "_law_jar", "_law_prime", "_law_dip", "_law_join", "_law_gather", "_law_nothing", "_law_fillings", "_law_times", "_law_look", "_law_word", "_law_number", "_law_sizes", "_law_some", "_law_part", "_law_sheet", "_law_same", "_law_call", "_law_class", "_law_refused", "_law_made", "_law_due", "_law_order", "_law_bent", "_law_is_order"]
def nm : List PySem.Str := nm0 ++ nm1
abbrev R : PySem.W.OpenRow := PySem.W.OpenLaw.row PySem.Challenge.rw_sumorder_k30_names_taken_out
def ex : PySem.W.Frag → Bool := xsB ["NoName"]
abbrev hk : PySem.W.Hook := hookE 4 fa fn ex
def ob (s : PySem.W.SharedT) : He.AlD × Bool := obsE 4 fa fn ex (HandSHeadRun.getT s)
theorem obE (s : PySem.W.SharedT) : ob s = hk.obs s.abs := obsE_eq (HandSHeadRun.getT_eq s)
theorem topRun (w : World) : HandSHeadRun.RunEq R (PySem.W.view R.prog [64]) hk ob 8000 nm w := by
  intro os; kernel_rfl
end LS.K30.E
namespace HD
open PySem L2
section
variable {g : DTG} {tt : DTT} {te : DT} {vs : List Nat} {keep : Env' → Prop} {Q : Sl → Env' → Prop} {env : Env'} {α : Type}
theorem fm_if {α β : Type} (f : α → β) (p : α → Bool) (xs : List α) : xs.filterMap (fun x => if p x = true then some (f x) else none) = (xs.filter p).map f := by
  induction xs with
  | nil => rfl
  | cons y xs ih =>
    by_cases hy : p y = true
    · rw [List.filterMap_cons_some (b := f y) (by rw [if_pos hy]), List.filter_cons_of_pos hy, List.map_cons, ih]
    · rw [List.filterMap_cons_none (by rw [if_neg hy]), List.filter_cons_of_neg hy, ih]
theorem lc_fm (i : α → D) (f : α → Option D) (hk : keep env) (xs : List α) : ∀ acc : List D, acc.length + xs.length ≤ sizeLine →
    (∀ x ∈ xs, ∀ R : Option D → Env' → Prop, R (f x) env → g (i x) env fun env1 => tt noX env1 fun b env2 => if b = true then te noX env2 fun y env3 => frzD env3 y fun d' env4 => R (some d') (wipeE env4 vs) else R none (wipeE env2 vs)) →
    (∀ a, Q (.lst a (acc ++ xs.filterMap f)) env) → lcD g tt te vs keep Q (xs.map i) acc env := by
  induction xs with
  | nil => intro acc _ _ hQ; exact ⟨hk, fun a => by simpa using hQ a⟩
  | cons x xs ih =>
    intro acc hl h hQ
    rw [List.length_cons] at hl
    rw [List.map_cons, lcD]
    refine ⟨hk, by omega, h x List.mem_cons_self (fun o env' => match o with
      | some d' => lcD g tt te vs keep Q (xs.map i) (acc ++ [d']) env'
      | none => lcD g tt te vs keep Q (xs.map i) acc env') ?_⟩
    cases e : f x with
    | none =>
      refine ih acc (by omega) (fun y hy => h y (List.mem_cons_of_mem _ hy)) fun a => ?_
      have := hQ a
      rw [List.filterMap_cons_none e] at this
      exact this
    | some d =>
      refine ih (acc ++ [d]) (by rw [List.length_append, List.length_singleton]; omega) (fun y hy => h y (List.mem_cons_of_mem _ hy)) fun a => ?_
      have := hQ a
      rw [List.filterMap_cons_some e] at this
      rw [List.append_assoc]
      exact this
theorem lc_map (i f : α → D) (hk : keep env) (xs : List α) (hl : xs.length ≤ sizeLine)
    (h : ∀ x ∈ xs, ∀ R : D → Env' → Prop, R (f x) env → g (i x) env fun env1 => te noX env1 fun y env3 => frzD env3 y fun d' env4 => R d' (wipeE env4 vs))
    (hQ : ∀ a, Q (.lst a (xs.map f)) env) : lcD g dYes te vs keep Q (xs.map i) [] env := by
  refine lc_fm i (fun x => some (f x)) hk xs [] (by simpa using hl) (fun x hx R hR => ?_) (fun a => by simpa [List.filterMap_eq_map] using hQ a)
  have := h x hx (fun d e => R (some d) e) hR
  simp only [dYes, if_true]
  exact this
theorem lc_filter (i f : α → D) (p : α → Bool) (hk : keep env) (xs : List α) (hl : xs.length ≤ sizeLine)
    (h : ∀ x ∈ xs, ∀ R : Option D → Env' → Prop, R (if p x = true then some (f x) else none) env → g (i x) env fun env1 => tt noX env1 fun b env2 => if b = true then te noX env2 fun y env3 => frzD env3 y fun d' env4 => R (some d') (wipeE env4 vs) else R none (wipeE env2 vs))
    (hQ : ∀ a, Q (.lst a ((xs.filter p).map f)) env) : lcD g tt te vs keep Q (xs.map i) [] env := by
  refine lc_fm i (fun x => if p x = true then some (f x) else none) hk xs [] (by simpa using hl) h (fun a => ?_)
  have e := fm_if f p xs
  rw [List.nil_append, e]
  exact hQ a
theorem lc_ind (i : α → D) (P : List α → List D → Env' → Prop) (hnil : ∀ acc env, P [] acc env → keep env ∧ ∀ a, Q (.lst a acc) env)
    (hcons : ∀ x xs acc env (N : List D → Env' → Prop), P (x :: xs) acc env → (∀ acc' env', P xs acc' env' → N acc' env') → keep env ∧ acc.length < sizeLine ∧ g (i x) env fun env1 => tt noX env1 fun b env2 => if b = true then te noX env2 fun y env3 => frzD env3 y fun d' env4 => N (acc ++ [d']) (wipeE env4 vs) else N acc (wipeE env2 vs)) :
    ∀ (xs : List α) (acc : List D) (env : Env'), P xs acc env → lcD g tt te vs keep Q (xs.map i) acc env := by
  intro xs
  induction xs with
  | nil => intro acc env h; exact hnil acc env h
  | cons x xs ih =>
    intro acc env h
    rw [List.map_cons, lcD]
    exact hcons x xs acc env (fun acc' env' => lcD g tt te vs keep Q (xs.map i) acc' env') h fun acc' env' h' => ih acc' env' h'
end
section
variable {g : DTG} {body : DTS} {keep : Env' → Prop} {Ex : DX} {E : DEnds} {α : Type}
theorem for_ind (i : α → D) (P : List α → Env' → Prop) (hnil : ∀ env, P [] env → keep env ∧ E.nx env)
    (hcons : ∀ x xs env (N : Env' → Prop), P (x :: xs) env → (∀ env', P xs env' → N env') → keep env ∧ g (i x) env fun env1 => body Ex { E with nx := N, ct := N, bk := E.nx } env1) :
    ∀ (xs : List α) (env : Env'), P xs env → forD g body keep Ex E (xs.map i) env := by
  intro xs
  induction xs with
  | nil => intro env h; exact hnil env h
  | cons x xs ih =>
    intro env h
    rw [List.map_cons, forD]
    exact hcons x xs env _ h fun env' h' => ih env' h'
end
theorem dCallV_w (FT : FTab) (i : Nat) (ta : DTA) (Ex : DX) (env : Env') (Q : Sl → Env' → Prop) : dCallV FT i ta Ex env Q = AtS env[i]? (fun d => match d with | .glo nm => ∃ n spec, FT nm = some (n, spec) ∧ dCall spec ta Ex env Q | _ => False) (fun _ _ => False) .mk .mk := by
  unfold dCallV AtS
  rcases env[i]? with _ | (_ | d | _ | _ | _) <;> try rfl
  cases d <;> rfl
end HD
namespace HD
open PySem PySem.Spec PyProof.Rows L2
section
variable {G : GG} {N : List Str} {sc : SC} {k : Nat} {a : Expr} {ta : DT} {p p2 pos pos2 : Pos}
def dSortSetL (t : DT) : DT := fun Ex env Q => t Ex env fun x env1 => wd env1 x fun d => match d with
  | .lst ds => ∃ ns : List Int, ds = ns.map D.int ∧ ns.length < 64 ∧ ∀ (ns' : List Int) (b : Addr), ns'.Pairwise (· < ·) → (∀ n : Int, n ∈ ns' ↔ n ∈ ns) → Q (.lst b (ns'.map D.int)) env1
  | _ => False
theorem de_gint {x : Str} {i : Int} {pos : Pos} (h : ∃ t, G.mg x = some (.int i t)) (hg : GlS sc x := by rfl) (hd : (x == ("__debug__" : Str)) = false := by decide) : DE G N sc k (.Name x pos) (dC (.int i)) := by
  obtain ⟨t, h⟩ := h
  exact de_glob (v := .int i) hg h ⟨t, rfl⟩ (fun _ => rfl) hd
end
def FzS (o : Option Sl) (k : List D → Prop) (z : Prop) (_ : Tok k) (_ : Tok z) : Prop := match o with
  | some (.lst _ ds) => k ds
  | _ => z
theorem FzS_lst (a : Addr) (ds : List D) (k : List D → Prop) (z : Prop) (t : Tok k) (u : Tok z) : FzS (some (.lst a ds)) k z t u = k ds := rfl
theorem FzS_ext (d : D) (k : List D → Prop) (z : Prop) (t : Tok k) (u : Tok z) : FzS (some (.ext d)) k z t u = z := rfl
theorem sFz_w (i : Nat) (t : DTS) (Ex : DX) (E : DEnds) (env : Env') : sFz i t Ex E env = FzS env[i]? (fun ds => t Ex E (env.set i (.ext (.lst ds)))) (t Ex E env) .mk .mk := by
  unfold sFz FzS
  rcases env[i]? with _ | (_ | _ | _ | _ | _) <;> rfl
def fAbs : List D → (Sl → Prop) → Prop
  | [.int i], Q => Q (.ext (.int (if i < 0 then -i else i)))
  | _, _ => False
def fInt : List D → (Sl → Prop) → Prop
  | [.int i], Q => Q (.ext (.int i))
  | [.bl b], Q => Q (.ext (.int (if b then 1 else 0)))
  | _, _ => False
end HD
namespace HD
open PySem PyProof.Rows L2
def rRepr (K : PySem.W.Frag) : List V → Hp → VK → Prop := fun xs H Q => ∃ (v : V) (d : PyData), xs = [v] ∧ Dp K H v d ∧ d.showable = true ∧ d.hasDict = false ∧ d.depth ≤ 60 ∧ d.shown.length ≤ sizeLine ∧ Q (.str d.shown) H
theorem call_repr {X : Cx} (gd : X.A.guards = some []) (hu : X.A.units + 64 < cLine) : CallR X (.builtin "repr") (rRepr X.K) := by
  intro pins s σ H xs us Q I r h
  obtain ⟨v, d, rfl, hd, hs, hn, hdp, hz, q⟩ := h
  obtain ⟨u, rfl, ru⟩ := vals1 r
  cases hd with
  | non =>
    cases (show u = Value.none from ru)
    exact PySem.P.repr_of_none ⟨.str _, H, I.tok _, ⟨_, rfl⟩, q⟩
  | bl b =>
    cases (show u = Value.bool b from ru)
    exact PySem.P.repr_of_bool ⟨.str _, H, I.tok _, ⟨_, rfl⟩, q⟩
  | int i =>
    obtain ⟨t, rfl⟩ := ru
    exact PySem.P.repr_of_int (by simpa [PyData.showable] using hs) ⟨.str _, H, I.tok _, ⟨_, rfl⟩, q⟩
  | str x =>
    obtain ⟨t, rfl⟩ := ru
    exact PySem.P.repr_of_str ⟨.str _, H, I.tok _, ⟨_, rfl⟩, q⟩ (by simpa only [PyData.shown] using hz)
  | lst h1 h2 =>
    obtain ⟨as, rd⟩ := Dp.reads I _ _ _ (.lst h1 h2) ru
    cases ru
    exact repr_of_reads' rd hs (PyData.noDict_hsm hn) gd (by omega) (fun b o e => e) (fun g u tk hk => ⟨.str _, H, I.kept (t' := tk) hk, ⟨_, rfl⟩, q⟩) hz
  | tup h1 h2 =>
    obtain ⟨as, rd⟩ := Dp.reads I _ _ _ (.tup h1 h2) ru
    cases ru
    exact repr_of_reads' rd hs (PyData.noDict_hsm hn) gd (by omega) (fun b o e => e) (fun g u tk hk => ⟨.str _, H, I.kept (t' := tk) hk, ⟨_, rfl⟩, q⟩) hz
structure D.sh (d : D) : Prop where
  nv : d.noVal = true
  ok : d.py.showable = true
  nd : d.py.hasDict = false
  dp : d.py.depth ≤ 60
  len : d.py.shown.length ≤ sizeLine
def fRepr : List D → (Sl → Prop) → Prop
  | [d], Q => d.sh ∧ Q (.ext (.str d.py.shown))
  | _, _ => False
theorem pr_repr (K : PySem.W.Frag) : Pr K (rRepr K) fRepr := fun F H vs ds Q R fh h hf ha => by
  rcases ds with _ | ⟨d, _ | ⟨d2, ds⟩⟩ <;> try exact hf.elim
  obtain ⟨v, rfl, r⟩ := h.one
  obtain ⟨hs, q⟩ := hf
  exact ⟨v, d.py, rfl, Rep.dp hs.nv (r.rep fh), hs.ok, hs.nd, hs.dp, hs.len, ha.str fh q⟩
section
variable {G : GG} {N : List Str} {sc : SC} {k : Nat} {e : Expr} {es : List Expr} {t : DTA} {p pos : Pos}
theorem de_repr (hm : G.mg "repr" = none) (ha : DAs G N sc k (e :: es) t) (hg : GlS sc "repr" := by rfl)
    (he : NoStar e es := by intro _; rfl) (hpl : ∀ env, (backTo pos (starEach es env)).any (·.1) = false := by intro _; rfl) : DE G N sc k (.Call (.Name "repr" p) (e :: es) [] pos) (dCB fRepr t) := ⟨fun W => by
  obtain ⟨ta, p1, i1⟩ := ha.ex W
  refine ⟨tCB (rRepr G.K) ta, fun X S => ?_, im_cb (pr_repr G.K) i1⟩
  have c : CallR X (.builtin "repr") (rRepr X.K) := call_repr S.gd S.units
  rw [S.K] at c
  exact pe_callB c (S.gl hg) (by rw [S.mg]; exact hm) (by decide +kernel) (p1 X S) (by decide) (by decide) (he _) (hpl _)⟩
end
def fLtT : D → D → (Sl → Prop) → Prop
  | .tup xs, .tup ys, Q => ∃ ns ms : List Int, xs = ns.map D.int ∧ ys = ms.map D.int ∧ Q (.ext (.bl (HT.lexLt ns ms)))
  | _, _, _ => False
def D.sv : Nat → D → Bool
  | _, .non => true
  | _, .bl _ => true
  | _, .int i => decide (i.natAbs.log2 < 1920)
  | _, .str x => x.cps.toList.all fun c => decide (c < 16 ^ 8)
  | k + 1, .lst ds => ds.all (D.sv k)
  | k + 1, .tup ds => ds.all (D.sv k)
  | _, _ => false
theorem bulks_app (a b : List D) : PyData.bulkAll (D.pys (a ++ b)) = PyData.bulkAll (D.pys a) + PyData.bulkAll (D.pys b) := by
  induction a with
  | nil => simp [D.pys, PyData.bulkAll]
  | cons d a ih => simp only [List.cons_append, D.pys, PyData.bulkAll, ih]; omega
theorem bulks_nD (l : List Nat) : PyData.bulkAll (D.pys (nD l)) = l.length := by
  induction l with
  | nil => rfl
  | cons x l ih => rw [nD_cons, D.pys, PyData.bulkAll, ih, List.length_cons]; simp [D.py, PyData.bulk]; omega
end HD
namespace PM
def sz (S : List Nat) (n : Nat) : Nat := S.getD n 0
def prodN : List Nat → Nat
  | [] => 1
  | x :: xs => x * prodN xs
def psz (S : List Nat) (ns : List Nat) : Nat := prodN (ns.map (sz S))
def fills (S : List Nat) : List Nat → List (List Nat)
  | [] => [[]]
  | n :: ns => (List.range (sz S n)).flatMap fun w => (fills S ns).map (w :: ·)
def pl (S : List Nat) : Nat → List Nat → List Nat → Nat
  | acc, n :: ns, w :: ws => pl S (acc * sz S n + w) ns ws
  | acc, _, _ => acc
def Good (S : List Nat) : List Nat → List Nat → Prop
  | [], ws => ws = []
  | n :: ns, ws => ∃ w r, ws = w :: r ∧ w < sz S n ∧ Good S ns r
theorem Good.len {S : List Nat} {ns ws : List Nat} (h : Good S ns ws) : ws.length = ns.length := by
  induction ns generalizing ws with
  | nil => rw [show ws = [] from h]
  | cons n ns ih => obtain ⟨w, r, rfl, _, h2⟩ := h; simp [ih h2]
theorem pl_acc {S : List Nat} {ns ws : List Nat} (h : ws.length = ns.length) (acc : Nat) : pl S acc ns ws = acc * psz S ns + pl S 0 ns ws := by
  induction ns generalizing ws acc with
  | nil => simp [pl, psz, prodN]
  | cons n ns ih =>
    cases ws with
    | nil => simp at h
    | cons w ws =>
      have hl : ws.length = ns.length := by simpa using h
      have e : psz S (n :: ns) = sz S n * psz S ns := rfl
      rw [pl, pl, ih hl (acc * sz S n + w), ih hl (0 * sz S n + w), e, Nat.add_mul, Nat.zero_mul, Nat.zero_add, Nat.mul_assoc, Nat.add_assoc]
theorem mem_fills {S : List Nat} {ns f : List Nat} : f ∈ fills S ns ↔ Good S ns f := by
  induction ns generalizing f with
  | nil => simp [fills, Good]
  | cons n ns ih =>
    simp only [fills, List.mem_flatMap, List.mem_range, List.mem_map, Good]
    constructor
    · rintro ⟨w, hw, r, hr, rfl⟩
      exact ⟨w, r, rfl, hw, ih.1 hr⟩
    · rintro ⟨w, r, rfl, hw, hr⟩
      exact ⟨w, hw, r, ih.2 hr, rfl⟩
theorem range_blocks (P m : Nat) : ((List.range m).flatMap fun w => (List.range P).map fun i => w * P + i) = List.range (m * P) := by
  induction m with
  | zero => simp
  | succ m ih =>
    rw [List.range_succ, List.flatMap_append, ih, Nat.succ_mul, List.range_add]
    simp
theorem fills_pl (S ns : List Nat) : (fills S ns).map (pl S 0 ns) = List.range (psz S ns) := by
  induction ns with
  | nil => simp [fills, pl, psz, prodN]
  | cons n ns ih =>
    have e : psz S (n :: ns) = sz S n * psz S ns := rfl
    rw [e, fills, List.map_flatMap, ← range_blocks (psz S ns) (sz S n), ← ih]
    congr 1
    funext w
    rw [List.map_map, List.map_map]
    refine List.map_congr_left fun f hf => ?_
    have hl := (mem_fills.1 hf).len
    show pl S (0 * sz S n + w) ns f = w * psz S ns + pl S 0 ns f
    rw [pl_acc hl, Nat.zero_mul, Nat.zero_add]
theorem len_fills (S ns : List Nat) : (fills S ns).length = psz S ns := by
  have h := congrArg List.length (fills_pl S ns)
  simpa using h
theorem fills_at {S ns f : List Nat} {i : Nat} (h : (fills S ns)[i]? = some f) : pl S 0 ns f = i := by
  have e := fills_pl S ns
  have h1 : ((fills S ns).map (pl S 0 ns))[i]? = some (pl S 0 ns f) := by rw [List.getElem?_map, h]; rfl
  rw [e] at h1
  have := List.getElem?_eq_some_iff.1 h1
  obtain ⟨h2, h3⟩ := this
  rw [List.getElem_range] at h3
  exact h3.symm
theorem fills_get {S ns f : List Nat} (h : Good S ns f) : (fills S ns)[pl S 0 ns f]? = some f := by
  obtain ⟨i, hi, e⟩ := List.getElem_of_mem (mem_fills.2 h)
  have h1 : (fills S ns)[i]? = some f := by rw [List.getElem?_eq_getElem hi, e]
  rw [fills_at h1, h1]
theorem pl_lt {S ns f : List Nat} (h : Good S ns f) : pl S 0 ns f < psz S ns := by
  have := fills_get h
  rw [← len_fills]
  exact (List.getElem?_eq_some_iff.1 this).1
theorem good_map {S ns : List Nat} {g : Nat → Nat} (h : ∀ n ∈ ns, g n < sz S n) : Good S ns (ns.map g) := by
  induction ns with
  | nil => rfl
  | cons n ns ih => exact ⟨g n, ns.map g, rfl, h n List.mem_cons_self, ih fun m hm => h m (List.mem_cons_of_mem _ hm)⟩
def ats (ns f : List Nat) : Nat → Nat := fun n => f.getD (ns.idxOf n) 0
theorem ats_map {ns : List Nat} {g : Nat → Nat} {n : Nat} (h : n ∈ ns) : ats ns (ns.map g) n = g n := by
  unfold ats
  have hl := List.idxOf_lt_length_of_mem h
  rw [List.getD_eq_getElem?_getD, List.getElem?_map, List.getElem?_eq_getElem hl, List.getElem_idxOf]
  rfl
theorem ats_lt {S ns f : List Nat} (h : Good S ns f) {n : Nat} (hn : n ∈ ns) : ats ns f n < sz S n := by
  induction ns generalizing f with
  | nil => cases hn
  | cons m ns ih =>
    obtain ⟨w, r, rfl, h1, h2⟩ := h
    by_cases e : n = m
    · subst e; simpa [ats] using h1
    · have hn' : n ∈ ns := by
        rcases List.mem_cons.1 hn with h | h
        · exact absurd h e
        · exact h
      have := ih h2 hn'
      have b : (m == n) = false := by simp [Ne.symm e]
      simpa [ats, List.idxOf_cons, b] using this
structure Part where
  ns : List Nat
  ws : List Int
def Rising (l : List Nat) : Prop := l.Pairwise (· < ·)
theorem Rising.nd {l : List Nat} (h : Rising l) : l.Nodup := List.Pairwise.imp (fun h => Nat.ne_of_lt h) h
theorem rising_ext {a b : List Nat} (ha : Rising a) (hb : Rising b) (h : ∀ n, n ∈ a ↔ n ∈ b) : a = b := by
  induction a generalizing b with
  | nil =>
    cases b with
    | nil => rfl
    | cons y b => exact absurd ((h y).2 List.mem_cons_self) (by simp)
  | cons x a ih =>
    cases b with
    | nil => exact absurd ((h x).1 List.mem_cons_self) (by simp)
    | cons y b =>
      have ha' := List.pairwise_cons.1 ha
      have hb' := List.pairwise_cons.1 hb
      have e : x = y := by
        rcases List.mem_cons.1 ((h x).1 List.mem_cons_self) with e | e
        · exact e
        · rcases List.mem_cons.1 ((h y).2 List.mem_cons_self) with e' | e'
          · exact e'.symm
          · have h1 := hb'.1 x e
            have h2 := ha'.1 y e'
            omega
      subst e
      rw [ih ha'.2 hb'.2 fun n => ?_]
      constructor
      · intro hn
        rcases List.mem_cons.1 ((h n).1 (List.mem_cons_of_mem _ hn)) with e | e
        · have := ha'.1 n hn; omega
        · exact e
      · intro hn
        rcases List.mem_cons.1 ((h n).2 (List.mem_cons_of_mem _ hn)) with e | e
        · have := hb'.1 n hn; omega
        · exact e
structure Part.Ok (S : List Nat) (p : Part) : Prop where
  rise : Rising p.ns
  lt : ∀ n ∈ p.ns, n < S.length
  len : p.ws.length = psz S p.ns
def val (S : List Nat) (p : Part) (g : Nat → Nat) : Int := p.ws.getD (pl S 0 p.ns (p.ns.map g)) 0
def Fit (S : List Nat) (ns : List Nat) (g : Nat → Nat) : Prop := ∀ n ∈ ns, g n < sz S n
theorem val_congr {S : List Nat} {p : Part} {g g' : Nat → Nat} (h : ∀ n ∈ p.ns, g n = g' n) : val S p g = val S p g' := by
  unfold val
  rw [List.map_congr_left h]
def mkP (S : List Nat) (ns : List Nat) (F : (Nat → Nat) → Int) : Part := ⟨ns, (fills S ns).map fun f => F (ats ns f)⟩
theorem mkP_ok {S ns : List Nat} {F : (Nat → Nat) → Int} (h : Rising ns) (hl : ∀ n ∈ ns, n < S.length) : (mkP S ns F).Ok S :=
  ⟨h, hl, by simp [mkP, len_fills]⟩
theorem val_mkP {S ns : List Nat} {F : (Nat → Nat) → Int} {g : Nat → Nat} (hg : Fit S ns g) (hF : F (ats ns (ns.map g)) = F g) : val S (mkP S ns F) g = F g := by
  unfold val mkP
  rw [List.getD_eq_getElem?_getD, List.getElem?_map, fills_get (good_map hg)]
  exact hF
theorem val_mem {S : List Nat} {p : Part} (hp : p.Ok S) {g : Nat → Nat} (hg : Fit S p.ns g) : val S p g ∈ p.ws := by
  unfold val
  have h := pl_lt (good_map hg)
  rw [← hp.len] at h
  rw [List.getD_eq_getElem?_getD, List.getElem?_eq_getElem h]
  exact List.getElem_mem h
theorem val_at {S : List Nat} {p : Part} (hp : p.Ok S) {g : Nat → Nat} (hg : Fit S p.ns g) : p.ws[pl S 0 p.ns (p.ns.map g)]? = some (val S p g) := by
  unfold val
  have h := pl_lt (good_map hg)
  rw [← hp.len] at h
  rw [List.getD_eq_getElem?_getD, List.getElem?_eq_getElem h]
  rfl
def Uni (U a b : List Nat) : Prop := Rising U ∧ ∀ n, n ∈ U ↔ n ∈ a ∨ n ∈ b
theorem Uni.eq {U U' a b : List Nat} (h : Uni U a b) (h' : Uni U' a b) : U = U' := rising_ext h.1 h'.1 fun n => (h.2 n).trans (h'.2 n).symm
def joinP (S : List Nat) (jn : Int → Int → Int) (U : List Nat) (p q : Part) : Part := mkP S U fun g => jn (val S p g) (val S q g)
theorem joinP_ok {S U : List Nat} {jn : Int → Int → Int} {p q : Part} (hU : Uni U p.ns q.ns) (hp : p.Ok S) (hq : q.Ok S) : (joinP S jn U p q).Ok S :=
  mkP_ok hU.1 fun n hn => by
    rcases (hU.2 n).1 hn with h | h
    · exact hp.lt n h
    · exact hq.lt n h
theorem val_joinP {S U : List Nat} {jn : Int → Int → Int} {p q : Part} (hU : Uni U p.ns q.ns) {g : Nat → Nat} (hg : Fit S U g) : val S (joinP S jn U p q) g = jn (val S p g) (val S q g) := by
  refine val_mkP hg ?_
  show jn _ _ = jn _ _
  rw [val_congr (p := p) fun n hn => ats_map ((hU.2 n).2 (.inl hn)), val_congr (p := q) fun n hn => ats_map ((hU.2 n).2 (.inr hn))]
end PM
namespace LS
open PySem L2 HD PM
local macro_rules | `(tactic| trivial) => `(tactic| try simp -dsimp only [↓sSeq, ↓sIf, ↓sRet, ↓retD_ext, ↓retD_lst, ↓retD_al, ↓sSet, ↓sSetE, ↓sAsg, ↓sDrop, ↓sNext, ↓sFor, ↓sRetN, ↓sCont, ↓sBreak, ↓dTest, ↓dOp, ↓dVar_w, ↓dC, ↓dCons, ↓dNil, ↓dTup, ↓dLst, ↓frzDs, ↓frzD_ext, ↓frzD_lst, ↓frzD_al, ↓wd_ext, ↓wd_lst, ↓wd_al, ↓wds, ↓AtS_ext, ↓AtS_lst, ↓AtL, ↓fAdd, ↓fSub, ↓fMul, ↓fDiv, ↓fMod, ↓fPow, ↓fCmp, ↓fIn, ↓fEq_ii, ↓fEq_ss, ↓fEq_bb, ↓fEq_tt, ↓fEq_ll, ↓fNe_ii, ↓fNe_ss, ↓fNe_bb, ↓fNe_tt, ↓fNe_ll, ↓fIx_l, ↓fIx_t, ↓fIx_k, ↓fIx_f, ↓GetS_some, ↓NatS_some, ↓fSl, ↓fIsN, ↓fNotN, ↓D.knN, ↓dNot, ↓dAnd, ↓dOr, ↓dAndV_w, ↓dOrV_w, ↓dNotV, ↓dIf, ↓dNeg, ↓dChain_w, ↓BlS_bl, ↓dCall_w, ↓dCallJ_w, ↓anyAl, ↓frozs, ↓froz, ↓gSet, ↓gTupD, ↓gsCons, ↓gsNil, ↓dSeq, ↓seqD_tup, ↓seqD_elst, ↓seqD_lst, ↓seqD_al, ↓dRange1, ↓dRange2, ↓dZip, ↓dCB, ↓dLc, ↓dYes, ↓dNoPart, ↓dPart, ↓dSl, ↓fLen, ↓fMin, ↓fMax, ↓fSum, ↓fAll, ↓fAny, ↓fSorted, ↓fTuple, ↓fList, ↓dRg1, ↓dRg2, ↓dLstRg, ↓dTupRg, ↓dIndex, ↓fIdx, ↓dAppend_w, ↓dExtend_w, ↓extD_lst, ↓dPopAt_w, ↓popD_int, ↓dPop_w, ↓mutD_w, ↓sSetItem_w, ↓setD_int, ↓dSortSet, ↓dTable_w, ↓wipeE, finals1, finals2, finals3, finals4, finals5, finals6, fin1_ext, fin1_lst, List.getElem?_cons_zero, List.getElem?_cons_succ, List.getElem?_nil, List.set_cons_zero, List.set_cons_succ, List.cons_append, List.nil_append, List.append_nil, List.replicate_succ, List.replicate_zero, List.map_cons, List.map_nil, List.length_cons, List.length_nil, true_and, and_true, ite_true, ite_false, if_true, if_false, Bool.false_eq_true, decide_eq_true_eq, Sl.plain, D.isSq, eq_self_iff_true, forall_const, reduceIte, true_or, or_true, atI_0, atI_1, atI_2, atI_3, ixN_0, ixN_1, ixN_2, AtS_ext, AtS_lst, FzS_lst, FzS_ext, GetS_some, NatS_some, ↓fIsi1, ↓fIsi2, BoolS_some, HD.kb_non_tuple, HD.kb_non_list, HD.kb_non_bool, HD.kb_non_int, HD.kb_non_str, HD.kb_bl_tuple, HD.kb_bl_list, HD.kb_bl_bool, HD.kb_bl_int, HD.kb_bl_str, HD.kb_int_tuple, HD.kb_int_list, HD.kb_int_bool, HD.kb_int_int, HD.kb_int_str, HD.kb_str_tuple, HD.kb_str_list, HD.kb_str_bool, HD.kb_str_int, HD.kb_str_str, HD.kb_lst_tuple, HD.kb_lst_list, HD.kb_lst_bool, HD.kb_lst_int, HD.kb_lst_str, HD.kb_tup_tuple, HD.kb_tup_list, HD.kb_tup_bool, HD.kb_tup_int, HD.kb_tup_str, ↓sFz_w, ↓FzS_lst, ↓FzS_ext, ↓dSortSetL, ↓fAbs, ↓fInt, ↓fRepr, ↓fLtT, ↓sRaise, ↓sTryKeep, ↓dCallV_w, ↓dMeth, ↓fCount, ↓fSplit])
inductive Wd where
  | sum | most | least | wide | any
  deriving DecidableEq
def Wd.s : Wd → Str
  | .sum => Str.ofString "sum"
  | .most => Str.ofString "most"
  | .least => Str.ofString "least"
  | .wide => Str.ofString "wide"
  | .any => Str.ofString "any"
def jn : Wd → Int → Int → Int
  | .sum, a, b => a * b
  | .most, a, b => a + b
  | .least, a, b => a + b
  | .wide, a, b => if b < a then b else a
  | .any, a, b => if b < a then b else a
theorem w_sum (w : Wd) : (w.s == Str.ofString "sum") = decide (w = .sum) := by cases w <;> decide +kernel
theorem w_least (w : Wd) : (w.s == Str.ofString "least") = decide (w = .least) := by cases w <;> decide +kernel
theorem w_wide (w : Wd) : (w.s == Str.ofString "wide") = decide (w = .wide) := by cases w <;> decide +kernel
theorem w_any (w : Wd) : (w.s == Str.ofString "any") = decide (w = .any) := by cases w <;> decide +kernel
theorem w_in_ml (w : Wd) : (D.str w.s).isIn [.str (Str.ofString "most"), .str (Str.ofString "least")] = decide (w = .most ∨ w = .least) := by cases w <;> decide +kernel
theorem flat_ml : [D.str (Str.ofString "most"), D.str (Str.ofString "least")].all D.flat = true := rfl
abbrev dW (w : Wd) : Sl := .ext (.str w.s)
abbrev dI (i : Int) : Sl := .ext (.int i)
def sp_join : DSpec := fun args Q _ => ∃ w i j, args = [dW w, dI i, dI j] ∧ CMulW i j ∧ ∀ fin, Q (dI (jn w i j)) fin
def t_join : DTS :=
    (sSeq (sIf (dTest (dOp fEq (dVar 0) (dC (.str (Str.ofString "sum"))))) (sRet (dOp fMul (dVar 1) (dVar 2))) sNext)
    (sSeq (sIf (dTest (dOp (fIn false) (dVar 0) (dTup (dCons (dC (.str (Str.ofString "most"))) (dCons (dC (.str (Str.ofString "least"))) dNil))))) (sRet (dOp fAdd (dVar 1) (dVar 2))) sNext)
    (sRet (dCB fMin (dCons (dVar 1) (dCons (dVar 2) dNil))))))
theorem m_join : Meets t_join 3 0 sp_join := by
  rintro args Qd Xd ⟨w, i, j, rfl, hc, hQ⟩
  show t_join _ _ [_, _, _]
  unfold t_join
  trivial
  simp only [w_sum, w_in_ml, flat_ml, D.flat, decide_eq_true_eq, true_and]
  cases w <;> simp only [reduceCtorEq, if_true, if_false, or_true, true_or, or_false, and_true] <;> first | exact ⟨hc, hQ _⟩ | exact ⟨by decide, hQ _⟩
def sp_law_join : DSpec := sp_join
def t_law_join : DTS :=
    (sSeq (sIf (dTest (dOp fEq (dVar 0) (dC (.str (Str.ofString "sum"))))) (sRet (dOp fMul (dVar 1) (dVar 2))) sNext)
    (sSeq (sIf (dTest (dOp (fIn false) (dVar 0) (dTup (dCons (dC (.str (Str.ofString "most"))) (dCons (dC (.str (Str.ofString "least"))) dNil))))) (sRet (dOp fAdd (dVar 1) (dVar 2))) sNext)
    (sRet (dIf (dTest (dOp (fCmp fun i j => decide (i < j)) (dVar 1) (dVar 2))) (dVar 1) (dVar 2)))))
theorem m_law_join : Meets t_law_join 3 0 sp_law_join := by
  rintro args Qd Xd ⟨w, i, j, rfl, hc, hQ⟩
  show t_law_join _ _ [_, _, _]
  unfold t_law_join
  trivial
  simp only [w_sum, w_in_ml, flat_ml, D.flat, decide_eq_true_eq, true_and]
  have e : ∀ c d : Prop, c → d → True := fun _ _ _ _ => True.intro
  cases w <;> simp only [reduceCtorEq, if_true, if_false, or_true, true_or, or_false, and_true] <;> first | exact ⟨hc, hQ _⟩ | exact ⟨by decide, hQ _⟩ | skip
  all_goals
    refine ⟨by decide, ?_⟩
    have h := hQ
    simp only [jn] at h
    split <;> rename_i hlt
    · rw [if_neg (by omega)] at h; exact h _
    · by_cases h2 : j < i
      · rw [if_pos h2] at h; exact h _
      · have : i = j := by omega
        subst this
        rw [if_neg (by omega)] at h; exact h _
def unitW (w : Wd) : Int := match w with | .sum => 1 | .any => 1 | .most => 0 | .least => 0 | .wide => 10 ^ 30
def sp_law_nothing : DSpec := fun args Q _ => ∃ w : Wd, args = [dW w] ∧ ∀ fin, Q (dI (unitW w)) fin
def t_law_nothing : DTS :=
    (sRet (dTable [(Str.ofString "sum", 1), (Str.ofString "any", 1), (Str.ofString "most", 0), (Str.ofString "least", 0), (Str.ofString "wide", 1000000000000000000000000000000)] 0))
theorem m_law_nothing : Meets t_law_nothing 1 0 sp_law_nothing := by
  rintro args Qd Xd ⟨w, rfl, hQ⟩
  show t_law_nothing _ _ [_]
  unfold t_law_nothing
  trivial
  cases w <;> exact ⟨_, by decide +kernel, hQ _⟩
def JarOk (n : Nat) (ds : List D) : Prop := ∃ (cells : List Int) (at' left : Int), ds = [.lst (iD cells), .int at', .int left] ∧ 0 ≤ at' ∧ at' ≤ n
theorem JarOk.up {n m : Nat} {ds : List D} (h : JarOk n ds) (hm : n ≤ m) : JarOk m ds := by
  obtain ⟨c, a, l, e, h1, h2⟩ := h
  exact ⟨c, a, l, e, h1, by omega⟩
theorem cut_iD (ns : List Int) (lo hi : Option Int) : cutD (iD ns) lo hi = iD ((ns.drop (HT.sIx ns.length 0 lo)).take (HT.sIx ns.length ns.length hi - HT.sIx ns.length 0 lo)) := by
  simp [cutD, List.map_take, List.map_drop]
def sp_law_jar : DSpec := fun args Q _ => ∃ ns : List Int, args = [.ext (.fz (iD ns))] ∧ ns.length ≤ 63 ∧ ∀ a ds fin, JarOk 0 ds → Q (.lst a ds) fin
def t_law_jar : DTS :=
    (sRet (dLst (dCons (dCB fList (dCons (dSl (dVar 0) dNoPart (dPart (dC (.int 63)))) dNil)) (dCons (dC (.int 0)) (dCons (dC (.int 0)) dNil)))))
theorem m_law_jar : Meets t_law_jar 1 0 sp_law_jar := by
  rintro args Qd Xd ⟨ns, rfl, hl, hQ⟩
  show t_law_jar _ _ [_]
  unfold t_law_jar
  trivial
  rw [cut_iD]
  exact ⟨by decide, fun a => hQ _ _ _ ⟨_, 0, 0, rfl, by omega, by omega⟩⟩
def sp_law_prime : DSpec := fun args Q _ => ∃ i : Int, args = [dI i] ∧ 0 ≤ i ∧ ∀ (r : Int) fin, 2147483423 ≤ r → r ≤ 2147483647 → Q (dI r) fin
def t_law_prime : DTS :=
    (sSeq (sSetE 1 (dLst (dCons (dC (.int 2147483647)) (dCons (dC (.int 2147483629)) (dCons (dC (.int 2147483587)) (dCons (dC (.int 2147483579)) (dCons (dC (.int 2147483563)) (dCons (dC (.int 2147483549)) (dCons (dC (.int 2147483543)) (dCons (dC (.int 2147483497)) dNil))))))))))
    (sRet (dOp fIx (dOp fAdd (dVar 1) (dLst (dCons (dC (.int 2147483489)) (dCons (dC (.int 2147483477)) (dCons (dC (.int 2147483423)) dNil))))) (dOp fMod (dVar 0) (dC (.int 11))))))
theorem m_law_prime : Meets t_law_prime 1 1 sp_law_prime := by
  rintro args Qd Xd ⟨i, rfl, hi, hQ⟩
  show t_law_prime _ _ [_, _]
  unfold t_law_prime
  trivial
  refine ⟨by decide, by decide, by decide, by decide, ?_⟩
  have h : i % 11 = 0 ∨ i % 11 = 1 ∨ i % 11 = 2 ∨ i % 11 = 3 ∨ i % 11 = 4 ∨ i % 11 = 5 ∨ i % 11 = 6 ∨ i % 11 = 7 ∨ i % 11 = 8 ∨ i % 11 = 9 ∨ i % 11 = 10 := by omega
  rcases h with h | h | h | h | h | h | h | h | h | h | h <;> rw [h] <;> exact ⟨_, rfl, hQ _ _ (by decide) (by decide)⟩
def sp_law_dip : DSpec := fun args Q _ => ∃ (n : Nat) (a : Addr) (ds : List D) (m : Int), args = [.lst a ds, dI m] ∧ JarOk n ds ∧ n < 4294967296 ∧ 0 < m ∧ m < 18446744073709551616 ∧
  ∀ (r : Int) ds' fin, 0 ≤ r → r < m → JarOk (n + 1) ds' → Q (dI r) (.lst a ds' :: fin)
def i1_law_dip : DTS :=
    (sSeq (sSetE 4 (dOp fMod (dOp fPow (dOp fAdd (dOp fAdd (dOp fMul (dOp fMod (dVar 3) (dC (.int 1000000007))) (dOp fAdd (dVar 2) (dC (.int 1)))) (dOp fMul (dC (.int 104729)) (dVar 2))) (dC (.int 17))) (dC (.int 3))) (dCall sp_law_prime (dCons (dVar 2) dNil))))
    (sSeq (sSetE 5 (dOp fMod (dOp fPow (dOp fAdd (dOp fAdd (dOp fMul (dVar 4) (dOp fAdd (dVar 2) (dC (.int 5)))) (dOp fMod (dVar 3) (dC (.int 65537)))) (dC (.int 1))) (dC (.int 5))) (dCall sp_law_prime (dCons (dOp fAdd (dVar 2) (dC (.int 3))) dNil))))
    (sSeq (sSetE 6 (dOp fMod (dOp fAdd (dOp fMul (dVar 5) (dVar 5)) (dVar 4)) (dCall sp_law_prime (dCons (dOp fAdd (dVar 2) (dC (.int 7))) dNil))))
    (sSetItem 0 (dC (.int 2)) (dOp fAdd (dOp fMul (dOp fAdd (dOp fMul (dVar 6) (dC (.int 2147483647))) (dVar 5)) (dC (.int 2147483629))) (dVar 4))))))
def k2_law_dip : DTS :=
    (sSeq (sSetItem 0 (dC (.int 2)) (dVar 3))
    (sIf (dOr (dTest (dOp (fCmp fun i j => decide (i < j)) (dVar 3) (dOp fPow (dC (.int 10)) (dC (.int 18))))) (dTest (dOp (fCmp fun i j => decide (j ≤ i)) (dVar 2) (dCB fLen (dCons (dOp fIx (dVar 0) (dC (.int 0))) dNil))))) i1_law_dip sNext))
def i3_law_dip : DTS :=
    (sSeq (sSetE 2 (dOp fIx (dVar 0) (dC (.int 1))))
    (sSeq (sSetItem 0 (dC (.int 1)) (dOp fAdd (dVar 2) (dC (.int 1))))
    (sSeq (sSetE 3 (dOp fAdd (dOp fMul (dC (.int 31)) (dVar 2)) (dC (.int 7))))
    (sSeq (sIf (dTest (dOp (fCmp fun i j => decide (j < i)) (dCB fLen (dCons (dOp fIx (dVar 0) (dC (.int 0))) dNil)) (dC (.int 0)))) (sSetE 3 (dOp fIx (dOp fIx (dVar 0) (dC (.int 0))) (dOp fMod (dVar 2) (dCB fLen (dCons (dOp fIx (dVar 0) (dC (.int 0))) dNil))))) sNext)
    k2_law_dip))))
def k4_law_dip : DTS :=
    (sSeq (sSetE 7 (dOp fMod (dOp fIx (dVar 0) (dC (.int 2))) (dVar 1)))
    (sSeq (sSetItem 0 (dC (.int 2)) (dOp fDiv (dOp fIx (dVar 0) (dC (.int 2))) (dVar 1)))
    (sRet (dVar 7))))
def t_law_dip : DTS :=
    (sSeq (sIf (dTest (dOp (fCmp fun i j => decide (i < j)) (dOp fIx (dVar 0) (dC (.int 2))) (dVar 1))) i3_law_dip sNext)
    k4_law_dip)
theorem q4_law_dip {Ex : DX} {E : DEnds} {n : Nat} {a : Addr} {m : Int} {cells : List Int} {at' left : Int} {s2 s3 s4 s5 s6 s7 : Sl} (h0 : 0 ≤ at') (h1 : at' ≤ (n : Int) + 1) (hm0 : 0 < m) (hm1 : m < 18446744073709551616)
    (hE : ∀ r ds' env, 0 ≤ r → r < m → JarOk (n + 1) ds' → E.rt (dI r) (.lst a ds' :: env)) : k4_law_dip Ex E [.lst a [.lst (iD cells), .int at', .int left], dI m, s2, s3, s4, s5, s6, s7] := by
  unfold k4_law_dip
  trivial
  refine ⟨hm0, ⟨hm0, ?_⟩, hE _ _ _ (Int.emod_nonneg _ (by omega)) (Int.emod_lt_of_pos _ hm0) ⟨cells, at', _, rfl, h0, by omega⟩⟩
  have : m.natAbs.log2 < 64 := (Nat.log2_lt (by omega)).2 (by omega)
  omega
theorem q3_law_dip {Ex : DX} {E : DEnds} {a : Addr} {m : Int} {cells : List Int} {at' left c : Int} {s4 s5 s6 s7 : Sl} (h0 : 0 ≤ at') (h1 : at' < 4294967296)
    (hE : ∀ left' u4 u5 u6, E.nx [.lst a [.lst (iD cells), .int (at' + 1), .int left'], dI m, dI at', dI c, u4, u5, u6, s7]) : i1_law_dip Ex E [.lst a [.lst (iD cells), .int (at' + 1), .int left], dI m, dI at', dI c, s4, s5, s6, s7] := by
  unfold i1_law_dip
  trivial
  have b0 := Int.emod_nonneg c (b := 1000000007) (by omega)
  have b1 := Int.emod_lt_of_pos c (b := 1000000007) (by omega)
  have b2 := Int.emod_nonneg c (b := 65537) (by omega)
  have b3 := Int.emod_lt_of_pos c (b := 65537) (by omega)
  generalize c % 1000000007 = c1 at *
  have g0 : 0 ≤ c1 * (at' + 1) := Int.mul_nonneg b0 (by omega)
  have g1 : c1 * (at' + 1) ≤ 1000000007 * 4294967296 := Int.mul_le_mul (by omega) (by omega) (by omega) (by omega)
  refine ⟨by decide, cmul64 (by omega) (by omega) (by omega) (by omega), cmul64 (by omega) (by omega) (by omega) (by omega), ⟨by decide, by decide, by omega⟩, at', rfl, h0, fun p fin p0 p1 => ?_⟩
  trivial
  have o0 := Int.emod_nonneg ((c1 * (at' + 1) + 104729 * at' + 17) ^ Int.toNat 3) (b := p) (by omega)
  have o1 := Int.emod_lt_of_pos ((c1 * (at' + 1) + 104729 * at' + 17) ^ Int.toNat 3) (b := p) (by omega)
  generalize (c1 * (at' + 1) + 104729 * at' + 17) ^ Int.toNat 3 % p = one at *
  generalize c % 65537 = c2 at *
  have g2 : 0 ≤ one * (at' + 5) := Int.mul_nonneg o0 (by omega)
  have g3 : one * (at' + 5) ≤ 2147483647 * 4294967300 := Int.mul_le_mul (by omega) (by omega) (by omega) (by omega)
  refine ⟨by omega, cmul64 (by omega) (by omega) (by omega) (by omega), by decide, ⟨by decide, by decide, by omega⟩, at' + 3, rfl, by omega, fun p' fin' p0' p1' => ?_⟩
  trivial
  have t0 := Int.emod_nonneg ((one * (at' + 5) + c2 + 1) ^ Int.toNat 5) (b := p') (by omega)
  have t1 := Int.emod_lt_of_pos ((one * (at' + 5) + c2 + 1) ^ Int.toNat 5) (b := p') (by omega)
  generalize (one * (at' + 5) + c2 + 1) ^ Int.toNat 5 % p' = two at *
  refine ⟨by omega, cmul64 (by omega) (by omega) (by omega) (by omega), at' + 7, rfl, by omega, fun p2 fin2 p20 p21 => ?_⟩
  trivial
  have u0 := Int.emod_nonneg (two * two + one) (b := p2) (by omega)
  have u1 := Int.emod_lt_of_pos (two * two + one) (b := p2) (by omega)
  generalize (two * two + one) % p2 = three at *
  refine ⟨by omega, cmul64 (by omega) (by omega) (by omega) (by omega), cmul64 (by omega) (by omega) (by omega) (by omega), hE _ _ _ _⟩
theorem q1_law_dip {Ex : DX} {E : DEnds} {a : Addr} {m : Int} {cells : List Int} {at' left c : Int} {s4 s5 s6 s7 : Sl} (h0 : 0 ≤ at') (h1 : at' < 4294967296)
    (hE : ∀ left' u4 u5 u6, E.nx [.lst a [.lst (iD cells), .int (at' + 1), .int left'], dI m, dI at', dI c, u4, u5, u6, s7]) : k2_law_dip Ex E [.lst a [.lst (iD cells), .int (at' + 1), .int left], dI m, dI at', dI c, s4, s5, s6, s7] := by
  unfold k2_law_dip
  trivial
  refine ⟨⟨by decide, by decide, by decide⟩, ?_⟩
  split
  · exact q3_law_dip h0 h1 hE
  · split
    · exact q3_law_dip h0 h1 hE
    · exact hE _ _ _ _
theorem m_law_dip : Meets t_law_dip 2 6 sp_law_dip := by
  rintro args Qd Xd ⟨n, a, ds, m, rfl, ⟨cells, at', left, rfl, h0, h1⟩, hn, hm0, hm1, hQ⟩
  show t_law_dip _ _ [_, _, .un, .un, .un, .un, .un, .un]
  unfold t_law_dip
  trivial
  have k2 : ∀ {at'' left'' : Int} {s2 s3 s4 s5 s6 s7 : Sl}, 0 ≤ at'' → at'' ≤ (n : Int) + 1 → k4_law_dip (exOf [Sl.lst a [D.lst (iD cells), D.int at', D.int left], dI m] Xd) (endsOf [Sl.lst a [D.lst (iD cells), D.int at', D.int left], dI m] Qd) [Sl.lst a [D.lst (iD cells), D.int at'', D.int left''], dI m, s2, s3, s4, s5, s6, s7] := by
    intro at'' left'' s2 s3 s4 s5 s6 s7 z0 z1
    refine q4_law_dip z0 z1 hm0 hm1 fun r ds' env r0 r1 hj => ?_
    trivial
    exact hQ _ _ _ r0 r1 hj
  split
  · unfold i3_law_dip
    trivial
    refine ⟨cmul64 (by omega) (by omega) (by omega) (by omega), ?_⟩
    split
    · rename_i hl
      refine ⟨hl, ?_⟩
      have z0 := Int.emod_nonneg at' (b := ((iD cells).length : Int)) (by omega)
      have z1 := Int.emod_lt_of_pos at' hl
      generalize at' % ((iD cells).length : Int) = j at z0 z1
      rw [List.length_map] at z1
      have hj : j.toNat < cells.length := by omega
      refine ⟨.int (cells[j.toNat]), atI_int z0 (by simp [List.getElem?_map, List.getElem?_eq_getElem hj]), ?_⟩
      exact q1_law_dip h0 (by omega) fun _ _ _ _ => k2 (by omega) (by omega)
    · exact q1_law_dip h0 (by omega) fun _ _ _ _ => k2 (by omega) (by omega)
  · exact k2 h0 (by omega)
end LS
namespace LS
open PySem L2 HD PM
local macro_rules | `(tactic| trivial) => `(tactic| try simp -dsimp only [↓sSeq, ↓sIf, ↓sRet, ↓retD_ext, ↓retD_lst, ↓retD_al, ↓sSet, ↓sSetE, ↓sAsg, ↓sDrop, ↓sNext, ↓sFor, ↓sRetN, ↓sCont, ↓sBreak, ↓dTest, ↓dOp, ↓dVar_w, ↓dC, ↓dCons, ↓dNil, ↓dTup, ↓dLst, ↓frzDs, ↓frzD_ext, ↓frzD_lst, ↓frzD_al, ↓wd_ext, ↓wd_lst, ↓wd_al, ↓wds, ↓AtS_ext, ↓AtS_lst, ↓AtL, ↓fAdd, ↓fSub, ↓fMul, ↓fDiv, ↓fMod, ↓fPow, ↓fCmp, ↓fIn, ↓fEq_ii, ↓fEq_ss, ↓fEq_bb, ↓fEq_tt, ↓fEq_ll, ↓fNe_ii, ↓fNe_ss, ↓fNe_bb, ↓fNe_tt, ↓fNe_ll, ↓fIx_l, ↓fIx_t, ↓fIx_k, ↓fIx_f, ↓GetS_some, ↓NatS_some, ↓fSl, ↓fIsN, ↓fNotN, ↓D.knN, ↓dNot, ↓dAnd, ↓dOr, ↓dAndV_w, ↓dOrV_w, ↓dNotV, ↓dIf, ↓dNeg, ↓dChain_w, ↓BlS_bl, ↓dCall_w, ↓dCallJ_w, ↓anyAl, ↓frozs, ↓froz, ↓gSet, ↓gTupD, ↓gsCons, ↓gsNil, ↓dSeq, ↓seqD_tup, ↓seqD_elst, ↓seqD_lst, ↓seqD_al, ↓dRange1, ↓dRange2, ↓dZip, ↓dCB, ↓dLc, ↓dYes, ↓dNoPart, ↓dPart, ↓dSl, ↓fLen, ↓fMin, ↓fMax, ↓fSum, ↓fAll, ↓fAny, ↓fSorted, ↓fTuple, ↓fList, ↓dRg1, ↓dRg2, ↓dLstRg, ↓dTupRg, ↓dIndex, ↓fIdx, ↓dAppend_w, ↓dExtend_w, ↓extD_lst, ↓dPopAt_w, ↓popD_int, ↓dPop_w, ↓mutD_w, ↓sSetItem_w, ↓setD_int, ↓dSortSet, ↓dTable_w, ↓wipeE, finals1, finals2, finals3, finals4, finals5, finals6, fin1_ext, fin1_lst, List.getElem?_cons_zero, List.getElem?_cons_succ, List.getElem?_nil, List.set_cons_zero, List.set_cons_succ, List.cons_append, List.nil_append, List.append_nil, List.replicate_succ, List.replicate_zero, List.map_cons, List.map_nil, List.length_cons, List.length_nil, true_and, and_true, ite_true, ite_false, if_true, if_false, Bool.false_eq_true, decide_eq_true_eq, Sl.plain, D.isSq, eq_self_iff_true, forall_const, reduceIte, true_or, or_true, atI_0, atI_1, atI_2, atI_3, ixN_0, ixN_1, ixN_2, AtS_ext, AtS_lst, FzS_lst, FzS_ext, GetS_some, NatS_some, ↓fIsi1, ↓fIsi2, BoolS_some, HD.kb_non_tuple, HD.kb_non_list, HD.kb_non_bool, HD.kb_non_int, HD.kb_non_str, HD.kb_bl_tuple, HD.kb_bl_list, HD.kb_bl_bool, HD.kb_bl_int, HD.kb_bl_str, HD.kb_int_tuple, HD.kb_int_list, HD.kb_int_bool, HD.kb_int_int, HD.kb_int_str, HD.kb_str_tuple, HD.kb_str_list, HD.kb_str_bool, HD.kb_str_int, HD.kb_str_str, HD.kb_lst_tuple, HD.kb_lst_list, HD.kb_lst_bool, HD.kb_lst_int, HD.kb_lst_str, HD.kb_tup_tuple, HD.kb_tup_list, HD.kb_tup_bool, HD.kb_tup_int, HD.kb_tup_str, ↓sFz_w, ↓FzS_lst, ↓FzS_ext, ↓dSortSetL, ↓fAbs, ↓fInt, ↓fRepr, ↓fLtT, ↓sRaise, ↓sTryKeep, ↓dCallV_w, ↓dMeth, ↓fCount, ↓fSplit])
def sp_law_word : DSpec := fun args Q _ => ∃ (n : Nat) (a : Addr) (ds : List D), args = [.lst a ds] ∧ JarOk n ds ∧ n < 4294967296 ∧ ∀ (w : Wd) ds' fin, JarOk (n + 1) ds' → Q (dW w) (.lst a ds' :: fin)
def t_law_word : DTS :=
    (sRet (dOp fIx (dLst (dCons (dC (.str (Str.ofString "sum"))) (dCons (dC (.str (Str.ofString "most"))) (dCons (dC (.str (Str.ofString "least"))) (dCons (dC (.str (Str.ofString "wide"))) (dCons (dC (.str (Str.ofString "any"))) dNil)))))) (dCallJ sp_law_dip 0 (dCons (dC (.int 5)) dNil))))
theorem m_law_word : Meets t_law_word 1 0 sp_law_word := by
  rintro args Qd Xd ⟨n, a, ds, rfl, hj, hn, hQ⟩
  show t_law_word _ _ [_]
  unfold t_law_word
  trivial
  refine ⟨by decide, fun a' => ⟨n, a, ds, 5, rfl, hj, hn, by decide, by decide, fun r ds' fin r0 r1 hj' => ?_⟩⟩
  trivial
  have h : r = 0 ∨ r = 1 ∨ r = 2 ∨ r = 3 ∨ r = 4 := by omega
  rcases h with rfl | rfl | rfl | rfl | rfl
  · refine ⟨_, rfl, ?_⟩
    trivial
    exact hQ .sum _ _ hj'
  · refine ⟨_, rfl, ?_⟩
    trivial
    exact hQ .most _ _ hj'
  · refine ⟨_, rfl, ?_⟩
    trivial
    exact hQ .least _ _ hj'
  · refine ⟨_, rfl, ?_⟩
    trivial
    exact hQ .wide _ _ hj'
  · refine ⟨_, rfl, ?_⟩
    trivial
    exact hQ .any _ _ hj'
def NumOk (w : Wd) (i : Int) : Prop := -1000000000000 ≤ i ∧ i ≤ 1000000000000 ∧ (w = .any → 0 ≤ i ∧ i ≤ 1)
def sp_law_number : DSpec := fun args Q _ => ∃ (n : Nat) (a : Addr) (ds : List D) (w : Wd), args = [.lst a ds, dW w] ∧ JarOk n ds ∧ n + 1 < 4294967296 ∧ ∀ (i : Int) ds' fin, NumOk w i → JarOk (n + 2) ds' → Q (dI i) (.lst a ds' :: fin)
def t_law_number : DTS :=
    (sSeq (sIf (dTest (dOp fEq (dVar 1) (dC (.str (Str.ofString "any"))))) (sRet (dCallJ sp_law_dip 0 (dCons (dC (.int 2)) dNil))) sNext)
    (sSeq (sSetE 2 (dCallJ sp_law_dip 0 (dCons (dC (.int 6)) dNil)))
    (sSeq (sIf (dTest (dOp fEq (dVar 2) (dC (.int 0)))) (sRet (dOp fIx (dLst (dCons (dOp fPow (dC (.int 10)) (dC (.int 12))) (dCons (dOp fSub (dC (.int 0)) (dOp fPow (dC (.int 10)) (dC (.int 12)))) (dCons (dOp fSub (dOp fPow (dC (.int 10)) (dC (.int 12))) (dC (.int 1))) (dCons (dC (.int 0)) dNil))))) (dCallJ sp_law_dip 0 (dCons (dC (.int 4)) dNil)))) sNext)
    (sSeq (sIf (dTest (dOp (fCmp fun i j => decide (i < j)) (dVar 2) (dC (.int 4)))) (sRet (dOp fSub (dCallJ sp_law_dip 0 (dCons (dC (.int 7)) dNil)) (dC (.int 3)))) sNext)
    (sRet (dOp fSub (dCallJ sp_law_dip 0 (dCons (dC (.int 2001)) dNil)) (dC (.int 1000))))))))
theorem m_law_number : Meets t_law_number 2 1 sp_law_number := by
  rintro args Qd Xd ⟨n, a, ds, w, rfl, hj, hn, hQ⟩
  show t_law_number _ _ [_, _, .un]
  unfold t_law_number
  trivial
  simp only [w_any, decide_eq_true_eq]
  split
  · rename_i hw
    refine ⟨n, a, ds, 2, rfl, hj, by omega, by decide, by decide, fun r ds' fin r0 r1 hj' => ?_⟩
    trivial
    exact hQ _ _ _ ⟨by omega, by omega, fun _ => by omega⟩ (hj'.up (by omega))
  · rename_i hw
    refine ⟨n, a, ds, 6, rfl, hj, by omega, by decide, by decide, fun r ds' fin r0 r1 hj' => ?_⟩
    trivial
    have c10 : CPow 10 12 := ⟨by decide, by decide, by decide⟩
    split
    · refine ⟨c10, c10, c10, by decide, fun b => ⟨n + 1, a, ds', 4, rfl, hj', by omega, by decide, by decide, fun r' ds'' fin' r0' r1' hj'' => ?_⟩⟩
      trivial
      have h : r' = 0 ∨ r' = 1 ∨ r' = 2 ∨ r' = 3 := by omega
      rcases h with rfl | rfl | rfl | rfl
      all_goals
        refine ⟨_, rfl, ?_⟩
        trivial
        exact hQ _ _ _ ⟨by decide, by decide, fun e => absurd e hw⟩ hj''
    · split
      · refine ⟨n + 1, a, ds', 7, rfl, hj', by omega, by decide, by decide, fun r' ds'' fin' r0' r1' hj'' => ?_⟩
        trivial
        exact hQ _ _ _ ⟨by omega, by omega, fun e => absurd e hw⟩ hj''
      · refine ⟨n + 1, a, ds', 2001, rfl, hj', by omega, by decide, by decide, fun r' ds'' fin' r0' r1' hj'' => ?_⟩
        trivial
        exact hQ _ _ _ ⟨by omega, by omega, fun e => absurd e hw⟩ hj''
def sp_law_times : DSpec := fun args Q _ => ∃ l : List Nat, (args = [.ext (.lst (nD l))] ∨ args = [.ext (.tup (nD l))]) ∧ (∀ x ∈ l, 0 < x) ∧ prodN l < 2 ^ 60 ∧ ∀ fin, Q (dI (prodN l : Nat)) fin
def b1_law_times : DTS :=
    (sSetE 1 (dOp fMul (dVar 1) (dVar 2)))
def k2_law_times : DTS :=
    (sRet (dVar 1))
def t_law_times : DTS :=
    (sSeq (sSetE 1 (dC (.int 1)))
    (sSeq (sFor (dSeq (dVar 0)) (gSet 2) b1_law_times)
    k2_law_times))
theorem prodN_pos {l : List Nat} (h : ∀ x ∈ l, 0 < x) : 0 < prodN l := by
  induction l with
  | nil => exact Nat.one_pos
  | cons x l ih => exact Nat.mul_pos (h x List.mem_cons_self) (ih fun y hy => h y (List.mem_cons_of_mem _ hy))
theorem q1_law_times {Ex : DX} {E : DEnds} {s0 : Sl} (l : List Nat) : ∀ (acc : Nat) (s2 : Sl), 0 < acc → (∀ x ∈ l, 0 < x) → acc * prodN l < 2 ^ 60 → (∀ u, E.nx [s0, dI (acc * prodN l : Nat), u]) →
    forD (gSet 2) b1_law_times (fun _ => True) Ex E (nD l) [s0, dI (acc : Nat), s2] := by
  induction l with
  | nil =>
    intro acc s2 _ _ _ hE
    refine ⟨True.intro, ?_⟩
    have := hE s2
    simpa [prodN] using this
  | cons x l ih =>
    intro acc s2 hz hp hb hE
    have hx := hp x List.mem_cons_self
    have hl := prodN_pos fun y hy => hp y (List.mem_cons_of_mem _ hy)
    have e : acc * prodN (x :: l) = acc * x * prodN l := by rw [prodN, Nat.mul_assoc]
    have hax : acc * x < 2 ^ 60 := Nat.lt_of_le_of_lt (Nat.le_mul_of_pos_right _ hl) (e ▸ hb)
    have ha : acc < 2 ^ 60 := Nat.lt_of_le_of_lt (Nat.le_mul_of_pos_right _ hx) hax
    have hx2 : x < 2 ^ 60 := Nat.lt_of_le_of_lt (Nat.le_mul_of_pos_left _ hz) hax
    rw [nD_cons, forD]
    unfold b1_law_times
    trivial
    refine ⟨cmulN (a := 60) (b := 60) (by simpa using ha) (by simpa using hx2) (by decide), ?_⟩
    have := ih (acc * x) (dI (x : Nat)) (Nat.mul_pos hz hx) (fun y hy => hp y (List.mem_cons_of_mem _ hy)) (e ▸ hb) (fun u => e ▸ hE u)
    rw [Int.natCast_mul] at this
    exact this
theorem m_law_times : Meets t_law_times 1 2 sp_law_times := by
  rintro args Qd Xd ⟨l, h, hp, hb, hQ⟩
  rcases h with rfl | rfl
  all_goals
    show t_law_times _ _ [_, .un, .un]
    unfold t_law_times
    trivial
    refine q1_law_times l 1 .un (by decide) hp (by rw [Nat.one_mul]; exact hb) fun u => ?_
    unfold k2_law_times
    trivial
    rw [Nat.one_mul]
    exact hQ _
structure SzOk (S : List Nat) : Prop where
  pos : ∀ s ∈ S, 0 < s
  few : S.length ≤ 24
  prod : prodN S ≤ 4096
  small : ∀ s ∈ S, s ≤ 4
abbrev dSz (S : List Nat) : Sl := .ext (.tup (nD S))
def sp_law_sizes : DSpec := fun args Q _ => ∃ (n : Nat) (a : Addr) (ds : List D) (most roof : Nat), args = [.lst a ds, dI (most : Nat), dI (roof : Nat)] ∧ JarOk n ds ∧ n + 64 < 4294967296 ∧ 0 < most ∧ most ≤ 24 ∧ 0 < roof ∧ roof ≤ 4096 ∧
  ∀ (S : List Nat) ds' fin, SzOk S → 0 < S.length → S.length ≤ most → prodN S ≤ roof → JarOk (n + 64) ds' → Q (dSz S) (.lst a ds' :: fin)
def b1_law_sizes : DTS :=
    (sSeq (sSetE 5 (dOp fIx (dLst (dCons (dC (.int 1)) (dCons (dC (.int 2)) (dCons (dC (.int 2)) (dCons (dC (.int 3)) (dCons (dC (.int 4)) dNil)))))) (dCallJ sp_law_dip 0 (dCons (dC (.int 5)) dNil))))
    (sDrop (dAppend 3 (dIf (dTest (dOp (fCmp fun i j => decide (i ≤ j)) (dOp fMul (dCall sp_law_times (dCons (dVar 3) dNil)) (dVar 5)) (dVar 2))) (dVar 5) (dC (.int 1))))))
def k2_law_sizes : DTS :=
    (sRet (dCB fTuple (dCons (dVar 3) dNil)))
def t_law_sizes : DTS :=
    (sSeq (sSet 3 (dLst dNil))
    (sSeq (sFor (dRange1 (dCons (dOp fAdd (dC (.int 1)) (dCallJ sp_law_dip 0 (dCons (dVar 1) dNil))) dNil)) (gSet 4) b1_law_sizes)
    k2_law_sizes))
theorem prodN_append (a b : List Nat) : prodN (a ++ b) = prodN a * prodN b := by
  induction a with
  | nil => simp [prodN]
  | cons x a ih => rw [List.cons_append, prodN, ih, prodN, Nat.mul_assoc]
theorem q1_law_sizes {Ex : DX} {E : DEnds} {a a2 : Addr} {s1 : Sl} {roof : Nat} (hr : 0 < roof) (hr' : roof ≤ 4096) (items : List D) : ∀ (n : Nat) (ds : List D) (S : List Nat) (s4 s5 : Sl), JarOk n ds → n + items.length < 4294967296 → (∀ s ∈ S, 0 < s ∧ s ≤ 4) → prodN S ≤ roof → S.length + items.length ≤ 24 →
    (∀ ds' S' u4 u5, JarOk (n + items.length) ds' → (∀ s ∈ S', 0 < s ∧ s ≤ 4) → prodN S' ≤ roof → S'.length = S.length + items.length → E.nx [.lst a ds', s1, dI (roof : Nat), .lst a2 (nD S'), u4, u5]) →
    forD (gSet 4) b1_law_sizes (fun _ => True) Ex E items [.lst a ds, s1, dI (roof : Nat), .lst a2 (nD S), s4, s5] := by
  induction items with
  | nil =>
    intro n ds S s4 s5 hj hn hs hp hl hE
    exact ⟨True.intro, hE _ _ _ _ hj hs hp rfl⟩
  | cons x items ih =>
    intro n ds S s4 s5 hj hn hs hp hl hE
    rw [List.length_cons] at hn hl
    rw [forD]
    unfold b1_law_sizes
    trivial
    refine ⟨by decide, fun b => ⟨n, a, ds, 5, rfl, hj, by omega, by decide, by decide, fun r ds' fin r0 r1 hj' => ?_⟩⟩
    trivial
    have fin' : ∀ s : Nat, 0 < s → s ≤ 4 → prodN S * s ≤ roof → ∀ u5, forD (gSet 4) b1_law_sizes (fun _ => True) Ex E items [.lst a ds', s1, dI (roof : Nat), .lst a2 (nD (S ++ [s])), .ext x, u5] := by
      intro s h0 h4 hps u5
      refine ih (n + 1) ds' (S ++ [s]) _ _ hj' (by omega) ?_ ?_ (by rw [List.length_append, List.length_singleton]; omega) ?_
      · intro y hy
        rcases List.mem_append.1 hy with h | h
        · exact hs y h
        · rw [List.mem_singleton.1 h]; exact ⟨h0, h4⟩
      · rw [prodN_append]; simpa [prodN] using hps
      · intro ds'' S' u4 u5' hj2 hs2 hp2 hl2
        refine hE _ _ _ _ (by rw [List.length_cons]; exact hj2.up (by omega)) hs2 hp2 ?_
        rw [hl2, List.length_append, List.length_singleton, List.length_cons]; omega
    obtain ⟨z, h0, h4, hz⟩ : ∃ z : Nat, 0 < z ∧ z ≤ 4 ∧ atI [D.int 1, D.int 2, D.int 2, D.int 3, D.int 4] r = some (D.int (z : Nat)) := by
      have h : r = 0 ∨ r = 1 ∨ r = 2 ∨ r = 3 ∨ r = 4 := by omega
      rcases h with rfl | rfl | rfl | rfl | rfl
      · exact ⟨1, by decide, by decide, rfl⟩
      · exact ⟨2, by decide, by decide, rfl⟩
      · exact ⟨2, by decide, by decide, rfl⟩
      · exact ⟨3, by decide, by decide, rfl⟩
      · exact ⟨4, by decide, by decide, rfl⟩
    refine ⟨_, hz, ?_⟩
    trivial
    refine ⟨S, .inl rfl, fun y hy => (hs y hy).1, by omega, fun fin2 => ?_⟩
    trivial
    refine ⟨.inr rfl, cmulN (a := 60) (b := 60) (by rw [Int.natAbs_natCast]; omega) (by rw [Int.natAbs_natCast]; omega) (by decide), ?_⟩
    split
    · rename_i hle
      have := fin' z h0 h4 (by exact_mod_cast hle) (dI (z : Nat))
      rw [nD_app] at this
      exact ⟨by rw [nD_len]; exact Nat.lt_of_le_of_lt (by omega : S.length ≤ 24) (by decide), this⟩
    · have := fin' 1 (by decide) (by decide) (by omega) (dI (z : Nat))
      rw [nD_app] at this
      exact ⟨by rw [nD_len]; exact Nat.lt_of_le_of_lt (by omega : S.length ≤ 24) (by decide), this⟩
theorem m_law_sizes : Meets t_law_sizes 3 3 sp_law_sizes := by
  rintro args Qd Xd ⟨n, a, ds, most, roof, rfl, hj, hn, hm0, hm1, hr0, hr1, hQ⟩
  show t_law_sizes _ _ [_, _, _, .un, .un, .un]
  unfold t_law_sizes
  trivial
  refine ⟨by decide, fun a2 => ⟨n, a, ds, most, rfl, hj, by omega, by omega, by omega, fun r ds' fin r0 r1 hj' => ?_⟩⟩
  trivial
  refine ⟨⟨by omega, by omega⟩, ?_⟩
  have hlen : (rgD 0 (1 + r)).length = 1 + r.toNat := by
    simp only [rgD, List.length_map, List.length_range]; omega
  refine q1_law_sizes (S := []) hr0 hr1 _ (n + 1) ds' _ _ hj' (by omega) (by simp) (show 1 ≤ roof from hr0) (by simp; omega) fun ds2 S2 u4 u5 hj2 hs2 hp2 hl2 => ?_
  unfold k2_law_sizes
  trivial
  have hl3 : S2.length = 1 + r.toNat := by rw [hl2, hlen]; simp
  exact hQ S2 _ _ ⟨fun s hs => (hs2 s hs).1, by omega, by omega, fun s hs => (hs2 s hs).2⟩ (by omega) (by omega) hp2 (hj2.up (by omega))
end LS
namespace LS
open PySem L2 HD PM
local macro_rules | `(tactic| trivial) => `(tactic| try simp -dsimp only [↓sSeq, ↓sIf, ↓sRet, ↓retD_ext, ↓retD_lst, ↓retD_al, ↓sSet, ↓sSetE, ↓sAsg, ↓sDrop, ↓sNext, ↓sFor, ↓sRetN, ↓sCont, ↓sBreak, ↓dTest, ↓dOp, ↓dVar_w, ↓dC, ↓dCons, ↓dNil, ↓dTup, ↓dLst, ↓frzDs, ↓frzD_ext, ↓frzD_lst, ↓frzD_al, ↓wd_ext, ↓wd_lst, ↓wd_al, ↓wds, ↓AtS_ext, ↓AtS_lst, ↓AtL, ↓fAdd, ↓fSub, ↓fMul, ↓fDiv, ↓fMod, ↓fPow, ↓fCmp, ↓fIn, ↓fEq_ii, ↓fEq_ss, ↓fEq_bb, ↓fEq_tt, ↓fEq_ll, ↓fNe_ii, ↓fNe_ss, ↓fNe_bb, ↓fNe_tt, ↓fNe_ll, ↓fIx_l, ↓fIx_t, ↓fIx_k, ↓fIx_f, ↓GetS_some, ↓NatS_some, ↓fSl, ↓fIsN, ↓fNotN, ↓D.knN, ↓dNot, ↓dAnd, ↓dOr, ↓dAndV_w, ↓dOrV_w, ↓dNotV, ↓dIf, ↓dNeg, ↓dChain_w, ↓BlS_bl, ↓dCall_w, ↓dCallJ_w, ↓anyAl, ↓frozs, ↓froz, ↓gSet, ↓gTupD, ↓gsCons, ↓gsNil, ↓dSeq, ↓seqD_tup, ↓seqD_elst, ↓seqD_lst, ↓seqD_al, ↓dRange1, ↓dRange2, ↓dZip, ↓dCB, ↓dLc, ↓dYes, ↓dNoPart, ↓dPart, ↓dSl, ↓fLen, ↓fMin, ↓fMax, ↓fSum, ↓fAll, ↓fAny, ↓fSorted, ↓fTuple, ↓fList, ↓dRg1, ↓dRg2, ↓dLstRg, ↓dTupRg, ↓dIndex, ↓fIdx, ↓dAppend_w, ↓dExtend_w, ↓extD_lst, ↓dPopAt_w, ↓popD_int, ↓dPop_w, ↓mutD_w, ↓sSetItem_w, ↓setD_int, ↓dSortSet, ↓dTable_w, ↓wipeE, finals1, finals2, finals3, finals4, finals5, finals6, fin1_ext, fin1_lst, List.getElem?_cons_zero, List.getElem?_cons_succ, List.getElem?_nil, List.set_cons_zero, List.set_cons_succ, List.cons_append, List.nil_append, List.append_nil, List.replicate_succ, List.replicate_zero, List.map_cons, List.map_nil, List.length_cons, List.length_nil, true_and, and_true, ite_true, ite_false, if_true, if_false, Bool.false_eq_true, decide_eq_true_eq, Sl.plain, D.isSq, eq_self_iff_true, forall_const, reduceIte, true_or, or_true, atI_0, atI_1, atI_2, atI_3, ixN_0, ixN_1, ixN_2, AtS_ext, AtS_lst, FzS_lst, FzS_ext, GetS_some, NatS_some, ↓fIsi1, ↓fIsi2, BoolS_some, HD.kb_non_tuple, HD.kb_non_list, HD.kb_non_bool, HD.kb_non_int, HD.kb_non_str, HD.kb_bl_tuple, HD.kb_bl_list, HD.kb_bl_bool, HD.kb_bl_int, HD.kb_bl_str, HD.kb_int_tuple, HD.kb_int_list, HD.kb_int_bool, HD.kb_int_int, HD.kb_int_str, HD.kb_str_tuple, HD.kb_str_list, HD.kb_str_bool, HD.kb_str_int, HD.kb_str_str, HD.kb_lst_tuple, HD.kb_lst_list, HD.kb_lst_bool, HD.kb_lst_int, HD.kb_lst_str, HD.kb_tup_tuple, HD.kb_tup_list, HD.kb_tup_bool, HD.kb_tup_int, HD.kb_tup_str, ↓sFz_w, ↓FzS_lst, ↓FzS_ext, ↓dSortSetL, ↓fAbs, ↓fInt, ↓fRepr, ↓fLtT, ↓sRaise, ↓sTryKeep, ↓dCallV_w, ↓dMeth, ↓fCount, ↓fSplit])
def sp_law_some : DSpec := fun args Q _ => ∃ (n : Nat) (a : Addr) (ds : List D) (many most : Nat), args = [.lst a ds, dI (many : Nat), dI (most : Nat)] ∧ JarOk n ds ∧ n + 64 < 4294967296 ∧ many ≤ 60 ∧ most ≤ 60 ∧
  ∀ (ns : List Nat) ds' fin, Rising ns → (∀ x ∈ ns, x < many) → ns.length ≤ most → JarOk (n + 64) ds' → Q (.ext (.tup (nD ns))) (.lst a ds' :: fin)
def b1_law_some : DTS :=
    (sIf (dTest (dOp (fCmp fun i j => decide (j < i)) (dCB fLen (dCons (dVar 3) dNil)) (dC (.int 0)))) (sDrop (dAppend 4 (dPopAt 3 (dCallJ sp_law_dip 0 (dCons (dCB fLen (dCons (dVar 3) dNil)) dNil))))) sNext)
def k2_law_some : DTS :=
    (sRet (dCB fTuple (dCons (dCB fSorted (dCons (dVar 4) dNil)) dNil)))
def t_law_some : DTS :=
    (sSeq (sSet 3 (dLstRg (dRg1 (dVar 1))))
    (sSeq (sSet 4 (dLst dNil))
    (sSeq (sFor (dRange1 (dCons (dCallJ sp_law_dip 0 (dCons (dOp fAdd (dVar 2) (dC (.int 1))) dNil)) dNil)) (gSet 5) b1_law_some)
    k2_law_some)))
theorem erase_perm {α : Type} (l : List α) : ∀ {i : Nat} (h : i < l.length), (l[i] :: l.eraseIdx i).Perm l := by
  induction l with
  | nil => intro i h; simp at h
  | cons x l ih =>
    intro i h
    cases i with
    | zero => exact .refl _
    | succ i =>
      have := ih (i := i) (by simpa using h)
      simp only [List.getElem_cons_succ, List.eraseIdx_cons_succ]
      exact (List.Perm.swap _ _ _).trans (List.Perm.cons x this)
theorem map_erase {α β : Type} (f : α → β) (l : List α) : ∀ i, (l.eraseIdx i).map f = (l.map f).eraseIdx i := by
  induction l with
  | nil => intro i; rfl
  | cons x l ih =>
    intro i
    cases i with
    | zero => rfl
    | succ i => simp only [List.eraseIdx_cons_succ, List.map_cons, ih]
theorem q1_law_some {Ex : DX} {E : DEnds} {a a2 a3 : Addr} {s1 s2 : Sl} {many : Nat} (items : List D) : ∀ (n : Nat) (ds : List D) (L Fd : List Nat) (s5 : Sl), JarOk n ds → n + items.length < 4294967296 → (L ++ Fd).Nodup → (∀ x ∈ L ++ Fd, x < many) → (L.length ≤ 60) → Fd.length + items.length ≤ 100 →
    (∀ ds' L' Fd' u5, JarOk (n + items.length) ds' → Fd'.Nodup → (∀ x ∈ Fd', x < many) → Fd'.length ≤ Fd.length + items.length → E.nx [.lst a ds', s1, s2, .lst a2 (nD L'), .lst a3 (nD Fd'), u5]) →
    forD (gSet 5) b1_law_some (fun _ => True) Ex E items [.lst a ds, s1, s2, .lst a2 (nD L), .lst a3 (nD Fd), s5] := by
  induction items with
  | nil =>
    intro n ds L Fd s5 hj hn hd hm hL hl hE
    exact ⟨True.intro, hE _ _ _ _ hj (List.nodup_append.1 hd).2.1 (fun x hx => hm x (List.mem_append_right _ hx)) (Nat.le_refl _)⟩
  | cons x items ih =>
    intro n ds L Fd s5 hj hn hd hm hL hl hE
    rw [List.length_cons] at hn hl
    rw [forD]
    unfold b1_law_some
    trivial
    rw [nD_len]
    split
    · rename_i h0
      have hL0 : 0 < L.length := by omega
      refine ⟨n, a, ds, (L.length : Int), rfl, hj, by omega, by omega, by omega, fun r ds' fin r0 r1 hj' => ?_⟩
      trivial
      have hr : r.toNat < L.length := by omega
      refine ⟨r0, by omega, .int (L[r.toNat] : Nat), by simp [List.getElem?_map, List.getElem?_eq_getElem hr], ?_⟩
      trivial
      refine ⟨by rw [nD_len]; exact Nat.lt_of_le_of_lt (by omega : Fd.length ≤ 100) (by decide), ?_⟩
      have pm : (L.eraseIdx r.toNat ++ (Fd ++ [L[r.toNat]])).Perm (L ++ Fd) := by
        have p1 := erase_perm L hr
        have p2 : (L.eraseIdx r.toNat ++ (Fd ++ [L[r.toNat]])).Perm (L[r.toNat] :: (L.eraseIdx r.toNat ++ Fd)) := by
          rw [← List.append_assoc]
          exact List.perm_append_singleton _ _
        exact p2.trans ((List.Perm.append_right Fd p1))
      have := ih (n + 1) ds' (L.eraseIdx r.toNat) (Fd ++ [L[r.toNat]]) (.ext x) hj' (by omega) (pm.nodup_iff.2 hd) (fun y hy => hm y (pm.mem_iff.1 hy)) (Nat.le_trans (List.length_eraseIdx_le _ _) hL)
        (by rw [List.length_append, List.length_singleton]; omega) fun ds2 L2 Fd2 u5 hj2 h2 h3 h4 => hE _ _ _ _ (by rw [List.length_cons]; exact hj2.up (by omega)) h2 h3 (by rw [List.length_append, List.length_singleton] at h4; rw [List.length_cons]; omega)
      rw [nD_app] at this
      have e : nD (L.eraseIdx r.toNat) = (nD L).eraseIdx r.toNat := map_erase _ _ _
      rw [e] at this
      exact this
    · exact ih n ds L Fd _ hj (by omega) hd hm hL (by omega) fun ds2 L2 Fd2 u5 hj2 h2 h3 h4 => hE _ _ _ _ (by rw [List.length_cons]; exact hj2.up (by omega)) h2 h3 (by rw [List.length_cons]; omega)
theorem rgD_nat (n : Nat) : rgD 0 (n : Int) = nD (List.range n) := by
  unfold rgD
  simp
theorem nat_of_ints {l : List Nat} {ns : List Int} (h : ns.Perm (l.map fun n : Nat => (n : Int))) : ∃ l' : List Nat, ns = l'.map (fun n : Nat => (n : Int)) ∧ l'.Perm l := by
  have h1 : ∀ x ∈ ns, 0 ≤ x := by
    intro x hx
    obtain ⟨y, _, rfl⟩ := List.mem_map.1 (h.mem_iff.1 hx)
    omega
  have e : ns = (ns.map Int.toNat).map fun n : Nat => (n : Int) := by
    rw [List.map_map]
    conv => lhs; rw [← List.map_id ns]
    refine List.map_congr_left fun x hx => ?_
    have := h1 x hx
    simp; omega
  refine ⟨ns.map Int.toNat, e, ?_⟩
  have := h.map Int.toNat
  rw [List.map_map] at this
  have e2 : l.map (Int.toNat ∘ fun n : Nat => (n : Int)) = l := by
    conv => rhs; rw [← List.map_id l]
    exact List.map_congr_left fun x _ => by simp
  rwa [e2] at this
theorem iD_nat (l : List Nat) : iD (l.map fun n : Nat => (n : Int)) = nD l := by simp [iD, nD]
theorem rising_of {l : List Nat} (h : (l.map fun n : Nat => (n : Int)).Pairwise (· ≤ ·)) (hn : l.Nodup) : Rising l := by
  rw [List.pairwise_map] at h
  exact (List.pairwise_and_iff.2 ⟨h, hn⟩).imp fun ⟨h1, h2⟩ => by
    have : _ ≠ _ := h2
    omega
theorem m_law_some : Meets t_law_some 3 3 sp_law_some := by
  rintro args Qd Xd ⟨n, a, ds, many, most, rfl, hj, hn, hm0, hm1, hQ⟩
  show t_law_some _ _ [_, _, _, .un, .un, .un]
  unfold t_law_some
  trivial
  refine ⟨RgOk.of_le (by omega) (by omega) (by omega) (by omega), fun a2 => ⟨by decide, fun a3 => ⟨n, a, ds, (most : Int) + 1, rfl, hj, by omega, by omega, by omega, fun r ds' fin r0 r1 hj' => ?_⟩⟩⟩
  trivial
  refine ⟨⟨by omega, by omega⟩, ?_⟩
  rw [rgD_nat]
  have hlen : (rgD 0 r).length = r.toNat := by simp [rgD]
  refine q1_law_some (many := many) _ (n + 1) ds' (List.range many) [] _ hj' (by omega) (by simpa using List.nodup_range) (by simp) (by simpa using hm0) (by simp; omega) fun ds2 L2 Fd2 u5 hj2 hd2 hm2 hl2 => ?_
  unfold k2_law_some
  trivial
  refine ⟨Fd2.map fun n : Nat => (n : Int), (iD_nat _).symm, fun ns' hp hw => ?_⟩
  obtain ⟨l, rfl, hl⟩ := nat_of_ints hp
  rw [show List.map D.int (List.map (fun n : Nat => (n : Int)) l) = nD l from iD_nat l]
  exact hQ l _ _ (rising_of hw (hl.nodup_iff.2 hd2)) (fun x hx => hm2 x (hl.mem_iff.1 hx)) (by rw [hl.length_eq]; simp at hl2; omega) (hj2.up (by omega))
abbrev dP (p : Part) : D := .tup [.tup (nD p.ns), .tup (iD p.ws)]
theorem psz_le {S ns : List Nat} (hS : ∀ s ∈ S, 0 < s) (h : Rising ns) (hl : ∀ n ∈ ns, n < S.length) : psz S ns ≤ prodN S := by
  have e : ns = (List.range S.length).filter fun n => decide (n ∈ ns) := by
    refine rising_ext h (List.Pairwise.filter _ List.pairwise_lt_range) fun n => ?_
    simp only [List.mem_filter, List.mem_range, decide_eq_true_eq]
    exact ⟨fun hn => ⟨hl n hn, hn⟩, fun hn => hn.2⟩
  have sub : ns.Sublist (List.range S.length) := by rw [e]; exact List.filter_sublist
  have e2 : (List.range S.length).map (sz S) = S := by
    refine List.ext_getElem? fun i => ?_
    rw [List.getElem?_map]
    by_cases hi : i < S.length
    · simp [List.getElem?_range hi, sz, List.getD_eq_getElem?_getD, List.getElem?_eq_getElem hi]
    · rw [List.getElem?_eq_none (by simpa using hi), List.getElem?_eq_none (by omega)]; rfl
  have sub2 : (ns.map (sz S)).Sublist S := by have := sub.map (sz S); rwa [e2] at this
  have gen : ∀ {a b : List Nat}, a.Sublist b → (∀ s ∈ b, 0 < s) → prodN a ≤ prodN b := by
    intro a b hs
    induction hs with
    | slnil => intro _; exact Nat.le_refl _
    | cons x h ih =>
      intro hb
      have h1 := ih fun s hs => hb s (List.mem_cons_of_mem _ hs)
      exact Nat.le_trans h1 (Nat.le_mul_of_pos_left _ (hb x List.mem_cons_self))
    | cons_cons x h ih =>
      intro hb
      exact Nat.mul_le_mul_left _ (ih fun s hs => hb s (List.mem_cons_of_mem _ hs))
  exact gen sub2 hS
theorem sz_mem {S : List Nat} {n : Nat} (h : n < S.length) : sz S n ∈ S := by
  unfold sz
  rw [List.getD_eq_getElem?_getD, List.getElem?_eq_getElem h]
  exact List.getElem_mem h
theorem sz_at {S : List Nat} {n : Nat} (h : n < S.length) : (nD S)[n]? = some (.int (sz S n : Nat)) := by
  unfold sz
  simp [List.getElem?_map, List.getD_eq_getElem?_getD, List.getElem?_eq_getElem h]
theorem rising_len {ns : List Nat} {m : Nat} (h : Rising ns) (hl : ∀ n ∈ ns, n < m) : ns.length ≤ m := by
  have e : ns = (List.range m).filter fun n => decide (n ∈ ns) := by
    refine rising_ext h (List.Pairwise.filter _ List.pairwise_lt_range) fun n => ?_
    simp only [List.mem_filter, List.mem_range, decide_eq_true_eq]
    exact ⟨fun hn => ⟨hl n hn, hn⟩, fun hn => hn.2⟩
  rw [e]
  have := List.length_filter_le (fun n => decide (n ∈ ns)) (List.range m)
  simpa using this
def NumsOk (w : Wd) (p : Part) : Prop := ∀ x ∈ p.ws, NumOk w x
def sp_law_part : DSpec := fun args Q _ => ∃ (n : Nat) (a : Addr) (ds : List D) (w : Wd) (S : List Nat) (most : Nat), args = [.lst a ds, dW w, dSz S, dI (most : Nat)] ∧ JarOk n ds ∧ n + 10000 < 4294967296 ∧ SzOk S ∧ most ≤ 60 ∧
  ∀ (p : Part) ds' fin, p.Ok S → NumsOk w p → p.ns.length ≤ most → JarOk (n + 10000) ds' → Q (.ext (dP p)) (.lst a ds' :: fin)
def e1_law_part : DT :=
    (dOp fIx (dVar 2) (dVar 6))
def e2_law_part : DT :=
    (dCallJ sp_law_number 0 (dCons (dVar 1) dNil))
def t_law_part : DTS :=
    (sSeq (sSetE 4 (dCallJ sp_law_some 0 (dCons (dCB fLen (dCons (dVar 2) dNil)) (dCons (dVar 3) dNil))))
    (sSeq (sSetE 5 (dCall sp_law_times (dCons (dLc (dSeq (dVar 4)) (gSet 6) dYes e1_law_part [6]) dNil)))
    (sRet (dTup (dCons (dVar 4) (dCons (dCB fTuple (dCons (dLc (dRange1 (dCons (dVar 5) dNil)) (gSet 7) dYes e2_law_part [7]) dNil)) dNil))))))
theorem q1_law_part {s0 s1 s3 s4 s5 s7 : Sl} {S : List Nat} {Q : Sl → Env' → Prop} (ns : List Nat) : ∀ (acc : List Nat), (∀ n ∈ ns, n < S.length) → acc.length + ns.length ≤ 100 → (∀ b, Q (.lst b (nD (acc ++ ns.map (sz S)))) [s0, s1, dSz S, s3, s4, s5, .un, s7]) →
    lcD (gSet 6) dYes e1_law_part [6] (fun _ => True) Q (nD ns) (nD acc) [s0, s1, dSz S, s3, s4, s5, .un, s7] := by
  induction ns with
  | nil =>
    intro acc _ _ hQ
    exact ⟨True.intro, fun b => by simpa using hQ b⟩
  | cons x ns ih =>
    intro acc hl hn hQ
    rw [List.length_cons] at hn
    rw [nD_cons, lcD]
    unfold e1_law_part
    trivial
    refine ⟨by rw [nD_len]; exact Nat.lt_of_le_of_lt (by omega : acc.length ≤ 100) (by decide), ?_⟩
    refine ⟨_, atN (sz_at (hl x List.mem_cons_self)), ?_⟩
    trivial
    have := ih (acc ++ [sz S x]) (fun n hn => hl n (List.mem_cons_of_mem _ hn)) (by rw [List.length_append, List.length_singleton]; omega) (fun b => by simpa using hQ b)
    rw [nD_app] at this
    exact this
theorem q2_law_part {a : Addr} {w : Wd} {s2 s3 s4 s5 s6 : Sl} {Q : Sl → Env' → Prop} (items : List D) : ∀ (n : Nat) (ds : List D) (acc : List Int), JarOk n ds → n + 2 * items.length + 1 < 4294967296 → acc.length + items.length ≤ 5000 → (∀ x ∈ acc, NumOk w x) →
    (∀ b ds' ws, JarOk (n + 2 * items.length) ds' → (∀ x ∈ ws, NumOk w x) → ws.length = acc.length + items.length → Q (.lst b (iD ws)) [.lst a ds', dW w, s2, s3, s4, s5, s6, .un]) →
    lcD (gSet 7) dYes e2_law_part [7] (fun _ => True) Q items (iD acc) [.lst a ds, dW w, s2, s3, s4, s5, s6, .un] := by
  induction items with
  | nil =>
    intro n ds acc hj _ _ hx hQ
    exact ⟨True.intro, fun b => hQ b _ _ hj hx rfl⟩
  | cons x items ih =>
    intro n ds acc hj hn hl hx hQ
    rw [List.length_cons] at hn hl
    rw [lcD]
    unfold e2_law_part
    trivial
    refine ⟨by rw [iD_len]; exact Nat.lt_of_le_of_lt (by omega : acc.length ≤ 5000) (by decide), n, a, ds, w, rfl, hj, by omega, fun i ds' fin hi hj' => ?_⟩
    trivial
    have := ih (n + 2) ds' (acc ++ [i]) hj' (by omega) (by rw [List.length_append, List.length_singleton]; omega) (fun y hy => by
      rcases List.mem_append.1 hy with h | h
      · exact hx y h
      · rw [List.mem_singleton.1 h]; exact hi) (fun b ds2 ws hj2 h2 h3 => hQ b ds2 ws (by rw [List.length_cons]; exact hj2.up (by omega)) h2 (by rw [h3, List.length_append, List.length_singleton, List.length_cons]; omega))
    rw [iD_app] at this
    exact this
theorem m_law_part : Meets t_law_part 4 4 sp_law_part := by
  rintro args Qd Xd ⟨n, a, ds, w, S, most, rfl, hj, hn, hS, hm, hQ⟩
  show t_law_part _ _ [_, _, _, _, .un, .un, .un, .un]
  unfold t_law_part
  trivial
  have := hS.few
  refine ⟨n, a, ds, S.length, most, by rw [nD_len], hj, by omega, by omega, hm, fun ns ds' fin hr hl hlen hj' => ?_⟩
  trivial
  refine q1_law_part (S := S) ns [] hl (by have := rising_len hr hl; simp; omega) fun b => ?_
  trivial
  have hp := psz_le hS.pos hr hl
  have hp4 := hS.prod
  refine ⟨ns.map (sz S), .inl rfl, fun x hx => ?_, ?_, fun fin2 => ?_⟩
  · obtain ⟨y, hy, rfl⟩ := List.mem_map.1 hx
    exact hS.pos _ (sz_mem (hl y hy))
  · exact Nat.lt_of_le_of_lt hp (by omega)
  trivial
  have hlen2 : (rgD 0 ((prodN (ns.map (sz S)) : Nat) : Int)).length = psz S ns := by simp [rgD, psz]
  refine ⟨⟨by have : prodN (ns.map (sz S)) = psz S ns := rfl; omega, by have : prodN (ns.map (sz S)) = psz S ns := rfl; omega⟩, ?_⟩
  refine q2_law_part (w := w) _ (n + 64) ds' [] hj' (by rw [hlen2]; omega) (by rw [hlen2]; simp; omega) (by simp) fun b ds2 ws hj2 hx2 hl2 => ?_
  trivial
  rw [hlen2] at hj2 hl2
  exact ⟨by decide, hQ ⟨ns, ws⟩ _ _ ⟨hr, hl, by simpa using hl2⟩ hx2 hlen (hj2.up (by omega))⟩
end LS
namespace LS
open PySem L2 HD PM
local macro_rules | `(tactic| trivial) => `(tactic| try simp -dsimp only [↓sSeq, ↓sIf, ↓sRet, ↓retD_ext, ↓retD_lst, ↓retD_al, ↓sSet, ↓sSetE, ↓sAsg, ↓sDrop, ↓sNext, ↓sFor, ↓sRetN, ↓sCont, ↓sBreak, ↓dTest, ↓dOp, ↓dVar_w, ↓dC, ↓dCons, ↓dNil, ↓dTup, ↓dLst, ↓frzDs, ↓frzD_ext, ↓frzD_lst, ↓frzD_al, ↓wd_ext, ↓wd_lst, ↓wd_al, ↓wds, ↓AtS_ext, ↓AtS_lst, ↓AtL, ↓fAdd, ↓fSub, ↓fMul, ↓fDiv, ↓fMod, ↓fPow, ↓fCmp, ↓fIn, ↓fEq_ii, ↓fEq_ss, ↓fEq_bb, ↓fEq_tt, ↓fEq_ll, ↓fNe_ii, ↓fNe_ss, ↓fNe_bb, ↓fNe_tt, ↓fNe_ll, ↓fIx_l, ↓fIx_t, ↓fIx_k, ↓fIx_f, ↓GetS_some, ↓NatS_some, ↓fSl, ↓fIsN, ↓fNotN, ↓D.knN, ↓dNot, ↓dAnd, ↓dOr, ↓dAndV_w, ↓dOrV_w, ↓dNotV, ↓dIf, ↓dNeg, ↓dChain_w, ↓BlS_bl, ↓dCall_w, ↓dCallJ_w, ↓anyAl, ↓frozs, ↓froz, ↓gSet, ↓gTupD, ↓gsCons, ↓gsNil, ↓dSeq, ↓seqD_tup, ↓seqD_elst, ↓seqD_lst, ↓seqD_al, ↓dRange1, ↓dRange2, ↓dZip, ↓dCB, ↓dLc, ↓dYes, ↓dNoPart, ↓dPart, ↓dSl, ↓fLen, ↓fMin, ↓fMax, ↓fSum, ↓fAll, ↓fAny, ↓fSorted, ↓fTuple, ↓fList, ↓dRg1, ↓dRg2, ↓dLstRg, ↓dTupRg, ↓dIndex, ↓fIdx, ↓dAppend_w, ↓dExtend_w, ↓extD_lst, ↓dPopAt_w, ↓popD_int, ↓dPop_w, ↓mutD_w, ↓sSetItem_w, ↓setD_int, ↓dSortSet, ↓dTable_w, ↓wipeE, finals1, finals2, finals3, finals4, finals5, finals6, fin1_ext, fin1_lst, List.getElem?_cons_zero, List.getElem?_cons_succ, List.getElem?_nil, List.set_cons_zero, List.set_cons_succ, List.cons_append, List.nil_append, List.append_nil, List.replicate_succ, List.replicate_zero, List.map_cons, List.map_nil, List.length_cons, List.length_nil, true_and, and_true, ite_true, ite_false, if_true, if_false, Bool.false_eq_true, decide_eq_true_eq, Sl.plain, D.isSq, eq_self_iff_true, forall_const, reduceIte, true_or, or_true, atI_0, atI_1, atI_2, atI_3, ixN_0, ixN_1, ixN_2, AtS_ext, AtS_lst, FzS_lst, FzS_ext, GetS_some, NatS_some, ↓fIsi1, ↓fIsi2, BoolS_some, HD.kb_non_tuple, HD.kb_non_list, HD.kb_non_bool, HD.kb_non_int, HD.kb_non_str, HD.kb_bl_tuple, HD.kb_bl_list, HD.kb_bl_bool, HD.kb_bl_int, HD.kb_bl_str, HD.kb_int_tuple, HD.kb_int_list, HD.kb_int_bool, HD.kb_int_int, HD.kb_int_str, HD.kb_str_tuple, HD.kb_str_list, HD.kb_str_bool, HD.kb_str_int, HD.kb_str_str, HD.kb_lst_tuple, HD.kb_lst_list, HD.kb_lst_bool, HD.kb_lst_int, HD.kb_lst_str, HD.kb_tup_tuple, HD.kb_tup_list, HD.kb_tup_bool, HD.kb_tup_int, HD.kb_tup_str, ↓sFz_w, ↓FzS_lst, ↓FzS_ext, ↓dSortSetL, ↓fAbs, ↓fInt, ↓fRepr, ↓fLtT, ↓sRaise, ↓sTryKeep, ↓dCallV_w, ↓dMeth, ↓fCount, ↓fSplit])
abbrev fD (fs : List (List Nat)) : List D := fs.map fun f => D.tup (nD f)
theorem fD_cons (f : List Nat) (fs : List (List Nat)) : fD (f :: fs) = D.tup (nD f) :: fD fs := rfl
theorem fD_app (a b : List (List Nat)) : fD (a ++ b) = fD a ++ fD b := List.map_append
theorem fD_len (a : List (List Nat)) : (fD a).length = a.length := List.length_map _
def SqN (l : List Nat) (Z : D) : Prop := Z = .tup (nD l) ∨ Z = .lst (nD l)
def FArgs (S ns : List Nat) (args : List Sl) : Prop := ∃ Z W, args = [.ext Z, .ext W] ∧ SqN S Z ∧ SqN ns W
theorem fArgs_tt {S ns : List Nat} : FArgs S ns [dSz S, .ext (.tup (nD ns))] := ⟨_, _, rfl, .inl rfl, .inl rfl⟩
theorem ix_sq {S : List Nat} {Z : D} {n : Nat} {Q : Sl → Prop} (hZ : SqN S Z) (hn : n < S.length) (q : Q (dI (sz S n : Nat))) : fIx Z (.int (n : Nat)) Q := by
  rcases hZ with rfl | rfl
  · exact ⟨_, atN (sz_at hn), q⟩
  · exact ⟨_, atN (sz_at hn), q⟩
def sp_fillings_of : DSpec := fun args Q _ => ∃ (S ns : List Nat), FArgs S ns args ∧ (∀ n ∈ ns, n < S.length ∧ 0 < sz S n) ∧ psz S ns ≤ 4096 ∧ ns.length ≤ 100 ∧ ∀ fin, Q (.ext (.lst (fD (fills S ns)))) fin
def e1_fillings_of : DT :=
    (dOp fAdd (dVar 5) (dTup (dCons (dVar 6) dNil)))
def b2_fillings_of : DTS :=
    (sDrop (dExtend 4 (dLc (dRange1 (dCons (dOp fIx (dVar 0) (dVar 3)) dNil)) (gSet 6) dYes e1_fillings_of [6])))
def k3_fillings_of : DTS :=
    (sSetE 2 (dVar 4))
def b4_fillings_of : DTS :=
    (sSeq (sSet 4 (dLst dNil))
    (sSeq (sFor (dSeq (dVar 2)) (gSet 5) b2_fillings_of)
    k3_fillings_of))
def k5_fillings_of : DTS :=
    (sRet (dVar 2))
def t_fillings_of : DTS :=
    (sSeq (sSetE 2 (dLst (dCons (dTup dNil) dNil)))
    (sSeq (sFor (dSeq (dVar 1)) (gSet 3) b4_fillings_of)
    k5_fillings_of))
theorem q1_fillings_of {Q : Sl → Env' → Prop} {s0 s1 s2 s3 s4 : Sl} {f : List Nat} (hf : f.length ≤ 1000) (ws : List Nat) : ∀ (acc : List D), acc.length + ws.length ≤ 5000 → (∀ b, Q (.lst b (acc ++ fD (ws.map fun w => f ++ [w]))) [s0, s1, s2, s3, s4, .ext (.tup (nD f)), .un]) →
    lcD (gSet 6) dYes e1_fillings_of [6] (fun _ => True) Q (nD ws) acc [s0, s1, s2, s3, s4, .ext (.tup (nD f)), .un] := by
  induction ws with
  | nil => intro acc _ hQ; exact ⟨True.intro, fun b => by simpa using hQ b⟩
  | cons w ws ih =>
    intro acc hl hQ
    rw [List.length_cons] at hl
    rw [nD_cons, lcD]
    unfold e1_fillings_of
    trivial
    refine ⟨Nat.lt_of_le_of_lt (by omega : acc.length ≤ 5000) (by decide), by decide, by rw [nD_len]; exact Nat.le_trans (by omega : f.length + (0 + 1) ≤ 2000) (by decide), ?_⟩
    have := ih (acc ++ [.tup (nD (f ++ [w]))]) (by rw [List.length_append, List.length_singleton]; omega) (fun b => by simpa using hQ b)
    rw [nD_app] at this
    exact this
theorem q2_fillings_of {Ex : DX} {E : DEnds} {S : List Nat} {Z : D} {s1 s2 : Sl} {a4 : Addr} {n : Nat} (hZ : SqN S Z) (hn : n < S.length) (fs : List (List Nat)) : ∀ (A : List (List Nat)) (s5 : Sl), (∀ f ∈ fs, f.length ≤ 1000) → A.length + fs.length * sz S n ≤ 5000 → sz S n ≤ 5000 →
    (∀ u5, E.nx [.ext Z, s1, s2, dI (n : Nat), .lst a4 (fD (A ++ fs.flatMap fun f => (List.range (sz S n)).map fun w => f ++ [w])), u5, .un]) →
    forD (gSet 5) b2_fillings_of (fun _ => True) Ex E (fD fs) [.ext Z, s1, s2, dI (n : Nat), .lst a4 (fD A), s5, .un] := by
  induction fs with
  | nil => intro A s5 _ _ _ hE; exact ⟨True.intro, by simpa using hE s5⟩
  | cons f fs ih =>
    intro A s5 hf hl hz hE
    rw [List.length_cons, Nat.add_mul, Nat.one_mul] at hl
    rw [fD_cons, forD]
    unfold b2_fillings_of
    trivial
    refine ix_sq hZ hn ?_
    trivial
    refine ⟨⟨by omega, by omega⟩, ?_⟩
    rw [rgD_nat]
    refine q1_fillings_of (hf f List.mem_cons_self) _ [] (by simpa using hz) fun b => ?_
    trivial
    refine ⟨?_, ?_⟩
    · rw [fD_len, fD_len, List.length_map, List.length_range]
      exact Nat.le_trans (by omega : A.length + sz S n ≤ 10000) (by decide)
    have := ih (A ++ (List.range (sz S n)).map fun w => f ++ [w]) (.ext (.tup (nD f))) (fun g hg => hf g (List.mem_cons_of_mem _ hg)) (by rw [List.length_append, List.length_map, List.length_range]; omega) hz (fun u5 => by simpa using hE u5)
    rw [fD_app] at this
    exact this
theorem fills_step {S : List Nat} (fs : List (List Nat)) (n : Nat) (ns : List Nat) :
    ((fs.flatMap fun f => (List.range (sz S n)).map fun w => f ++ [w]).flatMap fun f => (fills S ns).map (f ++ ·)) = fs.flatMap fun f => (fills S (n :: ns)).map (f ++ ·) := by
  rw [List.flatMap_assoc]
  congr 1
  funext f
  rw [fills, List.map_flatMap, List.flatMap_map]
  congr 1
  funext w
  rw [List.map_map]
  exact List.map_congr_left fun g _ => by simp
theorem q3_fillings_of {Ex : DX} {E : DEnds} {S : List Nat} {Z : D} {s1 : Sl} (hZ : SqN S Z) (ns : List Nat) : ∀ (fs : List (List Nat)) (k : Nat) (s3 s4 s5 : Sl), (∀ n ∈ ns, n < S.length ∧ 0 < sz S n) → fs.length * psz S ns ≤ 4096 → (∀ f ∈ fs, f.length = k) → k + ns.length ≤ 1000 →
    (∀ u3 u4 u5, E.nx [.ext Z, s1, .ext (.lst (fD (fs.flatMap fun f => (fills S ns).map (f ++ ·)))), u3, u4, u5, .un]) →
    forD (gSet 3) b4_fillings_of (fun _ => True) Ex E (nD ns) [.ext Z, s1, .ext (.lst (fD fs)), s3, s4, s5, .un] := by
  induction ns with
  | nil =>
    intro fs k s3 s4 s5 _ _ _ _ hE
    have := hE s3 s4 s5
    simp only [fills, List.map_cons, List.map_nil, List.append_nil] at this
    have e : fs.flatMap (fun f => [f]) = fs := by simp
    rw [e] at this
    exact ⟨True.intro, this⟩
  | cons n ns ih =>
    intro fs k s3 s4 s5 hn hb hk hl hE
    rw [List.length_cons] at hl
    obtain ⟨hn1, hn2⟩ := hn n List.mem_cons_self
    have hpos : 0 < psz S ns := prodN_pos fun x hx => by
      obtain ⟨y, hy, rfl⟩ := List.mem_map.1 hx
      exact (hn y (List.mem_cons_of_mem _ hy)).2
    have e : psz S (n :: ns) = sz S n * psz S ns := rfl
    rw [e, ← Nat.mul_assoc] at hb
    have hb2 : fs.length * sz S n ≤ 4096 := Nat.le_trans (Nat.le_mul_of_pos_right _ hpos) hb
    rw [nD_cons, forD]
    unfold b4_fillings_of
    trivial
    refine ⟨by decide, fun a4 => ?_⟩
    by_cases hz : fs = []
    · subst hz
      refine ⟨True.intro, ?_⟩
      unfold k3_fillings_of
      trivial
      exact ih [] (k + 1) _ _ _ (fun m hm => hn m (List.mem_cons_of_mem _ hm)) (by simp) (by simp) (by omega) (fun u3 u4 u5 => by simpa using hE u3 u4 u5)
    have hfl : 0 < fs.length := List.length_pos_iff.2 hz
    have hs : sz S n ≤ 5000 := Nat.le_trans (Nat.le_mul_of_pos_left _ hfl) (by omega)
    refine q2_fillings_of (a4 := a4) hZ hn1 fs [] _ (fun f hf => by rw [hk f hf]; omega) (by simp; omega) hs fun u5 => ?_
    unfold k3_fillings_of
    trivial
    refine ih _ (k + 1) _ _ _ (fun m hm => hn m (List.mem_cons_of_mem _ hm)) ?_ ?_ (by omega) (fun u3 u4 u5 => by rw [fills_step]; exact hE u3 u4 u5)
    · have el : (fs.flatMap fun f => (List.range (sz S n)).map fun w => f ++ [w]).length = fs.length * sz S n := by
        clear ih hb hk hE hz hfl hb2
        induction fs with
        | nil => simp
        | cons f fs ihf => rw [List.flatMap_cons, List.length_append, ihf]; simp [Nat.add_mul, Nat.add_comm]
      rw [el]; exact hb
    · intro f hf
      obtain ⟨g, hg, hf2⟩ := List.mem_flatMap.1 hf
      obtain ⟨w, _, rfl⟩ := List.mem_map.1 hf2
      rw [List.length_append, hk g hg]; rfl
theorem m_fillings_of : Meets t_fillings_of 2 5 sp_fillings_of := by
  rintro args Qd Xd ⟨S, ns, ⟨Z, W, rfl, hZ, hW⟩, hn, hb, hl, hQ⟩
  show t_fillings_of _ _ [_, _, .un, .un, .un, .un, .un]
  unfold t_fillings_of
  have e : ([[]].flatMap fun f => (fills S ns).map (f ++ ·)) = fills S ns := by simp
  rcases hW with rfl | rfl
  all_goals
    trivial
    refine ⟨by decide, by decide, ?_⟩
    refine q3_fillings_of hZ ns [[]] 0 _ _ _ hn (by simpa using hb) (by simp) (by omega) fun u3 u4 u5 => ?_
    unfold k5_fillings_of
    trivial
    rw [e]
    exact hQ _
def sp_law_fillings : DSpec := sp_fillings_of
def e1_law_fillings : DT :=
    (dOp fAdd (dVar 5) (dTup (dCons (dVar 6) dNil)))
def b2_law_fillings : DTS :=
    (sDrop (dExtend 4 (dLc (dRange1 (dCons (dOp fIx (dVar 0) (dVar 3)) dNil)) (gSet 6) dYes e1_law_fillings [6])))
def k3_law_fillings : DTS :=
    (sSetE 2 (dVar 4))
def b4_law_fillings : DTS :=
    (sSeq (sSet 4 (dLst dNil))
    (sSeq (sFor (dSeq (dVar 2)) (gSet 5) b2_law_fillings)
    k3_law_fillings))
def k5_law_fillings : DTS :=
    (sRet (dVar 2))
def t_law_fillings : DTS :=
    (sSeq (sSetE 2 (dLst (dCons (dTup dNil) dNil)))
    (sSeq (sFor (dSeq (dVar 1)) (gSet 3) b4_law_fillings)
    k5_law_fillings))
theorem m_law_fillings : Meets t_law_fillings 2 5 sp_law_fillings := m_fillings_of
def sp_place_of : DSpec := fun args Q _ => ∃ (S ns ws : List Nat) (W : D), args = [dSz S, .ext (.tup (nD ns)), .ext W] ∧ (W = .lst (nD ws) ∨ W = .tup (nD ws)) ∧ (∀ n ∈ ns, n < S.length ∧ 0 < sz S n) ∧ Good S ns ws ∧ psz S ns ≤ 4096 ∧ ∀ fin, Q (dI (pl S 0 ns ws : Nat)) fin
def b1_place_of : DTS :=
    (sSetE 3 (dOp fAdd (dOp fMul (dVar 3) (dOp fIx (dVar 0) (dVar 4))) (dVar 5)))
def k2_place_of : DTS :=
    (sRet (dVar 3))
def t_place_of : DTS :=
    (sSeq (sSetE 3 (dC (.int 0)))
    (sSeq (sFor (dZip (dVar 1) (dVar 2)) (gTupD 2 (gsCons (gSet 4) (gsCons (gSet 5) gsNil))) b1_place_of)
    k2_place_of))
theorem zip_pairs (ns ws : List Nat) : ((nD ns).zip (nD ws)).map (fun p => D.tk [p.1, p.2]) = (ns.zip ws).map fun p => D.tk [.int (p.1 : Nat), .int (p.2 : Nat)] := by
  induction ns generalizing ws with
  | nil => rfl
  | cons n ns ih =>
    cases ws with
    | nil => rfl
    | cons w ws => simp only [nD_cons, List.zip_cons_cons, List.map_cons, ih]
theorem q1_place_of {Ex : DX} {E : DEnds} {S : List Nat} {s1 s2 : Sl} {keep : Env' → Prop} (hk : ∀ e, keep e) (ns : List Nat) : ∀ (ws : List Nat) (acc : Nat) (s4 s5 : Sl), (∀ n ∈ ns, n < S.length ∧ 0 < sz S n) → Good S ns ws → (acc + 1) * psz S ns ≤ 4096 →
    (∀ u4 u5, E.nx [dSz S, s1, s2, dI (pl S acc ns ws : Nat), u4, u5]) →
    forD (gTupD 2 (gsCons (gSet 4) (gsCons (gSet 5) gsNil))) b1_place_of keep Ex E ((ns.zip ws).map fun p => D.tk [.int (p.1 : Nat), .int (p.2 : Nat)]) [dSz S, s1, s2, dI (acc : Nat), s4, s5] := by
  induction ns with
  | nil =>
    intro ws acc s4 s5 _ hg _ hE
    have e : ws = [] := hg
    subst e
    exact ⟨hk _, hE s4 s5⟩
  | cons n ns ih =>
    intro ws acc s4 s5 hn hg hb hE
    obtain ⟨w, r, rfl, hw, hr⟩ := hg
    obtain ⟨hn1, hn2⟩ := hn n List.mem_cons_self
    have hpos : 0 < psz S ns := prodN_pos fun x hx => by
      obtain ⟨y, hy, rfl⟩ := List.mem_map.1 hx
      exact (hn y (List.mem_cons_of_mem _ hy)).2
    have e : psz S (n :: ns) = sz S n * psz S ns := rfl
    rw [e, ← Nat.mul_assoc] at hb
    have hb2 : (acc + 1) * sz S n ≤ 4096 := Nat.le_trans (Nat.le_mul_of_pos_right _ hpos) hb
    have hb3 : acc + 1 ≤ 4096 := Nat.le_trans (Nat.le_mul_of_pos_right _ hn2) hb2
    have hb4 : sz S n ≤ 4096 := Nat.le_trans (Nat.le_mul_of_pos_left _ (by omega)) hb2
    have hb5 : (acc * sz S n + w + 1) ≤ (acc + 1) * sz S n := by rw [Nat.add_mul]; omega
    rw [List.zip_cons_cons, List.map_cons, forD]
    unfold b1_place_of
    trivial
    refine ⟨hk _, ⟨_, atN (sz_at hn1), ?_⟩⟩
    trivial
    refine ⟨cmul64 (by omega) (by omega) (by omega) (by omega), ?_⟩
    have := ih r (acc * sz S n + w) (dI (n : Nat)) (dI (w : Nat)) (fun m hm => hn m (List.mem_cons_of_mem _ hm)) hr (Nat.le_trans (Nat.mul_le_mul_right _ hb5) hb) hE
    rw [Int.natCast_add, Int.natCast_mul] at this
    exact this
theorem m_place_of : Meets t_place_of 3 3 sp_place_of := by
  rintro args Qd Xd ⟨S, ns, ws, W, rfl, hW, hn, hg, hb, hQ⟩
  show t_place_of _ _ [_, _, _, .un, .un, .un]
  unfold t_place_of
  rcases hW with rfl | rfl
  all_goals
    trivial
    rw [zip_pairs]
    refine q1_place_of (fun _ => by trivial) ns ws 0 _ _ hn hg (by simpa using hb) fun u4 u5 => ?_
    unfold k2_place_of
    trivial
    exact hQ _
def sp_law_look : DSpec := fun args Q _ => ∃ (S : List Nat) (p : Part) (g : List Nat), args = [dSz S, .ext (dP p), .ext (.lst (nD g))] ∧ SzOk S ∧ p.Ok S ∧ g.length = S.length ∧ (∀ n ∈ p.ns, g.getD n 0 < sz S n) ∧ ∀ fin, Q (dI (val S p fun n => g.getD n 0)) fin
def b1_law_look : DTS :=
    (sSetE 3 (dOp fAdd (dOp fMul (dVar 3) (dOp fIx (dVar 0) (dVar 4))) (dOp fIx (dVar 2) (dVar 4))))
def k2_law_look : DTS :=
    (sRet (dOp fIx (dOp fIx (dVar 1) (dC (.int 1))) (dVar 3)))
def t_law_look : DTS :=
    (sSeq (sSetE 3 (dC (.int 0)))
    (sSeq (sFor (dSeq (dOp fIx (dVar 1) (dC (.int 0)))) (gSet 4) b1_law_look)
    k2_law_look))
theorem getD_at {g : List Nat} {n : Nat} (h : n < g.length) : (nD g)[n]? = some (.int (g.getD n 0 : Nat)) := by
  simp [List.getElem?_map, List.getD_eq_getElem?_getD, List.getElem?_eq_getElem h]
theorem q1_law_look {Ex : DX} {E : DEnds} {S g : List Nat} {s1 : Sl} (hl : g.length = S.length) (ns : List Nat) : ∀ (acc : Nat) (s4 : Sl), (∀ n ∈ ns, n < S.length ∧ 0 < sz S n) → (∀ n ∈ ns, g.getD n 0 < sz S n) → (acc + 1) * psz S ns ≤ 4096 →
    (∀ u4, E.nx [dSz S, s1, .ext (.lst (nD g)), dI (pl S acc ns (ns.map fun n => g.getD n 0) : Nat), u4]) →
    forD (gSet 4) b1_law_look (fun _ => True) Ex E (nD ns) [dSz S, s1, .ext (.lst (nD g)), dI (acc : Nat), s4] := by
  induction ns with
  | nil => intro acc s4 _ _ _ hE; exact ⟨True.intro, hE s4⟩
  | cons n ns ih =>
    intro acc s4 hn hg hb hE
    obtain ⟨hn1, hn2⟩ := hn n List.mem_cons_self
    have hw := hg n List.mem_cons_self
    have hpos : 0 < psz S ns := prodN_pos fun x hx => by
      obtain ⟨y, hy, rfl⟩ := List.mem_map.1 hx
      exact (hn y (List.mem_cons_of_mem _ hy)).2
    have e : psz S (n :: ns) = sz S n * psz S ns := rfl
    rw [e, ← Nat.mul_assoc] at hb
    have hb2 : (acc + 1) * sz S n ≤ 4096 := Nat.le_trans (Nat.le_mul_of_pos_right _ hpos) hb
    have hb3 : acc + 1 ≤ 4096 := Nat.le_trans (Nat.le_mul_of_pos_right _ hn2) hb2
    have hb4 : sz S n ≤ 4096 := Nat.le_trans (Nat.le_mul_of_pos_left _ (by omega)) hb2
    have hb5 : (acc * sz S n + g.getD n 0 + 1) ≤ (acc + 1) * sz S n := by rw [Nat.add_mul]; omega
    rw [nD_cons, forD]
    unfold b1_law_look
    trivial
    refine ⟨_, atN (sz_at hn1), ?_⟩
    trivial
    refine ⟨cmul64 (by omega) (by omega) (by omega) (by omega), _, atN (getD_at (by omega)), ?_⟩
    trivial
    have := ih (acc * sz S n + g.getD n 0) (dI (n : Nat)) (fun m hm => hn m (List.mem_cons_of_mem _ hm)) (fun m hm => hg m (List.mem_cons_of_mem _ hm)) (Nat.le_trans (Nat.mul_le_mul_right _ hb5) hb) hE
    rw [Int.natCast_add, Int.natCast_mul] at this
    exact this
theorem Part.Ok.both {S : List Nat} {p : Part} (hS : SzOk S) (hp : p.Ok S) : ∀ n ∈ p.ns, n < S.length ∧ 0 < sz S n := fun n hn => ⟨hp.lt n hn, hS.pos _ (sz_mem (hp.lt n hn))⟩
theorem Part.Ok.psz {S : List Nat} {p : Part} (hS : SzOk S) (hp : p.Ok S) : PM.psz S p.ns ≤ 4096 := Nat.le_trans (psz_le hS.pos hp.rise hp.lt) hS.prod
theorem iD_at {l : List Int} {i : Nat} {x : Int} (h : l[i]? = some x) : (iD l)[i]? = some (.int x) := by
  rw [List.getElem?_map, h]; rfl
theorem m_law_look : Meets t_law_look 3 2 sp_law_look := by
  rintro args Qd Xd ⟨S, p, g, rfl, hS, hp, hl, hg, hQ⟩
  show t_law_look _ _ [_, _, _, .un, .un]
  unfold t_law_look
  trivial
  refine q1_law_look hl p.ns 0 _ (Part.Ok.both hS hp) hg (by have := Part.Ok.psz hS hp; simpa using this) fun u4 => ?_
  unfold k2_law_look
  trivial
  refine ⟨_, atN (iD_at (val_at hp hg)), ?_⟩
  trivial
  exact hQ _
def sp_worth_by : DSpec := fun args Q _ => ∃ (S : List Nat) (p : Part) (U f : List Nat), args = [dSz S, .ext (dP p), .ext (.tup (nD U)), .ext (.tup (nD f))] ∧ SzOk S ∧ p.Ok S ∧ U.Nodup ∧ (∀ n ∈ p.ns, n ∈ U) ∧ Good S U f ∧ ∀ fin, Q (dI (val S p (ats U f))) fin
def e1_worth_by : DT :=
    (dOp fIx (dVar 3) (dIndex (dVar 2) (dVar 6)))
def t_worth_by : DTS :=
    (sSeq (sAsg (dVar 1) (gTupD 2 (gsCons (gSet 4) (gsCons (gSet 5) gsNil))))
    (sRet (dOp fIx (dVar 5) (dCall sp_place_of (dCons (dVar 0) (dCons (dVar 4) (dCons (dLc (dSeq (dVar 4)) (gSet 6) dYes e1_worth_by [6]) dNil)))))))
theorem idx_at {U : List Nat} {n : Nat} (h : n ∈ U) : D.at? (.int (n : Nat)) (nD U) = some (U.idxOf n) := by
  unfold D.at?
  induction U with
  | nil => cases h
  | cons u U ih =>
    rw [nD_cons, List.findIdx?_cons]
    by_cases e : u = n
    · subst e
      have : eqV (D.int (u : Nat)).toV (D.int (u : Nat)).toV = true := by simp [D.toV, eqV]
      rw [if_pos this]
      simp
    · have h' : n ∈ U := by
        rcases List.mem_cons.1 h with h | h
        · exact absurd h.symm e
        · exact h
      have : ¬ eqV (D.int (u : Nat)).toV (D.int (n : Nat)).toV = true := by
        simp [D.toV, eqV]; omega
      rw [if_neg this, ih h', List.idxOf_cons]
      have b : (u == n) = false := by simpa using e
      simp [b]
theorem q1_worth_by {Q : Sl → Env' → Prop} {s0 s1 s4 s5 : Sl} {U f : List Nat} (hf : f.length = U.length) (ns : List Nat) : ∀ (acc : List Nat), (∀ n ∈ ns, n ∈ U) → acc.length + ns.length ≤ 1000 →
    (∀ b, Q (.lst b (nD (acc ++ ns.map (ats U f)))) [s0, s1, .ext (.tup (nD U)), .ext (.tup (nD f)), s4, s5, .un]) →
    lcD (gSet 6) dYes e1_worth_by [6] (fun _ => True) Q (nD ns) (nD acc) [s0, s1, .ext (.tup (nD U)), .ext (.tup (nD f)), s4, s5, .un] := by
  induction ns with
  | nil => intro acc _ _ hQ; exact ⟨True.intro, fun b => by simpa using hQ b⟩
  | cons n ns ih =>
    intro acc hn hl hQ
    rw [List.length_cons] at hl
    have hi := List.idxOf_lt_length_of_mem (hn n List.mem_cons_self)
    rw [nD_cons, lcD]
    unfold e1_worth_by
    trivial
    refine ⟨by rw [nD_len]; exact Nat.lt_of_le_of_lt (by omega : acc.length ≤ 1000) (by decide), rfl, by simp [D.flat], U.idxOf n, idx_at (hn n List.mem_cons_self), ?_⟩
    refine ⟨_, atN (getD_at (g := f) (by omega)), ?_⟩
    trivial
    have := ih (acc ++ [ats U f n]) (fun m hm => hn m (List.mem_cons_of_mem _ hm)) (by rw [List.length_append, List.length_singleton]; omega) (fun b => by simpa using hQ b)
    rw [nD_app] at this
    exact this
theorem m_worth_by : Meets t_worth_by 4 3 sp_worth_by := by
  rintro args Qd Xd ⟨S, p, U, f, rfl, hS, hp, hU, hs, hg, hQ⟩
  show t_worth_by _ _ [_, _, _, _, .un, .un, .un]
  unfold t_worth_by
  trivial
  have hfit : Fit S p.ns (ats U f) := fun n hn => ats_lt hg (hs n hn)
  have hfew := rising_len hp.rise hp.lt
  have := hS.few
  refine q1_worth_by hg.len p.ns [] hs (by simp; omega) fun b => ?_
  trivial
  refine ⟨S, p.ns, p.ns.map (ats U f), _, rfl, .inl rfl, Part.Ok.both hS hp, good_map hfit, Part.Ok.psz hS hp, fun fin => ?_⟩
  trivial
  refine ⟨_, atN (iD_at (val_at hp hfit)), ?_⟩
  trivial
  exact hQ _
end LS
namespace LS
open PySem L2 HD PM
local macro_rules | `(tactic| trivial) => `(tactic| try simp -dsimp only [↓sSeq, ↓sIf, ↓sRet, ↓retD_ext, ↓retD_lst, ↓retD_al, ↓sSet, ↓sSetE, ↓sAsg, ↓sDrop, ↓sNext, ↓sFor, ↓sRetN, ↓sCont, ↓sBreak, ↓dTest, ↓dOp, ↓dVar_w, ↓dC, ↓dCons, ↓dNil, ↓dTup, ↓dLst, ↓frzDs, ↓frzD_ext, ↓frzD_lst, ↓frzD_al, ↓wd_ext, ↓wd_lst, ↓wd_al, ↓wds, ↓AtS_ext, ↓AtS_lst, ↓AtL, ↓fAdd, ↓fSub, ↓fMul, ↓fDiv, ↓fMod, ↓fPow, ↓fCmp, ↓fIn, ↓fEq_ii, ↓fEq_ss, ↓fEq_bb, ↓fEq_tt, ↓fEq_ll, ↓fNe_ii, ↓fNe_ss, ↓fNe_bb, ↓fNe_tt, ↓fNe_ll, ↓fIx_l, ↓fIx_t, ↓fIx_k, ↓fIx_f, ↓GetS_some, ↓NatS_some, ↓fSl, ↓fIsN, ↓fNotN, ↓D.knN, ↓dNot, ↓dAnd, ↓dOr, ↓dAndV_w, ↓dOrV_w, ↓dNotV, ↓dIf, ↓dNeg, ↓dChain_w, ↓BlS_bl, ↓dCall_w, ↓dCallJ_w, ↓anyAl, ↓frozs, ↓froz, ↓gSet, ↓gTupD, ↓gsCons, ↓gsNil, ↓dSeq, ↓seqD_tup, ↓seqD_elst, ↓seqD_lst, ↓seqD_al, ↓dRange1, ↓dRange2, ↓dZip, ↓dCB, ↓dLc, ↓dYes, ↓dNoPart, ↓dPart, ↓dSl, ↓fLen, ↓fMin, ↓fMax, ↓fSum, ↓fAll, ↓fAny, ↓fSorted, ↓fTuple, ↓fList, ↓dRg1, ↓dRg2, ↓dLstRg, ↓dTupRg, ↓dIndex, ↓fIdx, ↓dAppend_w, ↓dExtend_w, ↓extD_lst, ↓dPopAt_w, ↓popD_int, ↓dPop_w, ↓mutD_w, ↓sSetItem_w, ↓setD_int, ↓dSortSet, ↓dTable_w, ↓wipeE, finals1, finals2, finals3, finals4, finals5, finals6, fin1_ext, fin1_lst, List.getElem?_cons_zero, List.getElem?_cons_succ, List.getElem?_nil, List.set_cons_zero, List.set_cons_succ, List.cons_append, List.nil_append, List.append_nil, List.replicate_succ, List.replicate_zero, List.map_cons, List.map_nil, List.length_cons, List.length_nil, true_and, and_true, ite_true, ite_false, if_true, if_false, Bool.false_eq_true, decide_eq_true_eq, Sl.plain, D.isSq, eq_self_iff_true, forall_const, reduceIte, true_or, or_true, atI_0, atI_1, atI_2, atI_3, ixN_0, ixN_1, ixN_2, AtS_ext, AtS_lst, FzS_lst, FzS_ext, GetS_some, NatS_some, ↓fIsi1, ↓fIsi2, BoolS_some, HD.kb_non_tuple, HD.kb_non_list, HD.kb_non_bool, HD.kb_non_int, HD.kb_non_str, HD.kb_bl_tuple, HD.kb_bl_list, HD.kb_bl_bool, HD.kb_bl_int, HD.kb_bl_str, HD.kb_int_tuple, HD.kb_int_list, HD.kb_int_bool, HD.kb_int_int, HD.kb_int_str, HD.kb_str_tuple, HD.kb_str_list, HD.kb_str_bool, HD.kb_str_int, HD.kb_str_str, HD.kb_lst_tuple, HD.kb_lst_list, HD.kb_lst_bool, HD.kb_lst_int, HD.kb_lst_str, HD.kb_tup_tuple, HD.kb_tup_list, HD.kb_tup_bool, HD.kb_tup_int, HD.kb_tup_str, ↓sFz_w, ↓FzS_lst, ↓FzS_ext, ↓dSortSetL, ↓fAbs, ↓fInt, ↓fRepr, ↓fLtT, ↓sRaise, ↓sTryKeep, ↓dCallV_w, ↓dMeth, ↓fCount, ↓fSplit])
def MulOk (p q : Part) : Prop := ∀ x ∈ p.ws, ∀ y ∈ q.ws, CMulW x y
def sp_joined : DSpec := fun args Q _ => ∃ (w : Wd) (S : List Nat) (p q : Part), args = [dW w, dSz S, .ext (dP p), .ext (dP q)] ∧ SzOk S ∧ p.Ok S ∧ q.Ok S ∧ MulOk p q ∧ ∀ U fin, Uni U p.ns q.ns → Q (.ext (dP (joinP S (jn w) U p q))) fin
def b1_joined : DTS :=
    (sDrop (dAppend 5 (dCall sp_join (dCons (dVar 0) (dCons (dCall sp_worth_by (dCons (dVar 1) (dCons (dVar 2) (dCons (dVar 4) (dCons (dVar 6) dNil))))) (dCons (dCall sp_worth_by (dCons (dVar 1) (dCons (dVar 3) (dCons (dVar 4) (dCons (dVar 6) dNil))))) dNil))))))
def k2_joined : DTS :=
    (sRet (dTup (dCons (dVar 4) (dCons (dCB fTuple (dCons (dVar 5) dNil)) dNil))))
def t_joined : DTS :=
    (sSeq (sSetE 4 (dCB fTuple (dCons (dSortSet (dOp fAdd (dOp fIx (dVar 2) (dC (.int 0))) (dOp fIx (dVar 3) (dC (.int 0))))) dNil)))
    (sSeq (sSet 5 (dLst dNil))
    (sSeq (sFor (dSeq (dCall sp_fillings_of (dCons (dVar 1) (dCons (dVar 4) dNil)))) (gSet 6) b1_joined)
    k2_joined)))
theorem nat_of_set {l : List Nat} {ns : List Int} (hp : ns.Pairwise (· < ·)) (h : ∀ n : Int, n ∈ ns ↔ n ∈ l.map fun n : Nat => (n : Int)) : ∃ U : List Nat, ns = U.map (fun n : Nat => (n : Int)) ∧ Rising U ∧ ∀ n, n ∈ U ↔ n ∈ l := by
  have h1 : ∀ x ∈ ns, 0 ≤ x := by
    intro x hx
    obtain ⟨y, _, rfl⟩ := List.mem_map.1 ((h x).1 hx)
    omega
  have e : ns = (ns.map Int.toNat).map fun n : Nat => (n : Int) := by
    rw [List.map_map]
    conv => lhs; rw [← List.map_id ns]
    refine List.map_congr_left fun x hx => ?_
    have := h1 x hx
    simp; omega
  refine ⟨ns.map Int.toNat, e, ?_, fun n => ?_⟩
  · unfold Rising
    rw [e, List.pairwise_map] at hp
    exact hp.imp fun h => by omega
  · have : n ∈ ns.map Int.toNat ↔ (n : Int) ∈ ns := by
      rw [List.mem_map]
      constructor
      · rintro ⟨x, hx, rfl⟩
        have := h1 x hx
        rwa [Int.toNat_of_nonneg this]
      · intro hx
        exact ⟨_, hx, by simp⟩
    rw [this, h]
    constructor
    · intro hm
      obtain ⟨y, hy, e⟩ := List.mem_map.1 hm
      have : y = n := by omega
      exact this ▸ hy
    · exact fun hm => List.mem_map.2 ⟨n, hm, rfl⟩
theorem q1_joined {Ex : DX} {E : DEnds} {w : Wd} {S U : List Nat} {p q : Part} {a5 : Addr} (hS : SzOk S) (hp : p.Ok S) (hq : q.Ok S) (hm : MulOk p q) (hU : Uni U p.ns q.ns) (fs : List (List Nat)) : ∀ (acc : List Int) (s6 : Sl), (∀ f ∈ fs, Good S U f) → acc.length + fs.length ≤ 5000 →
    (∀ u6, E.nx [dW w, dSz S, .ext (dP p), .ext (dP q), .ext (.tup (nD U)), .lst a5 (iD (acc ++ fs.map fun f => jn w (val S p (ats U f)) (val S q (ats U f)))), u6]) →
    forD (gSet 6) b1_joined (fun _ => True) Ex E (fD fs) [dW w, dSz S, .ext (dP p), .ext (dP q), .ext (.tup (nD U)), .lst a5 (iD acc), s6] := by
  induction fs with
  | nil => intro acc s6 _ _ hE; exact ⟨True.intro, by simpa using hE s6⟩
  | cons f fs ih =>
    intro acc s6 hg hl hE
    rw [List.length_cons] at hl
    have hf := hg f List.mem_cons_self
    have hpU : ∀ n ∈ p.ns, n ∈ U := fun n hn => (hU.2 n).2 (.inl hn)
    have hqU : ∀ n ∈ q.ns, n ∈ U := fun n hn => (hU.2 n).2 (.inr hn)
    rw [fD_cons, forD]
    unfold b1_joined
    trivial
    refine ⟨S, p, U, f, rfl, hS, hp, hU.1.nd, hpU, hf, fun fin => ?_⟩
    trivial
    refine ⟨S, q, U, f, rfl, hS, hq, hU.1.nd, hqU, hf, fun fin => ?_⟩
    trivial
    refine ⟨w, _, _, rfl, hm _ (val_mem hp fun n hn => ats_lt hf (hpU n hn)) _ (val_mem hq fun n hn => ats_lt hf (hqU n hn)), fun fin => ?_⟩
    trivial
    refine ⟨by rw [iD_len]; exact Nat.lt_of_le_of_lt (by omega : acc.length ≤ 5000) (by decide), ?_⟩
    have := ih (acc ++ [jn w (val S p (ats U f)) (val S q (ats U f))]) (.ext (.tup (nD f))) (fun g h => hg g (List.mem_cons_of_mem _ h)) (by rw [List.length_append, List.length_singleton]; omega) (fun u6 => by simpa using hE u6)
    rw [iD_app] at this
    exact this
theorem Uni.both {S U : List Nat} {p q : Part} (hS : SzOk S) (hp : p.Ok S) (hq : q.Ok S) (hU : Uni U p.ns q.ns) : ∀ n ∈ U, n < S.length ∧ 0 < sz S n := fun n hn => by
  rcases (hU.2 n).1 hn with h | h
  · exact Part.Ok.both hS hp n h
  · exact Part.Ok.both hS hq n h
theorem Uni.psz {S U : List Nat} {p q : Part} (hS : SzOk S) (hp : p.Ok S) (hq : q.Ok S) (hU : Uni U p.ns q.ns) : PM.psz S U ≤ 4096 :=
  Nat.le_trans (psz_le hS.pos hU.1 fun n hn => (Uni.both hS hp hq hU n hn).1) hS.prod
theorem Uni.len {S U : List Nat} {p q : Part} (hS : SzOk S) (hp : p.Ok S) (hq : q.Ok S) (hU : Uni U p.ns q.ns) : U.length ≤ 24 :=
  Nat.le_trans (rising_len hU.1 fun n hn => (Uni.both hS hp hq hU n hn).1) hS.few
theorem m_joined : Meets t_joined 4 3 sp_joined := by
  rintro args Qd Xd ⟨w, S, p, q, rfl, hS, hp, hq, hm, hQ⟩
  show t_joined _ _ [_, _, _, _, .un, .un, .un]
  unfold t_joined
  trivial
  have h1 := rising_len hp.rise hp.lt
  have h2 := rising_len hq.rise hq.lt
  have h3 := hS.few
  refine ⟨by rw [nD_len, nD_len]; exact Nat.le_trans (by omega : p.ns.length + q.ns.length ≤ 100) (by decide), (p.ns ++ q.ns).map (fun n : Nat => (n : Int)), by rw [← nD_app]; exact (iD_nat _).symm, by rw [List.length_map, List.length_append]; omega, fun ns' hs hmem => ?_⟩
  obtain ⟨U, rfl, hr, hu⟩ := nat_of_set hs hmem
  rw [show List.map D.int (List.map (fun n : Nat => (n : Int)) U) = nD U from iD_nat U]
  have hU : Uni U p.ns q.ns := ⟨hr, fun n => (hu n).trans List.mem_append⟩
  refine ⟨by decide, fun a5 => ⟨S, U, fArgs_tt, Uni.both hS hp hq hU, Uni.psz hS hp hq hU, by have := Uni.len hS hp hq hU; omega, fun fin => ?_⟩⟩
  trivial
  refine q1_joined hS hp hq hm hU (fills S U) [] _ (fun f hf => mem_fills.1 hf) (by rw [len_fills]; have := Uni.psz hS hp hq hU; simp; omega) fun u6 => ?_
  unfold k2_joined
  trivial
  exact ⟨by decide, hQ U _ hU⟩
end LS
namespace LS
open PySem L2 HD PM
theorem isIn_nat (n : Nat) (l : List Nat) : (D.int (n : Nat)).isIn (nD l) = decide (n ∈ l) := by
  unfold D.isIn
  induction l with
  | nil => rfl
  | cons x l ih =>
    have e : inV (D.int (n : Nat)).toV ((nD (x :: l)).map D.toV) = (eqV (V.int (x : Nat)) (V.int (n : Nat)) || inV (D.int (n : Nat)).toV ((nD l).map D.toV)) := rfl
    rw [e, ih]
    have e2 : eqV (V.int (x : Nat)) (V.int (n : Nat)) = decide (n = x) := by
      simp only [eqV]
      by_cases h : n = x
      · subst h; simp
      · simp [h]; omega
    rw [e2]
    simp
theorem flat_nD (l : List Nat) : (nD l).all D.flat = true := by simp [D.flat]
def putAll : List Nat → List Nat → List Nat → List Nat
  | g, n :: ns, w :: ws => putAll (g.set n w) ns ws
  | g, _, _ => g
theorem putAll_out (ns : List Nat) : ∀ (g ws : List Nat) (m : Nat), m ∉ ns → (putAll g ns ws).getD m 0 = g.getD m 0 := by
  induction ns with
  | nil => intro g ws m _; rfl
  | cons n ns ih =>
    intro g ws m hm
    cases ws with
    | nil => rfl
    | cons w ws =>
      rw [putAll, ih _ _ _ fun h => hm (List.mem_cons_of_mem _ h)]
      have : n ≠ m := fun e => hm (e ▸ List.mem_cons_self)
      simp [List.getD_eq_getElem?_getD, List.getElem?_set_ne this]
theorem putAll_at (ns : List Nat) : ∀ (g ws : List Nat) (m : Nat), ns.Nodup → ws.length = ns.length → (∀ n ∈ ns, n < g.length) → m ∈ ns → (putAll g ns ws).getD m 0 = ats ns ws m := by
  induction ns with
  | nil => intro g ws m _ _ _ h; cases h
  | cons n ns ih =>
    intro g ws m nd hl hn hm
    cases ws with
    | nil => simp at hl
    | cons w ws =>
      obtain ⟨h1, h2⟩ := List.nodup_cons.1 nd
      rw [putAll]
      by_cases e : m = n
      · subst e
        rw [putAll_out _ _ _ _ h1]
        have := hn m List.mem_cons_self
        simp [ats, List.getD_eq_getElem?_getD, List.getElem?_set_self this]
      · have hm' : m ∈ ns := by
          rcases List.mem_cons.1 hm with h | h
          · exact absurd h e
          · exact h
        rw [ih _ _ _ h2 (by simpa using hl) (fun k hk => by rw [List.length_set]; exact hn k (List.mem_cons_of_mem _ hk)) hm']
        have b : (n == m) = false := by simpa using fun h : n = m => e h.symm
        simp [ats, List.idxOf_cons, b]
theorem zeros (k : Nat) : (List.replicate k [D.int 0]).flatten = nD (List.replicate k 0) := by
  induction k with
  | zero => rfl
  | succ k ih => rw [List.replicate_succ, List.flatten_cons, ih, List.replicate_succ]; rfl
end LS
namespace LS
open PySem L2 HD PM
local macro_rules | `(tactic| trivial) => `(tactic| try simp -dsimp only [↓sSeq, ↓sIf, ↓sRet, ↓retD_ext, ↓retD_lst, ↓retD_al, ↓sSet, ↓sSetE, ↓sAsg, ↓sDrop, ↓sNext, ↓sFor, ↓sRetN, ↓sCont, ↓sBreak, ↓dTest, ↓dOp, ↓dVar_w, ↓dC, ↓dCons, ↓dNil, ↓dTup, ↓dLst, ↓frzDs, ↓frzD_ext, ↓frzD_lst, ↓frzD_al, ↓wd_ext, ↓wd_lst, ↓wd_al, ↓wds, ↓AtS_ext, ↓AtS_lst, ↓AtL, ↓fAdd, ↓fSub, ↓fMul, ↓fDiv, ↓fMod, ↓fPow, ↓fCmp, ↓fIn, ↓fEq_ii, ↓fEq_ss, ↓fEq_bb, ↓fEq_tt, ↓fEq_ll, ↓fNe_ii, ↓fNe_ss, ↓fNe_bb, ↓fNe_tt, ↓fNe_ll, ↓fIx_l, ↓fIx_t, ↓fIx_k, ↓fIx_f, ↓GetS_some, ↓NatS_some, ↓fSl, ↓fIsN, ↓fNotN, ↓D.knN, ↓dNot, ↓dAnd, ↓dOr, ↓dAndV_w, ↓dOrV_w, ↓dNotV, ↓dIf, ↓dNeg, ↓dChain_w, ↓BlS_bl, ↓dCall_w, ↓dCallJ_w, ↓anyAl, ↓frozs, ↓froz, ↓gSet, ↓gTupD, ↓gsCons, ↓gsNil, ↓dSeq, ↓seqD_tup, ↓seqD_elst, ↓seqD_lst, ↓seqD_al, ↓dRange1, ↓dRange2, ↓dZip, ↓dCB, ↓dLc, ↓dYes, ↓dNoPart, ↓dPart, ↓dSl, ↓fLen, ↓fMin, ↓fMax, ↓fSum, ↓fAll, ↓fAny, ↓fSorted, ↓fTuple, ↓fList, ↓dRg1, ↓dRg2, ↓dLstRg, ↓dTupRg, ↓dIndex, ↓fIdx, ↓dAppend_w, ↓dExtend_w, ↓extD_lst, ↓dPopAt_w, ↓popD_int, ↓dPop_w, ↓mutD_w, ↓sSetItem_w, ↓setD_int, ↓dSortSet, ↓dTable_w, ↓wipeE, finals1, finals2, finals3, finals4, finals5, finals6, fin1_ext, fin1_lst, List.getElem?_cons_zero, List.getElem?_cons_succ, List.getElem?_nil, List.set_cons_zero, List.set_cons_succ, List.cons_append, List.nil_append, List.append_nil, List.replicate_succ, List.replicate_zero, List.map_cons, List.map_nil, List.length_cons, List.length_nil, true_and, and_true, ite_true, ite_false, if_true, if_false, Bool.false_eq_true, decide_eq_true_eq, Sl.plain, D.isSq, eq_self_iff_true, forall_const, reduceIte, true_or, or_true, atI_0, atI_1, atI_2, atI_3, ixN_0, ixN_1, ixN_2, AtS_ext, AtS_lst, FzS_lst, FzS_ext, GetS_some, NatS_some, ↓fIsi1, ↓fIsi2, BoolS_some, HD.kb_non_tuple, HD.kb_non_list, HD.kb_non_bool, HD.kb_non_int, HD.kb_non_str, HD.kb_bl_tuple, HD.kb_bl_list, HD.kb_bl_bool, HD.kb_bl_int, HD.kb_bl_str, HD.kb_int_tuple, HD.kb_int_list, HD.kb_int_bool, HD.kb_int_int, HD.kb_int_str, HD.kb_str_tuple, HD.kb_str_list, HD.kb_str_bool, HD.kb_str_int, HD.kb_str_str, HD.kb_lst_tuple, HD.kb_lst_list, HD.kb_lst_bool, HD.kb_lst_int, HD.kb_lst_str, HD.kb_tup_tuple, HD.kb_tup_list, HD.kb_tup_bool, HD.kb_tup_int, HD.kb_tup_str, ↓sFz_w, ↓FzS_lst, ↓FzS_ext, ↓dSortSetL, ↓fAbs, ↓fInt, ↓fRepr, ↓fLtT, ↓sRaise, ↓sTryKeep, ↓dCallV_w, ↓dMeth, ↓fCount, ↓fSplit])
def D.pl : Nat → D → Bool
  | _, .non => true
  | _, .bl _ => true
  | _, .int _ => true
  | _, .str _ => true
  | k + 1, .lst ds => decide (ds.length ≤ 100000) && ds.all (D.pl k)
  | k + 1, .tup ds => decide (ds.length ≤ 100000) && ds.all (D.pl k)
  | _, _ => false
theorem noVals_of {ds : List D} (h : ∀ d ∈ ds, d.noVal = true) : D.noVals ds = true := by
  induction ds with
  | nil => rfl
  | cons d ds ih => rw [D.noVals, h d List.mem_cons_self, ih fun e he => h e (List.mem_cons_of_mem _ he)]; rfl
theorem pl_noVal : ∀ (k : Nat) (d : D), D.pl k d = true → d.noVal = true := by
  intro k
  induction k with
  | zero => intro d h; cases d <;> first | rfl | simp [D.pl] at h
  | succ k ih =>
    intro d h
    cases d with
    | lst ds => rw [D.pl, Bool.and_eq_true, List.all_eq_true] at h; exact noVals_of fun e he => ih e (h.2 e he)
    | tup ds => rw [D.pl, Bool.and_eq_true, List.all_eq_true] at h; exact noVals_of fun e he => ih e (h.2 e he)
    | non => rfl
    | bl _ => rfl
    | int _ => rfl
    | str _ => rfl
    | val _ => simp [D.pl] at h
    | fz _ => simp [D.pl] at h
    | tk _ => simp [D.pl] at h
    | exc _ => simp [D.pl] at h
    | glo _ => simp [D.pl] at h
    | dk _ _ => simp [D.pl] at h
    | dt _ _ => simp [D.pl] at h
def sp_same (k : Nat) : DSpec := fun args Q _ => ∃ d, args = [.ext d, .ext d] ∧ D.pl k d = true ∧ ∀ fin, Q (.ext (.bl true)) fin
def sp_sameR : Nat → DSpec
  | 0 => fun _ _ _ => False
  | k + 1 => sp_same k
def e1_law_same (sp_law_same : DSpec) : DT :=
    (dCall sp_law_same (dCons (dVar 2) (dCons (dVar 3) dNil)))
def t_law_same (sp_law_same : DSpec) : DTS :=
    (sSeq (sIf (dTest (dCB fIsi (dCons (dVar 1) (dCons (dTup (dCons (dC (.val (.ty "tuple"))) (dCons (dC (.val (.ty "list"))) dNil))) dNil)))) (sSeq (sIf (dOr (dTest (dOp fNe (dCB fIsi (dCons (dVar 1) (dCons (dC (.val (.ty "tuple"))) dNil))) (dCB fIsi (dCons (dVar 0) (dCons (dC (.val (.ty "tuple"))) dNil))))) (dTest (dOp fNe (dCB fIsi (dCons (dVar 1) (dCons (dC (.val (.ty "list"))) dNil))) (dCB fIsi (dCons (dVar 0) (dCons (dC (.val (.ty "list"))) dNil)))))) (sRet (dC (.bl false))) sNext)
    (sRet (dAndV (dOp fEq (dCB fLen (dCons (dVar 0) dNil)) (dCB fLen (dCons (dVar 1) dNil))) (dCB fAll (dCons (dLc (dZip (dVar 0) (dVar 1)) (gTupD 2 (gsCons (gSet 2) (gsCons (gSet 3) gsNil))) dYes (e1_law_same sp_law_same) [2, 3]) dNil))))) sNext)
    (sSeq (sIf (dOr (dTest (dCB fIsi (dCons (dVar 1) (dCons (dC (.val (.ty "bool"))) dNil)))) (dTest (dCB fIsi (dCons (dVar 0) (dCons (dC (.val (.ty "bool"))) dNil))))) (sRet (dAndV (dCB fIsi (dCons (dVar 1) (dCons (dC (.val (.ty "bool"))) dNil))) (dAndV (dCB fIsi (dCons (dVar 0) (dCons (dC (.val (.ty "bool"))) dNil))) (dOp fEq (dVar 0) (dVar 1))))) sNext)
    (sSeq (sIf (dTest (dCB fIsi (dCons (dVar 1) (dCons (dC (.val (.ty "int"))) dNil)))) (sRet (dAndV (dCB fIsi (dCons (dVar 0) (dCons (dC (.val (.ty "int"))) dNil))) (dOp fEq (dVar 0) (dVar 1)))) sNext)
    (sSeq (sIf (dTest (dOp fIsN (dVar 1) (dC .non))) (sRet (dOp fIsN (dVar 0) (dC .non))) sNext)
    (sRet (dAndV (dCB fIsi (dCons (dVar 0) (dCons (dC (.val (.ty "str"))) dNil))) (dOp fEq (dVar 0) (dVar 1))))))))
theorem zip_self (ds : List D) : (ds.zip ds).map (fun p => D.tk [p.1, p.2]) = ds.map fun d => D.tk [d, d] := by
  induction ds with
  | nil => rfl
  | cons d ds ih => simp only [List.zip_cons_cons, List.map_cons, ih]
theorem q1_law_same {k : Nat} {Q : Sl → Env' → Prop} {s0 s1 : Sl} {keep : Env' → Prop} (hk : ∀ e, keep e) (ds : List D) : ∀ (n : Nat), n + ds.length ≤ 100000 → (∀ d ∈ ds, D.pl k d = true) → (∀ b, Q (.lst b (List.replicate (n + ds.length) (.bl true))) [s0, s1, .un, .un]) →
    lcD (gTupD 2 (gsCons (gSet 2) (gsCons (gSet 3) gsNil))) dYes (e1_law_same (sp_same k)) [2, 3] keep Q (ds.map fun d => D.tk [d, d]) (List.replicate n (.bl true)) [s0, s1, .un, .un] := by
  induction ds with
  | nil => intro n _ _ hQ; exact ⟨hk _, hQ⟩
  | cons d ds ih =>
    intro n hl hp hQ
    rw [List.length_cons] at hl
    rw [List.map_cons, lcD]
    unfold e1_law_same
    trivial
    refine ⟨hk _, by rw [List.length_replicate]; exact Nat.lt_of_le_of_lt (by omega : n ≤ 100000) (by decide), d, rfl, hp d List.mem_cons_self, fun fin => ?_⟩
    trivial
    have := ih (n + 1) (by omega) (fun e he => hp e (List.mem_cons_of_mem _ he)) (fun b => by have := hQ b; rw [List.length_cons] at this; rw [show n + 1 + ds.length = n + (ds.length + 1) by omega]; exact this)
    rw [List.replicate_succ'] at this
    exact this
theorem m_law_same (k : Nat) : Meets (t_law_same (sp_sameR k)) 2 2 (sp_same k) := by
  rintro args Qd Xd ⟨d, rfl, hp, hQ⟩
  have nv := pl_noVal k d hp
  show t_law_same _ _ _ [_, _, .un, .un]
  unfold t_law_same
  cases d with
  | non =>
    trivial
    simp only [nv, D.isFz, D.isNon, Bool.or_false, Bool.or_true, Bool.false_eq_true, if_true, if_false, true_and]
    exact ⟨by decide, hQ _⟩
  | bl b =>
    trivial
    simp only [nv, D.isFz, D.isNon, Bool.or_false, Bool.or_true, Bool.false_eq_true, if_true, if_false, true_and, beq_self_eq_true]
    exact ⟨by decide, hQ _⟩
  | int i =>
    trivial
    simp only [nv, D.isFz, D.isNon, Bool.or_false, Bool.or_true, Bool.false_eq_true, if_true, if_false, true_and, beq_self_eq_true]
    exact ⟨by decide, hQ _⟩
  | str x =>
    trivial
    simp only [nv, D.isFz, D.isNon, Bool.or_false, Bool.or_true, Bool.false_eq_true, if_true, if_false, true_and, beq_self_eq_true]
    exact ⟨by decide, hQ _⟩
  | lst ds =>
    cases k with
    | zero => simp [D.pl] at hp
    | succ k =>
      rw [D.pl, Bool.and_eq_true, List.all_eq_true, decide_eq_true_eq] at hp
      trivial
      simp only [nv, D.isFz, D.isNon, Bool.or_false, Bool.or_true, Bool.true_or, Bool.false_eq_true, if_true, if_false, true_and, beq_self_eq_true, Bool.not_true]
      refine ⟨by decide, ?_⟩
      rw [zip_self]
      refine q1_law_same (k := k) (fun _ => True.intro) ds 0 (by omega) hp.2 fun b => ?_
      trivial
      refine ⟨List.replicate (0 + ds.length) true, by simp, ?_⟩
      have e : (List.replicate (0 + ds.length) true).all id = true := by simp
      rw [e]
      exact hQ _
  | tup ds =>
    cases k with
    | zero => simp [D.pl] at hp
    | succ k =>
      rw [D.pl, Bool.and_eq_true, List.all_eq_true, decide_eq_true_eq] at hp
      trivial
      simp only [nv, D.isFz, D.isNon, Bool.or_false, Bool.or_true, Bool.true_or, Bool.false_eq_true, if_true, if_false, true_and, beq_self_eq_true, Bool.not_true]
      refine ⟨by decide, ?_⟩
      rw [zip_self]
      refine q1_law_same (k := k) (fun _ => True.intro) ds 0 (by omega) hp.2 fun b => ?_
      trivial
      refine ⟨List.replicate (0 + ds.length) true, by simp, ?_⟩
      have e : (List.replicate (0 + ds.length) true).all id = true := by simp
      rw [e]
      exact hQ _
  | val _ => cases k <;> simp [D.pl] at hp
  | fz _ => cases k <;> simp [D.pl] at hp
  | tk _ => cases k <;> simp [D.pl] at hp
  | exc _ => cases k <;> simp [D.pl] at hp
  | glo _ => cases k <;> simp [D.pl] at hp
  | dk _ _ => cases k <;> simp [D.pl] at hp
  | dt _ _ => cases k <;> simp [D.pl] at hp
def sp_law_same : DSpec := sp_same 4
end LS
namespace LS
open PySem L2 HD PM
def D.pi : Nat → D → Bool
  | _, .non => true
  | _, .bl _ => true
  | _, .int _ => true
  | _, .str x => PyData.canLay0 (.str x)
  | k + 1, .lst ds => ds.all (D.pi k)
  | k + 1, .tup ds => ds.all (D.pi k)
  | _, _ => false
theorem pys_of {k : Nat} {ds : List D} (h : ∀ d ∈ ds, d.noVal = true ∧ d.py.canLay0 = true ∧ d.py.depth ≤ k) : D.noVals ds = true ∧ PyData.canLayAll0 (D.pys ds) = true ∧ PyData.depthAll (D.pys ds) ≤ k := by
  induction ds with
  | nil => exact ⟨rfl, rfl, by simp [D.pys, PyData.depthAll]⟩
  | cons d ds ih =>
    obtain ⟨h1, h2, h3⟩ := h d List.mem_cons_self
    obtain ⟨i1, i2, i3⟩ := ih fun e he => h e (List.mem_cons_of_mem _ he)
    refine ⟨by simp [D.noVals, h1, i1], by simp [D.pys, PyData.canLayAll0, h2, i2], ?_⟩
    simp only [D.pys, PyData.depthAll]
    omega
theorem pi_cmp0 : ∀ (k : Nat) (d : D), D.pi k d = true → d.noVal = true ∧ d.py.canLay0 = true ∧ d.py.depth ≤ k := by
  intro k
  induction k with
  | zero => intro d h; cases d <;> first | exact ⟨rfl, rfl, by simp [D.py, PyData.depth]⟩ | exact ⟨rfl, h, by simp [D.py, PyData.depth]⟩ | simp [D.pi] at h
  | succ k ih =>
    intro d h
    cases d with
    | lst ds =>
      rw [D.pi, List.all_eq_true] at h
      obtain ⟨h1, h2, h3⟩ := pys_of fun e he => ih e (h e he)
      exact ⟨h1, by simpa [D.py, PyData.canLay0] using h2, by simp only [D.py, PyData.depth]; omega⟩
    | tup ds =>
      rw [D.pi, List.all_eq_true] at h
      obtain ⟨h1, h2, h3⟩ := pys_of fun e he => ih e (h e he)
      exact ⟨h1, by simpa [D.py, PyData.canLay0] using h2, by simp only [D.py, PyData.depth]; omega⟩
    | non => exact ⟨rfl, rfl, by simp [D.py, PyData.depth]⟩
    | bl _ => exact ⟨rfl, rfl, by simp [D.py, PyData.depth]⟩
    | int _ => exact ⟨rfl, rfl, by simp [D.py, PyData.depth]⟩
    | str _ => exact ⟨rfl, h, by simp [D.py, PyData.depth]⟩
    | val _ => simp [D.pi] at h
    | fz _ => simp [D.pi] at h
    | tk _ => simp [D.pi] at h
    | exc _ => simp [D.pi] at h
    | glo _ => simp [D.pi] at h
    | dk _ _ => simp [D.pi] at h
    | dt _ _ => simp [D.pi] at h
theorem pi_cmp {k : Nat} {d : D} (hk : k ≤ 64) (h : D.pi k d = true) : d.cmp := by
  obtain ⟨h1, h2, h3⟩ := pi_cmp0 k d h
  refine ⟨h1, ?_⟩
  unfold SeqAt.shaped
  rw [h2]
  simp; omega
theorem pi_ints (k : Nat) (l : List Int) : (iD l).all (D.pi k) = true := by
  rw [List.all_eq_true]
  intro d hd
  obtain ⟨i, _, rfl⟩ := List.mem_map.1 hd
  cases k <;> rfl
theorem pi_nats (k : Nat) (l : List Nat) : (nD l).all (D.pi k) = true := by
  rw [List.all_eq_true]
  intro d hd
  obtain ⟨i, _, rfl⟩ := List.mem_map.1 hd
  cases k <;> rfl
theorem pi_dP (p : Part) : D.pi 2 (dP p) = true := by
  simp only [D.pi, List.all_cons, List.all_nil, pi_ints, pi_nats]
  rfl
theorem pl_nats (k : Nat) (l : List Nat) : (nD l).all (D.pl k) = true := by
  rw [List.all_eq_true]
  intro d hd
  obtain ⟨i, _, rfl⟩ := List.mem_map.1 hd
  cases k <;> rfl
def Bd (k : Nat) (p : Part) : Prop := ∀ x ∈ p.ws, x.natAbs < 2 ^ k
theorem NumsOk.bd {w : Wd} {p : Part} (h : NumsOk w p) : Bd 40 p := fun x hx => by
  obtain ⟨h1, h2, _⟩ := h x hx
  omega
theorem jn_bd {w : Wd} {a b : Nat} {x y : Int} (ha : 0 < a) (hb : 0 < b) (hx : x.natAbs < 2 ^ a) (hy : y.natAbs < 2 ^ b) : (jn w x y).natAbs < 2 ^ (a + b) := by
  have e : 2 ^ (a + b) = 2 ^ a * 2 ^ b := Nat.pow_add 2 a b
  have a2 : 2 ≤ 2 ^ a := by
    have := Nat.pow_le_pow_right (n := 2) (by decide) ha
    simpa using this
  have b2 : 2 ≤ 2 ^ b := by
    have := Nat.pow_le_pow_right (n := 2) (by decide) hb
    simpa using this
  have s1 : 2 ^ a * 2 ≤ 2 ^ a * 2 ^ b := Nat.mul_le_mul_left _ b2
  have s2 : 2 * 2 ^ b ≤ 2 ^ a * 2 ^ b := Nat.mul_le_mul_right _ a2
  cases w with
  | sum =>
    show (x * y).natAbs < _
    rw [Int.natAbs_mul, e]
    rcases Nat.eq_zero_or_pos y.natAbs with z | z
    · rw [z, Nat.mul_zero]; omega
    · exact Nat.mul_lt_mul'' hx hy
  | most => show (x + y).natAbs < _; omega
  | least => show (x + y).natAbs < _; omega
  | wide => show (if y < x then y else x).natAbs < _; split <;> omega
  | any => show (if y < x then y else x).natAbs < _; split <;> omega
end LS
namespace PM
open LS
def fold1 (op : Int → Int → Int) : List Int → Int
  | [] => 0
  | x :: xs => xs.foldl op x
structure CA (op : Int → Int → Int) : Prop where
  comm : ∀ a b, op a b = op b a
  assoc : ∀ a b c, op (op a b) c = op a (op b c)
theorem foldl_pull {op : Int → Int → Int} (h : CA op) (xs : List Int) : ∀ a b, xs.foldl op (op a b) = op a (xs.foldl op b) := by
  induction xs with
  | nil => intro a b; rfl
  | cons x xs ih => intro a b; rw [List.foldl_cons, List.foldl_cons, h.assoc, ih]
theorem fold1_cons {op : Int → Int → Int} (h : CA op) (x : Int) {xs : List Int} (hx : xs ≠ []) : fold1 op (x :: xs) = op x (fold1 op xs) := by
  cases xs with
  | nil => exact absurd rfl hx
  | cons y ys =>
    show ys.foldl op (op x y) = op x (ys.foldl op y)
    exact foldl_pull h ys x y
def gop : Wd → Int → Int → Int
  | .sum, a, b => a + b
  | .least, a, b => if b < a then b else a
  | _, a, b => if a < b then b else a
theorem gop_ca (w : Wd) : CA (gop w) := by
  constructor
  · intro a b; cases w <;> simp only [gop] <;> first | omega | (repeat' split <;> omega)
  · intro a b c; cases w <;> simp only [gop] <;> first | omega | (repeat' split) <;> omega
abbrev gt (w : Wd) (l : List Int) : Int := fold1 (gop w) l
def put (g : Nat → Nat) (n v : Nat) : Nat → Nat := fun m => if m = n then v else g m
def wo (ns : List Nat) (n : Nat) : List Nat := ns.filter fun m => decide (m ≠ n)
theorem mem_wo {ns : List Nat} {n m : Nat} : m ∈ wo ns n ↔ m ∈ ns ∧ m ≠ n := by simp [wo]
theorem wo_rise {ns : List Nat} {n : Nat} (h : Rising ns) : Rising (wo ns n) := List.Pairwise.filter _ h
def gathP (S : List Nat) (w : Wd) (p : Part) (n : Nat) : Part := mkP S (wo p.ns n) fun g => gt w ((List.range (sz S n)).map fun v => val S p (put g n v))
def widP (S : List Nat) (p : Part) (U : List Nat) : Part := mkP S U (val S p)
section
variable {S : List Nat} {w : Wd} {p q : Part} {n v : Nat} {g : Nat → Nat}
theorem gathP_ok (hp : p.Ok S) : (gathP S w p n).Ok S := mkP_ok (wo_rise hp.rise) fun m hm => hp.lt m (mem_wo.1 hm).1
theorem widP_ok {U : List Nat} (hU : Rising U) (hl : ∀ m ∈ U, m < S.length) : (widP S p U).Ok S := mkP_ok hU hl
theorem val_widP {U : List Nat} (hU : ∀ m ∈ p.ns, m ∈ U) (hg : Fit S U g) : val S (widP S p U) g = val S p g := by
  refine val_mkP hg ?_
  exact val_congr fun m hm => ats_map (hU m hm)
theorem fit_put {ns : List Nat} (hg : Fit S (wo ns n) g) (hv : v < sz S n) : Fit S ns (put g n v) := by
  intro m hm
  unfold put
  split
  · rename_i e; subst e; exact hv
  · rename_i e; exact hg m (mem_wo.2 ⟨hm, e⟩)
theorem range_ne {k : Nat} (h : 0 < k) : List.range k ≠ [] := by
  intro e
  have := congrArg List.length e
  simp at this; omega
end
end PM
namespace LS
open PySem L2 HD PM
local macro_rules | `(tactic| trivial) => `(tactic| try simp -dsimp only [↓sSeq, ↓sIf, ↓sRet, ↓retD_ext, ↓retD_lst, ↓retD_al, ↓sSet, ↓sSetE, ↓sAsg, ↓sDrop, ↓sNext, ↓sFor, ↓sRetN, ↓sCont, ↓sBreak, ↓dTest, ↓dOp, ↓dVar_w, ↓dC, ↓dCons, ↓dNil, ↓dTup, ↓dLst, ↓frzDs, ↓frzD_ext, ↓frzD_lst, ↓frzD_al, ↓wd_ext, ↓wd_lst, ↓wd_al, ↓wds, ↓AtS_ext, ↓AtS_lst, ↓AtL, ↓fAdd, ↓fSub, ↓fMul, ↓fDiv, ↓fMod, ↓fPow, ↓fCmp, ↓fIn, ↓fEq_ii, ↓fEq_ss, ↓fEq_bb, ↓fEq_tt, ↓fEq_ll, ↓fNe_ii, ↓fNe_ss, ↓fNe_bb, ↓fNe_tt, ↓fNe_ll, ↓fIx_l, ↓fIx_t, ↓fIx_k, ↓fIx_f, ↓GetS_some, ↓NatS_some, ↓fSl, ↓fIsN, ↓fNotN, ↓D.knN, ↓dNot, ↓dAnd, ↓dOr, ↓dAndV_w, ↓dOrV_w, ↓dNotV, ↓dIf, ↓dNeg, ↓dChain_w, ↓BlS_bl, ↓dCall_w, ↓dCallJ_w, ↓anyAl, ↓frozs, ↓froz, ↓gSet, ↓gTupD, ↓gsCons, ↓gsNil, ↓dSeq, ↓seqD_tup, ↓seqD_elst, ↓seqD_lst, ↓seqD_al, ↓dRange1, ↓dRange2, ↓dZip, ↓dCB, ↓dLc, ↓dYes, ↓dNoPart, ↓dPart, ↓dSl, ↓fLen, ↓fMin, ↓fMax, ↓fSum, ↓fAll, ↓fAny, ↓fSorted, ↓fTuple, ↓fList, ↓dRg1, ↓dRg2, ↓dLstRg, ↓dTupRg, ↓dIndex, ↓fIdx, ↓dAppend_w, ↓dExtend_w, ↓extD_lst, ↓dPopAt_w, ↓popD_int, ↓dPop_w, ↓mutD_w, ↓sSetItem_w, ↓setD_int, ↓dSortSet, ↓dTable_w, ↓wipeE, finals1, finals2, finals3, finals4, finals5, finals6, fin1_ext, fin1_lst, List.getElem?_cons_zero, List.getElem?_cons_succ, List.getElem?_nil, List.set_cons_zero, List.set_cons_succ, List.cons_append, List.nil_append, List.append_nil, List.replicate_succ, List.replicate_zero, List.map_cons, List.map_nil, List.length_cons, List.length_nil, true_and, and_true, ite_true, ite_false, if_true, if_false, Bool.false_eq_true, decide_eq_true_eq, Sl.plain, D.isSq, eq_self_iff_true, forall_const, reduceIte, true_or, or_true, atI_0, atI_1, atI_2, atI_3, ixN_0, ixN_1, ixN_2, AtS_ext, AtS_lst, FzS_lst, FzS_ext, GetS_some, NatS_some, ↓fIsi1, ↓fIsi2, BoolS_some, HD.kb_non_tuple, HD.kb_non_list, HD.kb_non_bool, HD.kb_non_int, HD.kb_non_str, HD.kb_bl_tuple, HD.kb_bl_list, HD.kb_bl_bool, HD.kb_bl_int, HD.kb_bl_str, HD.kb_int_tuple, HD.kb_int_list, HD.kb_int_bool, HD.kb_int_int, HD.kb_int_str, HD.kb_str_tuple, HD.kb_str_list, HD.kb_str_bool, HD.kb_str_int, HD.kb_str_str, HD.kb_lst_tuple, HD.kb_lst_list, HD.kb_lst_bool, HD.kb_lst_int, HD.kb_lst_str, HD.kb_tup_tuple, HD.kb_tup_list, HD.kb_tup_bool, HD.kb_tup_int, HD.kb_tup_str, ↓sFz_w, ↓FzS_lst, ↓FzS_ext, ↓dSortSetL, ↓fAbs, ↓fInt, ↓fRepr, ↓fLtT, ↓sRaise, ↓sTryKeep, ↓dCallV_w, ↓dMeth, ↓fCount, ↓fSplit])
def sp_gather : DSpec := fun args Q _ => ∃ (w : Wd) (l : List Int), args = [dW w, .ext (.lst (iD l))] ∧ l ≠ [] ∧ ∀ fin, Q (dI (gt w l)) fin
def t_gather : DTS :=
    (sSeq (sIf (dTest (dOp fEq (dVar 0) (dC (.str (Str.ofString "sum"))))) (sRet (dCB fSum (dCons (dVar 1) dNil))) sNext)
    (sRet (dIf (dTest (dOp fEq (dVar 0) (dC (.str (Str.ofString "least"))))) (dCB fMin (dCons (dVar 1) dNil)) (dCB fMax (dCons (dVar 1) dNil)))))
theorem fold1_mem {op : Int → Int → Int} (h : ∀ a b, op a b = a ∨ op a b = b) (l : List Int) : ∀ x, l.foldl op x = x ∨ l.foldl op x ∈ l := by
  induction l with
  | nil => intro x; exact .inl rfl
  | cons y l ih =>
    intro x
    rw [List.foldl_cons]
    rcases ih (op x y) with e | e
    · rw [e]
      rcases h x y with h | h <;> rw [h]
      · exact .inl rfl
      · exact .inr List.mem_cons_self
    · exact .inr (List.mem_cons_of_mem _ e)
theorem fold1_low {op : Int → Int → Int} (R : Int → Int → Prop) (rf : ∀ a, R a a) (tr : ∀ a b c, R a b → R b c → R a c) (hl : ∀ a b, R (op a b) a) (hr : ∀ a b, R (op a b) b) (l : List Int) : ∀ x, R (l.foldl op x) x ∧ ∀ y ∈ l, R (l.foldl op x) y := by
  induction l with
  | nil => intro x; exact ⟨rf x, by simp⟩
  | cons y l ih =>
    intro x
    rw [List.foldl_cons]
    obtain ⟨h1, h2⟩ := ih (op x y)
    refine ⟨tr _ _ _ h1 (hl x y), fun z hz => ?_⟩
    rcases List.mem_cons.1 hz with rfl | hz
    · exact tr _ _ _ h1 (hr x z)
    · exact h2 z hz
theorem gt_least {l : List Int} (hl : l ≠ []) {m : Int} (h1 : m ∈ l) (h2 : ∀ y ∈ l, m ≤ y) : gt .least l = m := by
  cases l with
  | nil => exact absurd rfl hl
  | cons x l =>
    obtain ⟨a1, a2⟩ := fold1_low (op := gop .least) (· ≤ ·) Int.le_refl (fun a b c => Int.le_trans) (fun a b => by simp only [gop]; split <;> omega) (fun a b => by simp only [gop]; split <;> omega) l x
    have a3 : l.foldl (gop .least) x ≤ m := by
      rcases List.mem_cons.1 h1 with rfl | h
      · exact a1
      · exact a2 m h
    have a4 : m ≤ l.foldl (gop .least) x := by
      rcases fold1_mem (op := gop .least) (fun a b => by simp only [gop]; split <;> simp) l x with e | e
      · rw [e]; exact h2 x List.mem_cons_self
      · exact h2 _ (List.mem_cons_of_mem _ e)
    exact Int.le_antisymm a3 a4
theorem gt_max {w : Wd} (hw : w ≠ .sum) (hw2 : w ≠ .least) {l : List Int} (hl : l ≠ []) {m : Int} (h1 : m ∈ l) (h2 : ∀ y ∈ l, y ≤ m) : gt w l = m := by
  have e : gop w = gop .most := by cases w <;> first | rfl | contradiction
  cases l with
  | nil => exact absurd rfl hl
  | cons x l =>
    show l.foldl (gop w) x = m
    rw [e]
    obtain ⟨a1, a2⟩ := fold1_low (op := gop .most) (· ≥ ·) Int.le_refl (fun a b c h1 h2 => Int.le_trans h2 h1) (fun a b => by simp only [gop]; split <;> omega) (fun a b => by simp only [gop]; split <;> omega) l x
    have a3 : l.foldl (gop .most) x ≥ m := by
      rcases List.mem_cons.1 h1 with rfl | h
      · exact a1
      · exact a2 m h
    have a4 : m ≥ l.foldl (gop .most) x := by
      rcases fold1_mem (op := gop .most) (fun a b => by simp only [gop]; split <;> simp) l x with e | e
      · rw [e]; exact h2 x List.mem_cons_self
      · exact h2 _ (List.mem_cons_of_mem _ e)
    exact Int.le_antisymm a4 a3
theorem gt_sum (l : List Int) : gt .sum l = l.sum := by
  cases l with
  | nil => rfl
  | cons x l =>
    show l.foldl (gop .sum) x = _
    rw [List.sum_cons]
    induction l generalizing x with
    | nil => show x = x + 0; omega
    | cons y l ih =>
      rw [List.foldl_cons, ih, List.sum_cons]
      show x + y + _ = _
      omega
theorem m_gather : Meets t_gather 2 0 sp_gather := by
  rintro args Qd Xd ⟨w, l, rfl, hl, hQ⟩
  show t_gather _ _ [_, _]
  unfold t_gather
  trivial
  simp only [w_sum, w_least, decide_eq_true_eq]
  split
  · rename_i e; subst e
    refine ⟨l, rfl, ?_⟩
    rw [gt_sum] at hQ
    exact hQ _
  · rename_i e1
    split
    · rename_i e; subst e
      refine ⟨l, rfl, hl, fun m h1 h2 => ?_⟩
      have := hQ [dW Wd.least, .ext (.lst (iD l))]
      rw [gt_least hl h1 h2] at this
      exact this
    · rename_i e2
      refine ⟨l, rfl, hl, fun m h1 h2 => ?_⟩
      have := hQ [dW w, .ext (.lst (iD l))]
      rw [gt_max e1 e2 hl h1 h2] at this
      exact this
def D.isInt : D → Bool
  | .int _ => true
  | _ => false
def sp_is_whole : DSpec := fun args Q _ => ∃ (d : D) (k : Nat), args = [.ext d] ∧ D.pl k d = true ∧ ∀ fin, Q (.ext (.bl (D.isInt d))) fin
def t_is_whole : DTS :=
    (sRet (dAndV (dCB fIsi (dCons (dVar 0) (dCons (dC (.val (.ty "int"))) dNil))) (dNotV (dCB fIsi (dCons (dVar 0) (dCons (dC (.val (.ty "bool"))) dNil))))))
theorem m_is_whole : Meets t_is_whole 1 0 sp_is_whole := by
  rintro args Qd Xd ⟨d, k, rfl, hp, hQ⟩
  have nv := pl_noVal k d hp
  show t_is_whole _ _ [_]
  unfold t_is_whole
  cases d with
  | val _ => cases k <;> simp [D.pl] at hp
  | fz _ => cases k <;> simp [D.pl] at hp
  | tk _ => cases k <;> simp [D.pl] at hp
  | exc _ => cases k <;> simp [D.pl] at hp
  | glo _ => cases k <;> simp [D.pl] at hp
  | dk _ _ => cases k <;> simp [D.pl] at hp
  | dt _ _ => cases k <;> simp [D.pl] at hp
  | _ =>
    trivial
    simp only [nv, D.isFz, true_and, Bool.not_true, Bool.not_false]
    exact hQ _
def sp_without : DSpec := fun args Q _ => ∃ (ns : List Nat) (n : Nat), args = [.ext (.tup (nD ns)), dI (n : Nat)] ∧ ns.length ≤ 1000 ∧ ∀ fin, Q (.ext (.tup (nD (wo ns n)))) fin
def e1_without : DT :=
    (dVar 2)
def t_without : DTS :=
    (sRet (dCB fTuple (dCons (dLc (dSeq (dVar 0)) (gSet 2) (dTest (dOp fNe (dVar 2) (dVar 1))) e1_without [2]) dNil)))
theorem q1_without {Q : Sl → Env' → Prop} {s0 : Sl} {n : Nat} (ns : List Nat) : ∀ acc : List Nat, acc.length + ns.length ≤ 1000 → (∀ b, Q (.lst b (nD (acc ++ wo ns n))) [s0, dI (n : Nat), .un]) →
    lcD (gSet 2) (dTest (dOp fNe (dVar 2) (dVar 1))) e1_without [2] (fun _ => True) Q (nD ns) (nD acc) [s0, dI (n : Nat), .un] := by
  induction ns with
  | nil => intro acc _ hQ; exact ⟨True.intro, fun b => by simpa [wo] using hQ b⟩
  | cons x ns ih =>
    intro acc hl hQ
    rw [List.length_cons] at hl
    rw [nD_cons, lcD]
    unfold e1_without
    trivial
    refine ⟨by rw [nD_len]; exact Nat.lt_of_le_of_lt (by omega : acc.length ≤ 1000) (by decide), ?_⟩
    by_cases hx : x = n
    · subst hx
      rw [if_neg (by simp)]
      refine ih acc (by omega) fun b => ?_
      have := hQ b
      rw [wo, List.filter_cons_of_neg (by simp)] at this
      exact this
    · rw [if_pos (by simp; omega)]
      have := ih (acc ++ [x]) (by rw [List.length_append, List.length_singleton]; omega) (fun b => by
        have := hQ b
        rw [wo, List.filter_cons_of_pos (by simpa using hx)] at this
        simpa [wo] using this)
      rw [nD_app] at this
      exact this
theorem m_without : Meets t_without 2 1 sp_without := by
  rintro args Qd Xd ⟨ns, n, rfl, hl, hQ⟩
  show t_without _ _ [_, _, .un]
  unfold t_without
  trivial
  refine q1_without ns [] (by simpa using hl) fun b => ?_
  trivial
  exact hQ _
def NotName (p : Part) (d : D) : Prop := ∀ n ∈ p.ns, d ≠ .int (n : Nat)
theorem isIn_int (i : Int) (l : List Int) : (D.int i).isIn (iD l) = decide (i ∈ l) := by
  unfold D.isIn
  induction l with
  | nil => rfl
  | cons x l ih =>
    show (eqV (V.int x) (V.int i) || inV (V.int i) ((iD l).map D.toV)) = _
    rw [show inV (V.int i) ((iD l).map D.toV) = decide (i ∈ l) from ih]
    show (decide (x = i) || _) = _
    by_cases h : x = i
    · subst h; simp
    · have h' : ¬ i = x := fun e => h e.symm
      simp [h, h']
def sp_need_name : DSpec := fun args Q X => (∃ (p : Part) (n : Nat), args = [.ext (dP p), dI (n : Nat)] ∧ n ∈ p.ns ∧ ∀ fin, Q (.ext .non) fin) ∨
  ∃ (p : Part) (d : D) (k : Nat), args = [.ext (dP p), .ext d] ∧ D.pl k d = true ∧ NotName p d ∧ ∀ fin, X "NoName" fin
def t_need_name : DTS :=
    (sIf (dOr (dNot (dTest (dCall sp_is_whole (dCons (dVar 1) dNil)))) (dTest (dOp (fIn true) (dVar 1) (dOp fIx (dVar 0) (dC (.int 0)))))) (sRaise "NoName") sNext)
theorem m_need_name : Meets t_need_name 2 0 sp_need_name := by
  rintro args Qd Xd (⟨p, n, rfl, hn, hQ⟩ | ⟨p, d, k, rfl, hd, hn, hX⟩)
  all_goals
    show t_need_name _ _ [_, _]
    unfold t_need_name
    trivial
  · refine ⟨_, 0, rfl, rfl, fun fin => ?_⟩
    trivial
    rw [if_neg (by simp [D.isInt]), isIn_nat, if_neg (by simpa using hn)]
    exact ⟨rfl, flat_nD _, hQ _⟩
  · refine ⟨_, k, rfl, hd, fun fin => ?_⟩
    trivial
    cases d with
    | int i =>
      rw [if_neg (by simp [D.isInt])]
      trivial
      rw [← iD_nat, isIn_int, if_pos]
      · exact ⟨rfl, by rw [iD_nat]; exact flat_nD _, hX _⟩
      · simp only [Bool.not_eq_true', decide_eq_false_iff_not, List.mem_map, not_exists, not_and]
        rintro n h1 rfl
        exact hn n h1 rfl
    | _ => rw [if_pos (by simp [D.isInt])]; exact hX _
theorem good_app {S ns f : List Nat} {n v : Nat} (h : Good S ns f) (hv : v < sz S n) : Good S (ns ++ [n]) (f ++ [v]) := by
  induction ns generalizing f with
  | nil =>
    have e : f = [] := h
    subst e
    exact ⟨v, [], rfl, hv, rfl⟩
  | cons m ns ih =>
    obtain ⟨u, r, rfl, hu, hr⟩ := h
    exact ⟨u, r ++ [v], rfl, hu, ih hr⟩
theorem ats_app {ns f : List Nat} {n v : Nat} (hl : f.length = ns.length) (hn : n ∉ ns) (m : Nat) (hm : m ∈ ns ∨ m = n) : ats (ns ++ [n]) (f ++ [v]) m = put (ats ns f) n v m := by
  unfold ats put
  by_cases e : m = n
  · subst e
    rw [if_pos rfl, List.idxOf_append, if_neg hn]
    have : List.idxOf m [m] + ns.length = f.length := by simp [hl]
    rw [this]
    simp [List.getD_eq_getElem?_getD]
  · rw [if_neg e]
    have hm' : m ∈ ns := hm.resolve_right e
    rw [List.idxOf_append, if_pos hm']
    have := List.idxOf_lt_length_of_mem hm'
    simp only [List.getD_eq_getElem?_getD]
    rw [List.getElem?_append_left (by omega)]
theorem val_app {S : List Nat} {p : Part} {n v : Nat} {f : List Nat} (hp : p.Ok S) (hl : f.length = (wo p.ns n).length) : val S p (ats (wo p.ns n ++ [n]) (f ++ [v])) = val S p (put (ats (wo p.ns n) f) n v) :=
  val_congr fun m hm => ats_app hl (fun h => (mem_wo.1 h).2 rfl) m (by
    by_cases e : m = n
    · exact .inr e
    · exact .inl (mem_wo.2 ⟨hm, e⟩))
theorem wo_app_nd {ns : List Nat} {n : Nat} (h : Rising ns) : (wo ns n ++ [n]).Nodup := by
  rw [List.nodup_append]
  refine ⟨(wo_rise h).nd, by simp, fun a ha b hb e => ?_⟩
  subst e
  exact (mem_wo.1 ha).2 (List.mem_singleton.1 hb)
def sp_gathered : DSpec := fun args Q X => (∃ (w : Wd) (S : List Nat) (p : Part) (n : Nat), args = [dW w, dSz S, .ext (dP p), dI (n : Nat)] ∧ SzOk S ∧ p.Ok S ∧ n ∈ p.ns ∧ ∀ fin, Q (.ext (dP (gathP S w p n))) fin) ∨
  ∃ (w : Wd) (S : List Nat) (p : Part) (d : D) (k : Nat), args = [dW w, dSz S, .ext (dP p), .ext d] ∧ D.pl k d = true ∧ NotName p d ∧ ∀ fin, X "NoName" fin
def e1_gathered : DT :=
    (dCall sp_worth_by (dCons (dVar 1) (dCons (dVar 2) (dCons (dOp fAdd (dVar 4) (dTup (dCons (dVar 3) dNil))) (dCons (dOp fAdd (dVar 6) (dTup (dCons (dVar 8) dNil))) dNil)))))
def b2_gathered : DTS :=
    (sSeq (sSetE 7 (dLc (dRange1 (dCons (dOp fIx (dVar 1) (dVar 3)) dNil)) (gSet 8) dYes e1_gathered [8]))
    (sDrop (dAppend 5 (dCall sp_gather (dCons (dVar 0) (dCons (dVar 7) dNil))))))
def k3_gathered : DTS :=
    (sRet (dTup (dCons (dVar 4) (dCons (dCB fTuple (dCons (dVar 5) dNil)) dNil))))
def t_gathered : DTS :=
    (sSeq (sDrop (dCall sp_need_name (dCons (dVar 2) (dCons (dVar 3) dNil))))
    (sSeq (sSetE 4 (dCall sp_without (dCons (dOp fIx (dVar 2) (dC (.int 0))) (dCons (dVar 3) dNil))))
    (sSeq (sSet 5 (dLst dNil))
    (sSeq (sFor (dSeq (dCall sp_fillings_of (dCons (dVar 1) (dCons (dVar 4) dNil)))) (gSet 6) b2_gathered)
    k3_gathered))))
theorem q1_gathered {Q : Sl → Env' → Prop} {s0 s5 s7 : Sl} {S : List Nat} {p : Part} {n : Nat} {f : List Nat} (hS : SzOk S) (hp : p.Ok S) (hn : n ∈ p.ns) (hf : Good S (wo p.ns n) f) (vs : List Nat) : ∀ acc : List Int, acc.length + vs.length ≤ 1000 → (∀ v ∈ vs, v < sz S n) →
    (∀ b, Q (.lst b (iD (acc ++ vs.map fun v => val S p (put (ats (wo p.ns n) f) n v)))) [s0, dSz S, .ext (dP p), dI (n : Nat), .ext (.tup (nD (wo p.ns n))), s5, .ext (.tup (nD f)), s7, .un]) →
    lcD (gSet 8) dYes e1_gathered [8] (fun _ => True) Q (nD vs) (iD acc) [s0, dSz S, .ext (dP p), dI (n : Nat), .ext (.tup (nD (wo p.ns n))), s5, .ext (.tup (nD f)), s7, .un] := by
  induction vs with
  | nil => intro acc _ _ hQ; exact ⟨True.intro, fun b => by simpa using hQ b⟩
  | cons v vs ih =>
    intro acc hl hv hQ
    rw [List.length_cons] at hl
    have hw : (wo p.ns n).length ≤ 24 := Nat.le_trans (rising_len (wo_rise hp.rise) fun m hm => hp.lt m (mem_wo.1 hm).1) hS.few
    have hfl := hf.len
    rw [nD_cons, lcD]
    unfold e1_gathered
    trivial
    rw [nD_len, nD_len]
    have hv0 := hv v List.mem_cons_self
    refine ⟨by rw [iD_len]; exact Nat.lt_of_le_of_lt (by omega : acc.length ≤ 1000) (by decide), by decide, Nat.le_trans (by omega : (wo p.ns n).length + (0 + 1) ≤ 100) (by decide), by decide, Nat.le_trans (by omega : f.length + (0 + 1) ≤ 100) (by decide), ?_⟩
    refine ⟨S, p, wo p.ns n ++ [n], f ++ [v], by simp, hS, hp, wo_app_nd hp.rise, fun m hm => ?_, good_app hf hv0, fun fin => ?_⟩
    · by_cases e : m = n
      · simp [e]
      · exact List.mem_append_left _ (mem_wo.2 ⟨hm, e⟩)
    trivial
    rw [val_app hp hfl]
    have := ih (acc ++ [val S p (put (ats (wo p.ns n) f) n v)]) (by rw [List.length_append, List.length_singleton]; omega) (fun u hu => hv u (List.mem_cons_of_mem _ hu)) (fun b => by simpa using hQ b)
    rw [iD_app] at this
    exact this
theorem q2_gathered {Ex : DX} {E : DEnds} {w : Wd} {S : List Nat} {p : Part} {n : Nat} {a5 : Addr} (hS : SzOk S) (hp : p.Ok S) (hn : n ∈ p.ns) (fs : List (List Nat)) : ∀ (acc : List Int) (s6 s7 : Sl), (∀ f ∈ fs, Good S (wo p.ns n) f) → acc.length + fs.length ≤ 5000 →
    (∀ u6 u7, E.nx [dW w, dSz S, .ext (dP p), dI (n : Nat), .ext (.tup (nD (wo p.ns n))), .lst a5 (iD (acc ++ fs.map fun f => gt w ((List.range (sz S n)).map fun v => val S p (put (ats (wo p.ns n) f) n v)))), u6, u7, .un]) →
    forD (gSet 6) b2_gathered (fun _ => True) Ex E (fD fs) [dW w, dSz S, .ext (dP p), dI (n : Nat), .ext (.tup (nD (wo p.ns n))), .lst a5 (iD acc), s6, s7, .un] := by
  induction fs with
  | nil => intro acc s6 s7 _ _ hE; exact ⟨True.intro, by simpa using hE s6 s7⟩
  | cons f fs ih =>
    intro acc s6 s7 hg hl hE
    rw [List.length_cons] at hl
    have hf := hg f List.mem_cons_self
    have hnS := hp.lt n hn
    have hz := hS.pos _ (sz_mem hnS)
    have hz4 := hS.small _ (sz_mem hnS)
    rw [fD_cons, forD]
    unfold b2_gathered
    trivial
    refine ⟨_, atN (sz_at hnS), ?_⟩
    trivial
    refine ⟨⟨by omega, by omega⟩, ?_⟩
    rw [rgD_nat]
    refine q1_gathered hS hp hn hf (List.range (sz S n)) [] (by simp; omega) (fun v hv => List.mem_range.1 hv) fun b => ?_
    trivial
    refine ⟨w, _, rfl, by simpa using range_ne hz, fun fin => ?_⟩
    trivial
    refine ⟨by rw [iD_len]; exact Nat.lt_of_le_of_lt (by omega : acc.length ≤ 5000) (by decide), ?_⟩
    have := ih (acc ++ [gt w ((List.range (sz S n)).map fun v => val S p (put (ats (wo p.ns n) f) n v))]) (.ext (.tup (nD f))) (.ext (.lst (iD ((List.range (sz S n)).map fun v => val S p (put (ats (wo p.ns n) f) n v))))) (fun g h => hg g (List.mem_cons_of_mem _ h)) (by rw [List.length_append, List.length_singleton]; omega) (fun u6 u7 => by simpa using hE u6 u7)
    rw [iD_app] at this
    exact this
theorem wo_both {S : List Nat} {p : Part} {n : Nat} (hS : SzOk S) (hp : p.Ok S) : ∀ m ∈ wo p.ns n, m < S.length ∧ 0 < sz S m := fun m hm => Part.Ok.both hS hp m (mem_wo.1 hm).1
theorem wo_psz {S : List Nat} {p : Part} {n : Nat} (hS : SzOk S) (hp : p.Ok S) : psz S (wo p.ns n) ≤ 4096 := Nat.le_trans (psz_le hS.pos (wo_rise hp.rise) fun m hm => hp.lt m (mem_wo.1 hm).1) hS.prod
theorem wo_len {S : List Nat} {p : Part} {n : Nat} (hS : SzOk S) (hp : p.Ok S) : (wo p.ns n).length ≤ 24 := Nat.le_trans (rising_len (wo_rise hp.rise) fun m hm => hp.lt m (mem_wo.1 hm).1) hS.few
theorem ok_len {S : List Nat} {p : Part} (hS : SzOk S) (hp : p.Ok S) : p.ns.length ≤ 24 := Nat.le_trans (rising_len hp.rise hp.lt) hS.few
theorem m_gathered : Meets t_gathered 4 5 sp_gathered := by
  rintro args Qd Xd (⟨w, S, p, n, rfl, hS, hp, hn, hQ⟩ | ⟨w, S, p, d, k, rfl, hd, hn, hX⟩)
  all_goals
    show t_gathered _ _ [_, _, _, _, .un, .un, .un, .un, .un]
    unfold t_gathered
    trivial
  rotate_left
  · exact .inr ⟨p, d, k, rfl, hd, hn, fun fin => hX _⟩
  refine .inl ⟨p, n, rfl, hn, fun fin => ?_⟩
  trivial
  refine ⟨p.ns, n, rfl, by have := ok_len hS hp; omega, fun fin => ?_⟩
  trivial
  refine ⟨by decide, fun a5 => ⟨S, wo p.ns n, fArgs_tt, wo_both hS hp, wo_psz hS hp, by have := wo_len (n := n) hS hp; omega, fun fin => ?_⟩⟩
  trivial
  refine q2_gathered hS hp hn (fills S (wo p.ns n)) [] _ _ (fun f hf => mem_fills.1 hf) (by rw [len_fills]; have := wo_psz (n := n) hS hp; simp; omega) fun u6 u7 => ?_
  unfold k3_gathered
  trivial
  exact ⟨by decide, hQ _⟩
def NamesD (many : Int) (d : D) : Prop := ∃ ns : List Nat, d = .tup (nD ns) ∧ Rising ns ∧ ∀ n ∈ ns, (n : Int) < many
def inR (many : Int) : D → Bool
  | .int i => decide (0 ≤ i) && decide (i < many)
  | _ => false
theorem all_inR {many : Int} {ds : List D} (h : ds.all (inR many) = true) : ∃ ns : List Nat, ds = nD ns ∧ ∀ n ∈ ns, (n : Int) < many := by
  induction ds with
  | nil => exact ⟨[], rfl, by simp⟩
  | cons d ds ih =>
    rw [List.all_cons, Bool.and_eq_true] at h
    obtain ⟨ns, rfl, h2⟩ := ih h.2
    cases d with
    | int i =>
      have h1 : decide (0 ≤ i) && decide (i < many) := h.1
      rw [Bool.and_eq_true, decide_eq_true_eq, decide_eq_true_eq] at h1
      refine ⟨i.toNat :: ns, ?_, fun n hn => ?_⟩
      · rw [nD_cons, Int.toNat_of_nonneg h1.1]
      · rcases List.mem_cons.1 hn with rfl | hn
        · omega
        · exact h2 n hn
    | _ => exact absurd h.1 (by simp [inR])
theorem inR_all {many : Int} {ns : List Nat} (h : ∀ n ∈ ns, (n : Int) < many) : (nD ns).all (inR many) = true := by
  rw [List.all_eq_true]
  intro d hd
  obtain ⟨n, hn, rfl⟩ := List.mem_map.1 hd
  have := h n hn
  simp [inR]; omega
theorem rising_adj {ns : List Nat} : Rising ns ↔ ∀ k, k + 1 < ns.length → ns.getD k 0 < ns.getD (k + 1) 0 := by
  induction ns with
  | nil => exact ⟨fun _ k hk => by simp at hk, fun _ => .nil⟩
  | cons x ns ih =>
    unfold Rising at *
    rw [List.pairwise_cons, ih]
    constructor
    · rintro ⟨h1, h2⟩ k hk
      cases k with
      | zero =>
        cases ns with
        | nil => simp at hk
        | cons y ns => simpa using h1 y List.mem_cons_self
      | succ k => simpa using h2 k (by simpa using hk)
    · intro h
      refine ⟨?_, fun k hk => by simpa using h (k + 1) (by simpa using hk)⟩
      have h2 : ∀ k, k < ns.length → x < ns.getD k 0 := by
        intro k
        induction k with
        | zero =>
          intro hk
          have := h 0 (by simp; omega)
          simpa using this
        | succ k ihk =>
          intro hk
          have a := ihk (by omega)
          have b := h (k + 1) (by simp; omega)
          have b' : ns.getD k 0 < ns.getD (k + 1) 0 := by simpa using b
          omega
      intro y hy
      obtain ⟨i, hi, rfl⟩ := List.getElem_of_mem hy
      have := h2 i hi
      simpa [List.getD_eq_getElem?_getD, List.getElem?_eq_getElem hi] using this
theorem nD_inj {a b : List Nat} (h : nD a = nD b) : a = b := by
  induction a generalizing b with
  | nil => cases b with
    | nil => rfl
    | cons y b => simp at h
  | cons x a ih => cases b with
    | nil => simp at h
    | cons y b =>
      rw [nD_cons, nD_cons] at h
      have h1 := (List.cons.inj h).1
      have h2 := ih (List.cons.inj h).2
      have h3 := D.int.inj h1
      rw [h2, show x = y by omega]
def sp_are_names : DSpec := fun args Q _ => ∃ (many : Int) (d : D) (k : Nat), args = [dI many, .ext d] ∧ D.pl k d = true ∧ ∀ (b : Bool) fin, (b = true ↔ NamesD many d) → Q (.ext (.bl b)) fin
def e1_are_names : DT :=
    (dAndV (dCall sp_is_whole (dCons (dVar 2) dNil)) (dChain (fCmp fun i j => decide (i ≤ j)) (fCmp fun i j => decide (i < j)) (dC (.int 0)) (dVar 2) (dVar 0)))
def e2_are_names : DT :=
    (dOp (fCmp fun i j => decide (i < j)) (dOp fIx (dVar 1) (dOp fSub (dVar 3) (dC (.int 1)))) (dOp fIx (dVar 1) (dVar 3)))
def t_are_names : DTS :=
    (sSeq (sIf (dOr (dNot (dTest (dCB fIsi (dCons (dVar 1) (dCons (dC (.val (.ty "tuple"))) dNil))))) (dNot (dTest (dCB fAll (dCons (dLc (dSeq (dVar 1)) (gSet 2) dYes e1_are_names [2]) dNil))))) (sRet (dC (.bl false))) sNext)
    (sRet (dCB fAll (dCons (dLc (dRange2 (dCons (dC (.int 1)) (dCons (dCB fLen (dCons (dVar 1) dNil)) dNil))) (gSet 3) dYes e2_are_names [3]) dNil))))
theorem q1_are_names {Q : Sl → Env' → Prop} {many : Int} {s1 s3 : Sl} {k : Nat} (ds : List D) : ∀ acc : List Bool, (∀ d ∈ ds, D.pl k d = true) → acc.length + ds.length ≤ 200000 → (∀ b, Q (.lst b ((acc ++ ds.map (inR many)).map D.bl)) [dI many, s1, .un, s3]) →
    lcD (gSet 2) dYes e1_are_names [2] (fun _ => True) Q ds (acc.map D.bl) [dI many, s1, .un, s3] := by
  induction ds with
  | nil => intro acc _ _ hQ; exact ⟨True.intro, fun b => by simpa using hQ b⟩
  | cons d ds ih =>
    intro acc hp hl hQ
    rw [List.length_cons] at hl
    rw [lcD]
    unfold e1_are_names
    trivial
    refine ⟨by rw [List.length_map]; exact Nat.lt_of_le_of_lt (by omega : acc.length ≤ 200000) (by decide), d, k, rfl, hp d List.mem_cons_self, fun fin => ?_⟩
    trivial
    have next : ∀ b : Bool, b = inR many d → lcD (gSet 2) dYes e1_are_names [2] (fun _ => True) Q ds (acc.map D.bl ++ [.bl b]) [dI many, s1, .un, s3] := by
      intro b hb
      have := ih (acc ++ [b]) (fun e he => hp e (List.mem_cons_of_mem _ he)) (by rw [List.length_append, List.length_singleton]; omega) (fun a => by rw [hb]; simpa using hQ a)
      rw [List.map_append] at this
      exact this
    cases d with
    | int i =>
      rw [if_pos (show D.isInt (.int i) = true from rfl)]
      trivial
      split
      · refine next _ ?_
        rename_i h0
        simp [inR, h0]
      · refine next _ ?_
        rename_i h0
        simp [inR, h0]
    | _ =>
      rw [if_neg (by simp [D.isInt])]
      exact next _ rfl
theorem q2_are_names {Q : Sl → Env' → Prop} {s0 s2 : Sl} {ns : List Nat} (m : Nat) : ∀ (j : Nat) (acc : List Bool), j + m = ns.length - 1 → acc.length = j → ns.length ≤ 200000 → (∀ b, Q (.lst b ((acc ++ (List.range m).map fun i => decide (ns.getD (j + i) 0 < ns.getD (j + i + 1) 0)).map D.bl)) [s0, .ext (.tup (nD ns)), s2, .un]) →
    lcD (gSet 3) dYes e2_are_names [3] (fun _ => True) Q ((List.range m).map fun i => D.int (1 + ((j + i : Nat) : Int))) (acc.map D.bl) [s0, .ext (.tup (nD ns)), s2, .un] := by
  induction m with
  | zero => intro j acc _ _ _ hQ; exact ⟨True.intro, fun b => by simpa using hQ b⟩
  | succ m ih =>
    intro j acc hj ha hl hQ
    rw [List.range_succ_eq_map, List.map_cons, List.map_map, lcD]
    unfold e2_are_names
    trivial
    refine ⟨by rw [List.length_map]; exact Nat.lt_of_le_of_lt (by omega : acc.length ≤ 200000) (by decide), ?_⟩
    rw [show (1 + ((j + 0 : Nat) : Int) - 1) = ((j : Nat) : Int) by omega, show (1 + ((j + 0 : Nat) : Int)) = ((j + 1 : Nat) : Int) by omega]
    refine ⟨_, atN (getD_at (g := ns) (n := j) (by omega)), ?_⟩
    trivial
    refine ⟨_, atN (getD_at (g := ns) (n := j + 1) (by omega)), ?_⟩
    trivial
    have := ih (j + 1) (acc ++ [decide (ns.getD j 0 < ns.getD (j + 1) 0)]) (by omega) (by simp; omega) hl (fun b => by
      have := hQ b
      rw [List.range_succ_eq_map, List.map_cons, List.map_map] at this
      rw [List.append_assoc]
      have e : ((List.range m).map fun i => decide (ns.getD (j + 1 + i) 0 < ns.getD (j + 1 + i + 1) 0)) = (List.range m).map ((fun i => decide (ns.getD (j + i) 0 < ns.getD (j + i + 1) 0)) ∘ Nat.succ) :=
        List.map_congr_left fun i _ => by show _ = decide (ns.getD (j + (i + 1)) 0 < ns.getD (j + (i + 1) + 1) 0); rw [show j + 1 + i = j + (i + 1) by omega]
      rw [e]
      exact this)
    rw [List.map_append] at this
    have e : ((List.range m).map ((fun i : Nat => D.int (1 + ((j + i : Nat) : Int))) ∘ Nat.succ)) = (List.range m).map fun i : Nat => D.int (1 + ((j + 1 + i : Nat) : Int)) :=
      List.map_congr_left fun i _ => by show D.int (1 + ((j + (i + 1) : Nat) : Int)) = _; rw [show j + 1 + i = j + (i + 1) by omega]
    rw [e]
    have e2 : decide (((ns.getD j 0 : Nat) : Int) < ((ns.getD (j + 1) 0 : Nat) : Int)) = decide (ns.getD j 0 < ns.getD (j + 1) 0) := by
      simp
    rw [e2]
    exact this
theorem m_are_names : Meets t_are_names 2 2 sp_are_names := by
  rintro args Qd Xd ⟨many, d, k, rfl, hp, hQ⟩
  have nv := pl_noVal k d hp
  show t_are_names _ _ [_, _, .un, .un]
  unfold t_are_names
  cases d with
  | val _ => cases k <;> simp [D.pl] at hp
  | fz _ => cases k <;> simp [D.pl] at hp
  | tk _ => cases k <;> simp [D.pl] at hp
  | exc _ => cases k <;> simp [D.pl] at hp
  | glo _ => cases k <;> simp [D.pl] at hp
  | dk _ _ => cases k <;> simp [D.pl] at hp
  | dt _ _ => cases k <;> simp [D.pl] at hp
  | tup ds =>
    cases k with
    | zero => simp [D.pl] at hp
    | succ k =>
      rw [D.pl, Bool.and_eq_true, List.all_eq_true, decide_eq_true_eq] at hp
      trivial
      simp only [nv, D.isFz, true_and, Bool.not_true, Bool.false_eq_true, if_false]
      refine q1_are_names (k := k) ds [] hp.2 (by simp; omega) fun b => ?_
      trivial
      refine ⟨ds.map (inR many), rfl, ?_⟩
      have ea : (ds.map (inR many)).all id = ds.all (inR many) := by rw [List.all_map]; rfl
      rw [ea]
      by_cases h : ds.all (inR many) = true
      · rw [h, if_neg (by simp)]
        obtain ⟨ns, rfl, hns⟩ := all_inR h
        rw [nD_len] at *
        trivial
        refine ⟨⟨by omega, by omega⟩, ⟨by omega, by omega⟩, ?_⟩
        have er : rgD 1 (ns.length : Int) = (List.range (ns.length - 1)).map fun i : Nat => D.int (1 + ((0 + i : Nat) : Int)) := by
          unfold rgD
          rw [show ((ns.length : Int) - 1).toNat = ns.length - 1 by omega]
          exact List.map_congr_left fun i _ => by rw [Nat.zero_add]
        rw [er]
        refine q2_are_names (ns.length - 1) 0 [] (by omega) rfl (by omega) fun b => ?_
        trivial
        refine ⟨_, rfl, ?_⟩
        refine hQ _ _ ?_
        rw [List.all_map, List.all_eq_true]
        constructor
        · intro hr
          refine ⟨ns, rfl, rising_adj.2 fun j hj => ?_, hns⟩
          have := hr j (List.mem_range.2 (by omega))
          simpa using this
        · rintro ⟨ns', e, hr, _⟩ j hj
          have e' : ns = ns' := by
            have := D.tup.inj e
            exact nD_inj this
          subst e'
          have := rising_adj.1 hr j (by have := List.mem_range.1 hj; omega)
          simpa using this
      · have hf : ds.all (inR many) = false := by simpa using h
        rw [hf, if_pos (by simp)]
        refine hQ _ _ ⟨fun z => by simp at z, ?_⟩
        rintro ⟨ns, e, _, hn⟩
        have e := D.tup.inj e
        subst e
        exact absurd (inR_all hn) h
  | _ =>
    trivial
    simp only [nv, D.isFz, true_and, Bool.not_false, if_true]
    exact hQ _ _ ⟨fun z => by simp at z, fun ⟨_, e, _⟩ => by simp at e⟩
def sp_need_names : DSpec := fun args Q X => ∃ (many : Int) (d : D) (k : Nat), args = [dI many, .ext d] ∧ D.pl k d = true ∧ (NamesD many d → ∀ fin, Q (.ext .non) fin) ∧ (¬ NamesD many d → ∀ fin, X "NoName" fin)
def t_need_names : DTS :=
    (sIf (dNot (dTest (dCall sp_are_names (dCons (dVar 0) (dCons (dVar 1) dNil))))) (sRaise "NoName") sNext)
theorem m_need_names : Meets t_need_names 2 0 sp_need_names := by
  rintro args Qd Xd ⟨many, d, k, rfl, hp, hQ, hX⟩
  show t_need_names _ _ [_, _]
  unfold t_need_names
  trivial
  refine ⟨many, d, k, rfl, hp, fun b fin hb => ?_⟩
  trivial
  by_cases hn : NamesD many d
  · rw [hb.2 hn, if_neg (by simp)]
    exact hQ hn _
  · rw [if_pos (by cases b with
      | true => exact absurd (hb.1 rfl) hn
      | false => rfl)]
    exact hX hn _
def sp_widened : DSpec := fun args Q X => (∃ (S : List Nat) (p : Part) (ns : List Nat), args = [dSz S, .ext (dP p), .ext (.tup (nD ns))] ∧ SzOk S ∧ p.Ok S ∧ Rising ns ∧ (∀ n ∈ ns, n < S.length) ∧ ∀ U fin, Uni U p.ns ns → Q (.ext (dP (widP S p U))) fin) ∨
  ∃ (S : List Nat) (p : Part) (d : D) (k : Nat), args = [dSz S, .ext (dP p), .ext d] ∧ D.pl k d = true ∧ ¬ NamesD (S.length : Nat) d ∧ ∀ fin, X "NoName" fin
def e1_widened : DT :=
    (dCall sp_worth_by (dCons (dVar 0) (dCons (dVar 1) (dCons (dVar 3) (dCons (dVar 4) dNil)))))
def t_widened : DTS :=
    (sSeq (sDrop (dCall sp_need_names (dCons (dCB fLen (dCons (dVar 0) dNil)) (dCons (dVar 2) dNil))))
    (sSeq (sSetE 3 (dCB fTuple (dCons (dSortSet (dOp fAdd (dOp fIx (dVar 1) (dC (.int 0))) (dVar 2))) dNil)))
    (sRet (dTup (dCons (dVar 3) (dCons (dCB fTuple (dCons (dLc (dSeq (dCall sp_fillings_of (dCons (dVar 0) (dCons (dVar 3) dNil)))) (gSet 4) dYes e1_widened [4]) dNil)) dNil))))))
theorem q1_widened {Q : Sl → Env' → Prop} {s2 : Sl} {S U : List Nat} {p : Part} (hS : SzOk S) (hp : p.Ok S) (hU : U.Nodup) (hs : ∀ m ∈ p.ns, m ∈ U) (fs : List (List Nat)) : ∀ acc : List Int, acc.length + fs.length ≤ 5000 → (∀ f ∈ fs, Good S U f) →
    (∀ b, Q (.lst b (iD (acc ++ fs.map fun f => val S p (ats U f)))) [dSz S, .ext (dP p), s2, .ext (.tup (nD U)), .un]) →
    lcD (gSet 4) dYes e1_widened [4] (fun _ => True) Q (fD fs) (iD acc) [dSz S, .ext (dP p), s2, .ext (.tup (nD U)), .un] := by
  induction fs with
  | nil => intro acc _ _ hQ; exact ⟨True.intro, fun b => by simpa using hQ b⟩
  | cons f fs ih =>
    intro acc hl hg hQ
    rw [List.length_cons] at hl
    have hf := hg f List.mem_cons_self
    rw [fD_cons, lcD]
    unfold e1_widened
    trivial
    refine ⟨by rw [iD_len]; exact Nat.lt_of_le_of_lt (by omega : acc.length ≤ 5000) (by decide), S, p, U, f, rfl, hS, hp, hU, hs, hf, fun fin => ?_⟩
    trivial
    have := ih (acc ++ [val S p (ats U f)]) (by rw [List.length_append, List.length_singleton]; omega) (fun u hu => hg u (List.mem_cons_of_mem _ hu)) (fun b => by simpa using hQ b)
    rw [iD_app] at this
    exact this
theorem pl_tupN (ns : List Nat) (h : ns.length ≤ 100000) : D.pl 1 (.tup (nD ns)) = true := by
  simp only [D.pl, pl_nats, nD_len, h]
  rfl
theorem m_widened : Meets t_widened 3 2 sp_widened := by
  rintro args Qd Xd (⟨S, p, ns, rfl, hS, hp, hr, hns, hQ⟩ | ⟨S, p, d, k, rfl, hd, hn, hX⟩)
  all_goals
    show t_widened _ _ [_, _, _, .un, .un]
    unfold t_widened
    trivial
  rotate_left
  · rw [nD_len]
    exact ⟨(S.length : Int), d, k, rfl, hd, fun z => absurd z hn, fun _ fin => hX _⟩
  have h1 := ok_len hS hp
  have h2 := rising_len hr hns
  have h3 := hS.few
  rw [nD_len]
  refine ⟨(S.length : Int), .tup (nD ns), 1, rfl, pl_tupN ns (by omega), fun _ fin => ?_, fun z => absurd ⟨ns, rfl, hr, fun n hn => by have := hns n hn; omega⟩ z⟩
  trivial
  refine ⟨by rw [nD_len, nD_len]; exact Nat.le_trans (by omega : p.ns.length + ns.length ≤ 100) (by decide), (p.ns ++ ns).map (fun n : Nat => (n : Int)), by rw [← nD_app]; exact (iD_nat _).symm, by rw [List.length_map, List.length_append]; omega, fun ns' hs hmem => ?_⟩
  obtain ⟨U, rfl, hur, hu⟩ := nat_of_set hs hmem
  rw [show List.map D.int (List.map (fun n : Nat => (n : Int)) U) = nD U from iD_nat U]
  have hU : Uni U p.ns ns := ⟨hur, fun n => (hu n).trans List.mem_append⟩
  have hUl : ∀ n ∈ U, n < S.length := fun n hn => by
    rcases (hU.2 n).1 hn with h | h
    · exact hp.lt n h
    · exact hns n h
  have hps : psz S U ≤ 4096 := Nat.le_trans (psz_le hS.pos hur hUl) hS.prod
  trivial
  refine ⟨S, U, fArgs_tt, fun n hn => ⟨hUl n hn, hS.pos _ (sz_mem (hUl n hn))⟩, hps, by have := rising_len hur hUl; omega, fun fin => ?_⟩
  trivial
  refine q1_widened hS hp hur.nd (fun m hm => (hU.2 m).2 (.inl hm)) (fills S U) [] (by rw [len_fills]; simp; omega) (fun f hf => mem_fills.1 hf) fun b => ?_
  trivial
  exact ⟨by decide, hQ U _ hU⟩
def sp_law_gather : DSpec := sp_gather
def b1_law_gather : DTS :=
    (sIf (dTest (dOp fEq (dVar 0) (dC (.str (Str.ofString "sum"))))) (sSetE 2 (dOp fAdd (dVar 2) (dVar 3))) (sIf (dTest (dOp fEq (dOp (fCmp fun i j => decide (i < j)) (dVar 3) (dVar 2)) (dOp fEq (dVar 0) (dC (.str (Str.ofString "least")))))) (sSetE 2 (dVar 3)) sNext))
def k2_law_gather : DTS :=
    (sRet (dVar 2))
def t_law_gather : DTS :=
    (sSeq (sSetE 2 (dOp fIx (dVar 1) (dC (.int 0))))
    (sSeq (sFor (dSeq (dSl (dVar 1) (dPart (dC (.int 1))) dNoPart)) (gSet 3) b1_law_gather)
    k2_law_gather))
theorem q1_law_gather {Ex : DX} {E : DEnds} {w : Wd} {s1 : Sl} (l : List Int) : ∀ (x : Int) (s3 : Sl), (∀ u3, E.nx [dW w, s1, dI (l.foldl (gop w) x), u3]) →
    forD (gSet 3) b1_law_gather (fun _ => True) Ex E (iD l) [dW w, s1, dI x, s3] := by
  induction l with
  | nil => intro x s3 hE; exact ⟨True.intro, hE s3⟩
  | cons y l ih =>
    intro x s3 hE
    rw [iD_cons, forD]
    unfold b1_law_gather
    trivial
    simp only [w_sum, w_least, decide_eq_true_eq]
    split
    · rename_i e; subst e
      exact ih (x + y) _ hE
    · rename_i e1
      have := ih (gop w x y) (dI y) hE
      by_cases hc : (decide (y < x) == decide (w = .least)) = true
      · rw [if_pos hc]
        have e : gop w x y = y ∨ (gop w x y = x ∧ x = y) := by
          cases w <;> simp [gop] at * <;> omega
        rcases e with e | ⟨e, e'⟩
        · rw [e] at this; exact this
        · rw [e, e'] at this; exact this
      · rw [if_neg hc]
        have e : gop w x y = x := by
          cases w <;> simp [gop] at * <;> omega
        rw [e] at this
        exact this
theorem m_law_gather : Meets t_law_gather 2 2 sp_law_gather := by
  rintro args Qd Xd ⟨w, l, rfl, hl, hQ⟩
  cases l with
  | nil => exact absurd rfl hl
  | cons x l =>
    show t_law_gather _ _ [_, _, .un, .un]
    unfold t_law_gather
    trivial
    have e : cutD (D.int x :: iD l) (some 1) none = iD l := by
      simp [cutD, HT.sIx]
      exact List.take_of_length_le (by simp)
    rw [e]
    refine q1_law_gather l x _ fun u3 => ?_
    unfold k2_law_gather
    trivial
    exact hQ _
end LS
namespace LS
open PySem L2 HD PM
theorem fold1_app {op : Int → Int → Int} (h : CA op) {a b : List Int} (ha : a ≠ []) (hb : b ≠ []) : fold1 op (a ++ b) = op (fold1 op a) (fold1 op b) := by
  induction a with
  | nil => exact absurd rfl ha
  | cons x a ih =>
    by_cases e : a = []
    · subst e; exact fold1_cons h x hb
    · rw [List.cons_append, fold1_cons h x (by simp [e]), ih e, fold1_cons h x e, h.assoc]
theorem fills_nd (S ns : List Nat) : (fills S ns).Nodup := by
  have h : ((fills S ns).map (pl S 0 ns)).Nodup := by rw [fills_pl]; exact List.nodup_range
  have h := List.pairwise_map.1 h
  exact h.imp fun h e => h (by rw [e])
end LS
namespace LS
open PySem L2 HD PM
local macro_rules | `(tactic| trivial) => `(tactic| try simp -dsimp only [↓sSeq, ↓sIf, ↓sRet, ↓retD_ext, ↓retD_lst, ↓retD_al, ↓sSet, ↓sSetE, ↓sAsg, ↓sDrop, ↓sNext, ↓sFor, ↓sRetN, ↓sCont, ↓sBreak, ↓dTest, ↓dOp, ↓dVar_w, ↓dC, ↓dCons, ↓dNil, ↓dTup, ↓dLst, ↓frzDs, ↓frzD_ext, ↓frzD_lst, ↓frzD_al, ↓wd_ext, ↓wd_lst, ↓wd_al, ↓wds, ↓AtS_ext, ↓AtS_lst, ↓AtL, ↓fAdd, ↓fSub, ↓fMul, ↓fDiv, ↓fMod, ↓fPow, ↓fCmp, ↓fIn, ↓fEq_ii, ↓fEq_ss, ↓fEq_bb, ↓fEq_tt, ↓fEq_ll, ↓fNe_ii, ↓fNe_ss, ↓fNe_bb, ↓fNe_tt, ↓fNe_ll, ↓fIx_l, ↓fIx_t, ↓fIx_k, ↓fIx_f, ↓GetS_some, ↓NatS_some, ↓fSl, ↓fIsN, ↓fNotN, ↓D.knN, ↓dNot, ↓dAnd, ↓dOr, ↓dAndV_w, ↓dOrV_w, ↓dNotV, ↓dIf, ↓dNeg, ↓dChain_w, ↓BlS_bl, ↓dCall_w, ↓dCallJ_w, ↓anyAl, ↓frozs, ↓froz, ↓gSet, ↓gTupD, ↓gsCons, ↓gsNil, ↓dSeq, ↓seqD_tup, ↓seqD_elst, ↓seqD_lst, ↓seqD_al, ↓dRange1, ↓dRange2, ↓dZip, ↓dCB, ↓dLc, ↓dYes, ↓dNoPart, ↓dPart, ↓dSl, ↓fLen, ↓fMin, ↓fMax, ↓fSum, ↓fAll, ↓fAny, ↓fSorted, ↓fTuple, ↓fList, ↓dRg1, ↓dRg2, ↓dLstRg, ↓dTupRg, ↓dIndex, ↓fIdx, ↓dAppend_w, ↓dExtend_w, ↓extD_lst, ↓dPopAt_w, ↓popD_int, ↓dPop_w, ↓mutD_w, ↓sSetItem_w, ↓setD_int, ↓dSortSet, ↓dTable_w, ↓wipeE, finals1, finals2, finals3, finals4, finals5, finals6, fin1_ext, fin1_lst, List.getElem?_cons_zero, List.getElem?_cons_succ, List.getElem?_nil, List.set_cons_zero, List.set_cons_succ, List.cons_append, List.nil_append, List.append_nil, List.replicate_succ, List.replicate_zero, List.map_cons, List.map_nil, List.length_cons, List.length_nil, true_and, and_true, ite_true, ite_false, if_true, if_false, Bool.false_eq_true, decide_eq_true_eq, Sl.plain, D.isSq, eq_self_iff_true, forall_const, reduceIte, true_or, or_true, atI_0, atI_1, atI_2, atI_3, ixN_0, ixN_1, ixN_2, AtS_ext, AtS_lst, FzS_lst, FzS_ext, GetS_some, NatS_some, ↓fIsi1, ↓fIsi2, BoolS_some, HD.kb_non_tuple, HD.kb_non_list, HD.kb_non_bool, HD.kb_non_int, HD.kb_non_str, HD.kb_bl_tuple, HD.kb_bl_list, HD.kb_bl_bool, HD.kb_bl_int, HD.kb_bl_str, HD.kb_int_tuple, HD.kb_int_list, HD.kb_int_bool, HD.kb_int_int, HD.kb_int_str, HD.kb_str_tuple, HD.kb_str_list, HD.kb_str_bool, HD.kb_str_int, HD.kb_str_str, HD.kb_lst_tuple, HD.kb_lst_list, HD.kb_lst_bool, HD.kb_lst_int, HD.kb_lst_str, HD.kb_tup_tuple, HD.kb_tup_list, HD.kb_tup_bool, HD.kb_tup_int, HD.kb_tup_str, ↓sFz_w, ↓FzS_lst, ↓FzS_ext, ↓dSortSetL, ↓fAbs, ↓fInt, ↓fRepr, ↓fLtT, ↓sRaise, ↓sTryKeep, ↓dCallV_w, ↓dMeth, ↓fCount, ↓fSplit])
theorem nD_set (g : List Nat) (i v : Nat) : (nD g).set i (.int (v : Nat)) = nD (g.set i v) := List.map_set.symm
theorem R_if {R : Option HD.D → HD.Env' → Prop} {b b' : Bool} {x : HD.D} {env : HD.Env'} (e : b = b') (h : R (if b' = true then some x else none) env) : if b = true then R (some x) env else R none env := by
  subst e
  cases b <;> exact h
theorem R_ifP {R : Option HD.D → HD.Env' → Prop} {p : Prop} [Decidable p] {b : Bool} {x : HD.D} {env : HD.Env'} (e : decide p = b) (h : R (if b = true then some x else none) env) : if p then R (some x) env else R none env := by
  subst e
  by_cases hp : p
  · rw [if_pos hp]; simpa [hp] using h
  · rw [if_neg hp]; simpa [hp] using h
def sp_law_call (FT : FTab) : DSpec := fun args Q X => ∃ (nm : Str) (n : Nat) (spec : DSpec) (ds : List D), args = [.ext (.glo nm), .ext (.tup ds)] ∧ FT nm = some (n, spec) ∧ 0 < ds.length ∧ ds.length ≤ 4 ∧
  ∀ (Q' : Sl → List Sl → Prop) (X' : Str → List Sl → Prop), (∀ r fin, r.plain → r ≠ .un → (∀ fin', Q r fin') → Q' r fin) → (∀ c fin, (∀ fin', X c fin') → X' c fin) → spec (ds.map .ext) Q' X'
def t_law_call (FT : FTab) : DTS :=
    (sSeq (sIf (dTest (dOp fEq (dCB fLen (dCons (dVar 1) dNil)) (dC (.int 2)))) (sRet (dCallV FT 0 (dCons (dOp fIx (dVar 1) (dC (.int 0))) (dCons (dOp fIx (dVar 1) (dC (.int 1))) dNil)))) sNext)
    (sSeq (sIf (dTest (dOp fEq (dCB fLen (dCons (dVar 1) dNil)) (dC (.int 3)))) (sRet (dCallV FT 0 (dCons (dOp fIx (dVar 1) (dC (.int 0))) (dCons (dOp fIx (dVar 1) (dC (.int 1))) (dCons (dOp fIx (dVar 1) (dC (.int 2))) dNil))))) sNext)
    (sSeq (sIf (dTest (dOp fEq (dCB fLen (dCons (dVar 1) dNil)) (dC (.int 4)))) (sRet (dCallV FT 0 (dCons (dOp fIx (dVar 1) (dC (.int 0))) (dCons (dOp fIx (dVar 1) (dC (.int 1))) (dCons (dOp fIx (dVar 1) (dC (.int 2))) (dCons (dOp fIx (dVar 1) (dC (.int 3))) dNil)))))) sNext)
    (sRet (dCallV FT 0 (dCons (dOp fIx (dVar 1) (dC (.int 0))) dNil))))))
theorem m_law_call (FT : FTab) : Meets (t_law_call FT) 2 0 (sp_law_call FT) := by
  rintro args Qd Xd ⟨nm, n, spec, ds, rfl, hF, h0, h4, h⟩
  show t_law_call FT _ _ [_, _]
  unfold t_law_call
  rcases ds with _ | ⟨d1, _ | ⟨d2, _ | ⟨d3, _ | ⟨d4, _ | ⟨d5, ds⟩⟩⟩⟩⟩
  · simp at h0
  all_goals try (simp only [List.length_cons] at h4; omega)
  all_goals
    trivial
    simp only [show ((0 + 1 : Nat) : Int) = 1 from rfl, show ((0 + 1 + 1 : Nat) : Int) = 2 from rfl, show ((0 + 1 + 1 + 1 : Nat) : Int) = 3 from rfl, show ((0 + 1 + 1 + 1 + 1 : Nat) : Int) = 4 from rfl, show ((1 : Int) == 2) = false from rfl, show ((1 : Int) == 3) = false from rfl, show ((1 : Int) == 4) = false from rfl, show ((2 : Int) == 2) = true from rfl, show ((3 : Int) == 2) = false from rfl, show ((3 : Int) == 3) = true from rfl, show ((4 : Int) == 2) = false from rfl, show ((4 : Int) == 3) = false from rfl, show ((4 : Int) == 4) = true from rfl, if_true, if_false, Bool.false_eq_true]
    trivial
    refine ⟨n, spec, hF, ?_⟩
    trivial
    refine h _ _ (fun r fin hr hu hQ => ?_) fun c fin hX => hX _
    cases r with
    | ext d => trivial; exact hQ _
    | lst a ds => trivial; exact hQ _
    | un => exact absurd rfl hu
    | reg a cs => exact ⟨.inl rfl, True.intro, hQ _⟩
    | al i a => exact hr.elim
    | ar i a => exact hr.elim
def xWords : List Str := [Str.ofString "filling", Str.ofString "name", Str.ofString "many", Str.ofString "deeds", Str.ofString "offers", Str.ofString "tree", Str.ofString "bag", Str.ofString "part", Str.ofString "worths", Str.ofString "back", Str.ofString "weights", Str.ofString "number", Str.ofString "row", Str.ofString "text"]
def xWord (c : Str) : Str := xWords.getD (xAll.idxOf c) (Str.ofString "")
def sp_law_class (cs : List Str) : DSpec := fun args Q _ => ∃ c : Str, args = [.ext (.exc c)] ∧ c ∈ cs ∧ c ∈ xAll ∧ ∀ fin, Q (.ext (.str (xWord c))) fin
def t_law_class (cs : List Str) : DTS :=
    (sSeq (sSetE 1 (dLst (dCons (dCB (fIsX (xtab cs)) (dCons (dVar 0) (dCons (dC (.glo "NoFilling")) dNil))) (dCons (dCB (fIsX (xtab cs)) (dCons (dVar 0) (dCons (dC (.glo "NoName")) dNil))) (dCons (dCB (fIsX (xtab cs)) (dCons (dVar 0) (dCons (dC (.glo "TooMany")) dNil))) dNil)))))
    (sSeq (sSetE 1 (dOp fAdd (dVar 1) (dLst (dCons (dCB (fIsX (xtab cs)) (dCons (dVar 0) (dCons (dC (.glo "NoDeeds")) dNil))) (dCons (dCB (fIsX (xtab cs)) (dCons (dVar 0) (dCons (dC (.glo "NoOffers")) dNil))) (dCons (dCB (fIsX (xtab cs)) (dCons (dVar 0) (dCons (dC (.glo "NoTree")) dNil))) dNil))))))
    (sSeq (sSetE 1 (dOp fAdd (dVar 1) (dLst (dCons (dCB (fIsX (xtab cs)) (dCons (dVar 0) (dCons (dC (.glo "NoBag")) dNil))) (dCons (dCB (fIsX (xtab cs)) (dCons (dVar 0) (dCons (dC (.glo "NoPart")) dNil))) (dCons (dCB (fIsX (xtab cs)) (dCons (dVar 0) (dCons (dC (.glo "NoWorths")) dNil))) dNil))))))
    (sSeq (sSetE 1 (dOp fAdd (dVar 1) (dLst (dCons (dCB (fIsX (xtab cs)) (dCons (dVar 0) (dCons (dC (.glo "NoBack")) dNil))) (dCons (dCB (fIsX (xtab cs)) (dCons (dVar 0) (dCons (dC (.glo "NoWeights")) dNil))) (dCons (dCB (fIsX (xtab cs)) (dCons (dVar 0) (dCons (dC (.glo "NoNumber")) dNil))) dNil))))))
    (sSeq (sSetE 1 (dOp fAdd (dVar 1) (dLst (dCons (dCB (fIsX (xtab cs)) (dCons (dVar 0) (dCons (dC (.glo "NoRow")) dNil))) (dCons (dCB (fIsX (xtab cs)) (dCons (dVar 0) (dCons (dC (.glo "NoText")) dNil))) dNil)))))
    (sSeq (sIf (dOr (dTest (dOp fNe (dMeth D.isLst fCount (dVar 1) (dC (.bl true))) (dC (.int 1)))) (dNot (dTest (dCB (fIsX (xtab cs)) (dCons (dVar 0) (dCons (dC (.val (.ty "ValueError"))) dNil)))))) (sRet (dC (.str (Str.ofString "odd")))) sNext)
    (sSeq (sSetE 2 (dC (.str (Str.ofString "filling name many deeds offers tree bag part worths back weights number row text"))))
    (sRet (dOp fIx (dMeth D.isStr fSplit (dVar 2) (dC (.str (Str.ofString " ")))) (dIndex (dVar 1) (dC (.bl true))))))))))))
theorem isX_glo {cs : List Str} {c : Str} (hc : c ∈ cs) (x : Str) (hx : x ∈ xAll) (Q : Sl → Prop) : fIsX (xtab cs) [.exc c, .glo x] Q = Q (.ext (.bl (decide (x = c)))) := by
  refine propext ⟨fun ⟨b, h, q⟩ => ?_, fun q => ⟨_, ?_, q⟩⟩
  · unfold xtab at h
    simp only [if_pos hc, if_pos hx, Option.some.injEq] at h
    rw [h]; exact q
  · unfold xtab
    simp only [if_pos hc, if_pos hx]
theorem isX_ve {cs : List Str} {c : Str} (hc : c ∈ cs) (Q : Sl → Prop) : fIsX (xtab cs) [.exc c, .val (.ty "ValueError")] Q = Q (.ext (.bl true)) := by
  refine propext ⟨fun ⟨b, h, q⟩ => ?_, fun q => ⟨_, ?_, q⟩⟩
  · unfold xtab at h
    simp only [if_pos hc, if_true, Option.some.injEq] at h
    rw [h]; exact q
  · unfold xtab
    simp only [if_pos hc, if_true]
def xKinds (c : Str) : List D := xAll.map fun x => D.bl (decide (x = c))
theorem xk_count {c : Str} (h : c ∈ xAll) : (xKinds c).countP (fun z => eqV z.toV (D.bl true).toV) = 1 := by
  simp only [xAll, List.mem_cons, List.not_mem_nil, or_false] at h
  rcases h with rfl | rfl | rfl | rfl | rfl | rfl | rfl | rfl | rfl | rfl | rfl | rfl | rfl | rfl <;> decide +kernel
theorem xk_at {c : Str} (h : c ∈ xAll) : D.at? (.bl true) (xKinds c) = some (xAll.idxOf c) := by
  simp only [xAll, List.mem_cons, List.not_mem_nil, or_false] at h
  rcases h with rfl | rfl | rfl | rfl | rfl | rfl | rfl | rfl | rfl | rfl | rfl | rfl | rfl | rfl <;> decide +kernel
theorem xk_split : Txt.split (Str.ofString "filling name many deeds offers tree bag part worths back weights number row text") (Str.ofString " ") = xWords := by decide +kernel
theorem m_law_class (cs : List Str) : Meets (t_law_class cs) 1 2 (sp_law_class cs) := by
  rintro args Qd Xd ⟨c, rfl, hc, hx, hQ⟩
  show t_law_class cs _ _ [_, .un, .un]
  unfold t_law_class
  have i1 := isX_glo hc "NoFilling" (by decide)
  have i2 := isX_glo hc "NoName" (by decide)
  have i3 := isX_glo hc "TooMany" (by decide)
  have i4 := isX_glo hc "NoDeeds" (by decide)
  have i5 := isX_glo hc "NoOffers" (by decide)
  have i6 := isX_glo hc "NoTree" (by decide)
  have i7 := isX_glo hc "NoBag" (by decide)
  have i8 := isX_glo hc "NoPart" (by decide)
  have i9 := isX_glo hc "NoWorths" (by decide)
  have i10 := isX_glo hc "NoBack" (by decide)
  have i11 := isX_glo hc "NoWeights" (by decide)
  have i12 := isX_glo hc "NoNumber" (by decide)
  have i13 := isX_glo hc "NoRow" (by decide)
  have i14 := isX_glo hc "NoText" (by decide)
  have iv := isX_ve hc
  simp -dsimp only [↓sSeq, ↓sIf, ↓sRet, ↓retD_ext, ↓retD_lst, ↓retD_al, ↓sSet, ↓sSetE, ↓sAsg, ↓sDrop, ↓sNext, ↓sFor, ↓sRetN, ↓sCont, ↓sBreak, ↓dTest, ↓dOp, ↓dVar_w, ↓dC, ↓dCons, ↓dNil, ↓dTup, ↓dLst, ↓frzDs, ↓frzD_ext, ↓frzD_lst, ↓frzD_al, ↓wd_ext, ↓wd_lst, ↓wd_al, ↓wds, ↓AtS_ext, ↓AtS_lst, ↓AtL, ↓fAdd, ↓fSub, ↓fMul, ↓fDiv, ↓fMod, ↓fPow, ↓fCmp, ↓fIn, ↓fEq_ii, ↓fEq_ss, ↓fEq_bb, ↓fEq_tt, ↓fEq_ll, ↓fNe_ii, ↓fNe_ss, ↓fNe_bb, ↓fNe_tt, ↓fNe_ll, ↓fIx_l, ↓fIx_t, ↓fIx_k, ↓fIx_f, ↓GetS_some, ↓NatS_some, ↓fSl, ↓fIsN, ↓fNotN, ↓D.knN, ↓dNot, ↓dAnd, ↓dOr, ↓dAndV_w, ↓dOrV_w, ↓dNotV, ↓dIf, ↓dNeg, ↓dChain_w, ↓BlS_bl, ↓dCall_w, ↓dCallJ_w, ↓anyAl, ↓frozs, ↓froz, ↓gSet, ↓gTupD, ↓gsCons, ↓gsNil, ↓dSeq, ↓seqD_tup, ↓seqD_elst, ↓seqD_lst, ↓seqD_al, ↓dRange1, ↓dRange2, ↓dZip, ↓dCB, ↓dLc, ↓dYes, ↓dNoPart, ↓dPart, ↓dSl, ↓fLen, ↓fMin, ↓fMax, ↓fSum, ↓fAll, ↓fAny, ↓fSorted, ↓fTuple, ↓fList, ↓dRg1, ↓dRg2, ↓dLstRg, ↓dTupRg, ↓dIndex, ↓fIdx, ↓dAppend_w, ↓dExtend_w, ↓extD_lst, ↓dPopAt_w, ↓popD_int, ↓dPop_w, ↓mutD_w, ↓sSetItem_w, ↓setD_int, ↓dSortSet, ↓dTable_w, ↓wipeE, finals1, finals2, finals3, finals4, finals5, finals6, fin1_ext, fin1_lst, List.getElem?_cons_zero, List.getElem?_cons_succ, List.getElem?_nil, List.set_cons_zero, List.set_cons_succ, List.cons_append, List.nil_append, List.append_nil, List.replicate_succ, List.replicate_zero, List.map_cons, List.map_nil, List.length_cons, List.length_nil, true_and, and_true, ite_true, ite_false, if_true, if_false, Bool.false_eq_true, decide_eq_true_eq, Sl.plain, D.isSq, eq_self_iff_true, forall_const, reduceIte, true_or, or_true, atI_0, atI_1, atI_2, atI_3, ixN_0, ixN_1, ixN_2, AtS_ext, AtS_lst, FzS_lst, FzS_ext, GetS_some, NatS_some, ↓fIsi1, ↓fIsi2, BoolS_some, HD.kb_non_tuple, HD.kb_non_list, HD.kb_non_bool, HD.kb_non_int, HD.kb_non_str, HD.kb_bl_tuple, HD.kb_bl_list, HD.kb_bl_bool, HD.kb_bl_int, HD.kb_bl_str, HD.kb_int_tuple, HD.kb_int_list, HD.kb_int_bool, HD.kb_int_int, HD.kb_int_str, HD.kb_str_tuple, HD.kb_str_list, HD.kb_str_bool, HD.kb_str_int, HD.kb_str_str, HD.kb_lst_tuple, HD.kb_lst_list, HD.kb_lst_bool, HD.kb_lst_int, HD.kb_lst_str, HD.kb_tup_tuple, HD.kb_tup_list, HD.kb_tup_bool, HD.kb_tup_int, HD.kb_tup_str, ↓sFz_w, ↓FzS_lst, ↓FzS_ext, ↓dSortSetL, ↓fAbs, ↓fInt, ↓fRepr, ↓fLtT, ↓sRaise, ↓sTryKeep, ↓dCallV_w, ↓dMeth, ↓fCount, ↓fSplit, i1, i2, i3, i4, i5, i6, i7, i8, i9, i10, i11, i12, i13, i14, iv]
  have h2 := xk_count hx
  have h3 := xk_at hx
  simp only [xKinds, xAll, List.map_cons, List.map_nil] at h2 h3
  rw [h2]
  refine ⟨by decide, by decide, by decide, by decide, by decide, by decide, by decide, by decide, by decide, rfl, rfl, rfl, ?_⟩
  rw [if_neg (by decide), if_neg (by decide)]
  refine ⟨rfl, by decide +kernel, by decide +kernel, rfl, rfl, _, h3, ?_⟩
  rw [xk_split]
  refine ⟨.str (xWord c), atN ?_, ?_⟩
  · rw [List.getElem?_map]
    unfold xWord
    rw [List.getD_eq_getElem?_getD]
    have hl : List.idxOf c xAll < xWords.length := List.idxOf_lt_length_of_mem hx
    change Option.map D.str xWords[List.idxOf c xAll]? = _
    rw [List.getElem?_eq_getElem hl]
    rfl
  · trivial
    exact hQ _
def sp_law_refused (FT : FTab) (cs : List Str) : DSpec := fun args Q _ => ∃ (nm : Str) (n : Nat) (spec : DSpec) (ds : List D), args = [.ext (.glo nm), .ext (.tup ds)] ∧ FT nm = some (n, spec) ∧ 0 < ds.length ∧ ds.length ≤ 4 ∧
  ((∃ c, c ∈ cs ∧ c ∈ xAll ∧ (∀ (Q' : Sl → List Sl → Prop) (X' : Str → List Sl → Prop), (∀ fin, X' c fin) → spec (ds.map .ext) Q' X') ∧ ∀ fin, Q (.ext (.str (xWord c))) fin) ∨
    ((∀ (Q' : Sl → List Sl → Prop) (X' : Str → List Sl → Prop), (∀ r fin, r.plain → r ≠ .un → Q' r fin) → spec (ds.map .ext) Q' X') ∧ ∀ fin, Q (.ext (.str (Str.ofString ""))) fin))
def t_law_refused (FT : FTab) (cs : List Str) : DTS :=
    (sSeq (sSetE 2 (dC .non))
    (sSeq (sTryKeep cs 3 2 (sDrop (dCall (sp_law_call FT) (dCons (dVar 0) (dCons (dVar 1) dNil)))))
    (sRet (dIf (dTest (dOp fIsN (dVar 2) (dC .non))) (dC (.str (Str.ofString ""))) (dCall (sp_law_class cs) (dCons (dVar 2) dNil))))))
theorem m_law_refused (FT : FTab) (cs : List Str) : Meets (t_law_refused FT cs) 2 2 (sp_law_refused FT cs) := by
  rintro args Qd Xd ⟨nm, n, spec, ds, rfl, hF, h0, h4, h⟩
  show t_law_refused FT cs _ _ [_, _, .un, .un]
  unfold t_law_refused
  rcases h with ⟨c, hc, hx, hs, hQ⟩ | ⟨hs, hQ⟩
  · trivial
    refine ⟨nm, n, spec, ds, rfl, hF, h0, h4, fun Q' X' _ hX => hs Q' X' fun fin => hX c fin fun fin' => ?_⟩
    refine ⟨hc, by simp, ?_⟩
    trivial
    rw [if_neg (by simp [D.isNon])]
    refine ⟨c, rfl, hc, hx, fun fin => ?_⟩
    trivial
    exact hQ _
  · trivial
    refine ⟨nm, n, spec, ds, rfl, hF, h0, h4, fun Q' X' hq _ => hs Q' X' fun r fin h1 h2 => hq r fin h1 h2 fun fin' => ?_⟩
    refine ⟨.inl rfl, h1, ?_⟩
    trivial
    rw [if_pos (by rfl)]
    exact hQ _
end LS
namespace LS
open PySem L2 HD PM
local macro_rules | `(tactic| trivial) => `(tactic| try simp -dsimp only [↓sSeq, ↓sIf, ↓sRet, ↓retD_ext, ↓retD_lst, ↓retD_al, ↓sSet, ↓sSetE, ↓sAsg, ↓sDrop, ↓sNext, ↓sFor, ↓sRetN, ↓sCont, ↓sBreak, ↓dTest, ↓dOp, ↓dVar_w, ↓dC, ↓dCons, ↓dNil, ↓dTup, ↓dLst, ↓frzDs, ↓frzD_ext, ↓frzD_lst, ↓frzD_al, ↓wd_ext, ↓wd_lst, ↓wd_al, ↓wds, ↓AtS_ext, ↓AtS_lst, ↓AtL, ↓fAdd, ↓fSub, ↓fMul, ↓fDiv, ↓fMod, ↓fPow, ↓fCmp, ↓fIn, ↓fEq_ii, ↓fEq_ss, ↓fEq_bb, ↓fEq_tt, ↓fEq_ll, ↓fNe_ii, ↓fNe_ss, ↓fNe_bb, ↓fNe_tt, ↓fNe_ll, ↓fIx_l, ↓fIx_t, ↓fIx_k, ↓fIx_f, ↓GetS_some, ↓NatS_some, ↓fSl, ↓fIsN, ↓fNotN, ↓D.knN, ↓dNot, ↓dAnd, ↓dOr, ↓dAndV_w, ↓dOrV_w, ↓dNotV, ↓dIf, ↓dNeg, ↓dChain_w, ↓BlS_bl, ↓dCall_w, ↓dCallJ_w, ↓anyAl, ↓frozs, ↓froz, ↓gSet, ↓gTupD, ↓gsCons, ↓gsNil, ↓dSeq, ↓seqD_tup, ↓seqD_elst, ↓seqD_lst, ↓seqD_al, ↓dRange1, ↓dRange2, ↓dZip, ↓dCB, ↓dLc, ↓dYes, ↓dNoPart, ↓dPart, ↓dSl, ↓fLen, ↓fMin, ↓fMax, ↓fSum, ↓fAll, ↓fAny, ↓fSorted, ↓fTuple, ↓fList, ↓dRg1, ↓dRg2, ↓dLstRg, ↓dTupRg, ↓dIndex, ↓fIdx, ↓dAppend_w, ↓dExtend_w, ↓extD_lst, ↓dPopAt_w, ↓popD_int, ↓dPop_w, ↓mutD_w, ↓sSetItem_w, ↓setD_int, ↓dSortSet, ↓dTable_w, ↓wipeE, finals1, finals2, finals3, finals4, finals5, finals6, fin1_ext, fin1_lst, List.getElem?_cons_zero, List.getElem?_cons_succ, List.getElem?_nil, List.set_cons_zero, List.set_cons_succ, List.cons_append, List.nil_append, List.append_nil, List.replicate_succ, List.replicate_zero, List.map_cons, List.map_nil, List.length_cons, List.length_nil, true_and, and_true, ite_true, ite_false, if_true, if_false, Bool.false_eq_true, decide_eq_true_eq, Sl.plain, D.isSq, eq_self_iff_true, forall_const, reduceIte, true_or, or_true, atI_0, atI_1, atI_2, atI_3, ixN_0, ixN_1, ixN_2, AtS_ext, AtS_lst, FzS_lst, FzS_ext, GetS_some, NatS_some, ↓fIsi1, ↓fIsi2, BoolS_some, HD.kb_non_tuple, HD.kb_non_list, HD.kb_non_bool, HD.kb_non_int, HD.kb_non_str, HD.kb_bl_tuple, HD.kb_bl_list, HD.kb_bl_bool, HD.kb_bl_int, HD.kb_bl_str, HD.kb_int_tuple, HD.kb_int_list, HD.kb_int_bool, HD.kb_int_int, HD.kb_int_str, HD.kb_str_tuple, HD.kb_str_list, HD.kb_str_bool, HD.kb_str_int, HD.kb_str_str, HD.kb_lst_tuple, HD.kb_lst_list, HD.kb_lst_bool, HD.kb_lst_int, HD.kb_lst_str, HD.kb_tup_tuple, HD.kb_tup_list, HD.kb_tup_bool, HD.kb_tup_int, HD.kb_tup_str, ↓sFz_w, ↓FzS_lst, ↓FzS_ext, ↓dSortSetL, ↓fAbs, ↓fInt, ↓fRepr, ↓fLtT, ↓sRaise, ↓sTryKeep, ↓dCallV_w, ↓dMeth, ↓fCount, ↓fSplit])
def sp_unit : DSpec := sp_law_nothing
def t_unit : DTS :=
    (sSeq (sIf (dTest (dOp (fIn false) (dVar 0) (dTup (dCons (dC (.str (Str.ofString "sum"))) (dCons (dC (.str (Str.ofString "any"))) dNil))))) (sRet (dC (.int 1))) sNext)
    (sRet (dIf (dTest (dOp fEq (dVar 0) (dC (.str (Str.ofString "wide"))))) (dC (.int 1000000000000000000000000000000)) (dC (.int 0)))))
theorem w_in_sa (w : Wd) : (D.str w.s).isIn [.str (Str.ofString "sum"), .str (Str.ofString "any")] = decide (w = .sum ∨ w = .any) := by cases w <;> decide +kernel
theorem m_unit : Meets t_unit 1 0 sp_unit := by
  rintro args Qd Xd ⟨w, rfl, hQ⟩
  show t_unit _ _ [_]
  unfold t_unit
  trivial
  simp only [w_in_sa, w_wide, D.flat, decide_eq_true_eq, true_and]
  cases w <;> simp only [reduceCtorEq, if_true, if_false, or_true, true_or, or_false, and_true] <;> exact ⟨by decide, rfl, hQ _⟩
end LS
namespace LS
open PySem L2 HD PM
def jAll (w : Wd) (S : List Nat) (ps : List Part) (g : Nat → Nat) : Int := ps.foldl (fun acc p => jn w acc (val S p g)) (unitW w)
abbrev dPs (ps : List Part) : D := .tup (ps.map dP)
abbrev dSh (S : List Nat) (ps : List Part) : D := .tup [.tup (nD S), dPs ps]
structure ShOk (S : List Nat) (ps : List Part) : Prop where
  sz : SzOk S
  one : 0 < S.length
  ok : ∀ p ∈ ps, p.Ok S
  bd : ∃ b, 0 < b ∧ b * ps.length ≤ 40 * max ps.length 20 ∧ ∀ p ∈ ps, Bd b p
  few : ps.length ≤ 60
structure ShO4 (S : List Nat) (ps : List Part) : Prop extends ShOk S ps where
  b4 : ∀ p ∈ ps, Bd 40 p
instance {S : List Nat} {ps : List Part} : Coe (ShO4 S ps) (ShOk S ps) := ⟨fun h => h.toShOk⟩
theorem unit_bd (w : Wd) : (unitW w).natAbs < 2 ^ 100 := by cases w <;> decide
theorem val_bd {S : List Nat} {p : Part} {g : Nat → Nat} (hp : p.Ok S) {b : Nat} (hb : Bd b p) (hg : Fit S p.ns g) : (val S p g).natAbs < 2 ^ b := hb _ (val_mem hp hg)
end LS
namespace LS
open PySem L2 HD PM
def PsOk (w : Wd) (S : List Nat) (ps : List Part) : Prop := ∀ p ∈ ps, p.Ok S ∧ NumsOk w p
end LS
namespace LS
open PySem L2 HD PM
abbrev cI (l : List Nat) : List Int := l.map fun n : Nat => (n : Int)
def lexN (f g : List Nat) : Bool := HT.lexLt (cI f) (cI g)
theorem lexN_cons (x y : Nat) (f g : List Nat) : lexN (x :: f) (y :: g) = if x = y then lexN f g else decide (x < y) := by
  unfold lexN
  show (if (x : Int) = (y : Int) then _ else decide ((x : Int) < (y : Int))) = _
  by_cases e : x = y
  · rw [if_pos e, if_pos (by omega)]
  · rw [if_neg e, if_neg (by omega)]
    exact decide_eq_decide.2 (by omega)
theorem fills_lex (S ns : List Nat) : (fills S ns).Pairwise fun f g => lexN f g = true := by
  induction ns with
  | nil => exact List.pairwise_singleton _ _
  | cons n ns ih =>
    refine List.pairwise_flatMap.2 ⟨fun w _ => ?_, ?_⟩
    · refine List.pairwise_map.2 (ih.imp fun {f g} h => ?_)
      rw [lexN_cons, if_pos rfl]
      exact h
    · refine List.pairwise_lt_range.imp fun {v w} h x hx y hy => ?_
      obtain ⟨f, _, rfl⟩ := List.mem_map.1 hx
      obtain ⟨g, _, rfl⟩ := List.mem_map.1 hy
      rw [lexN_cons, if_neg (by omega)]
      exact decide_eq_true h
theorem lexN_asym {f g : List Nat} (h : lexN f g = true) : lexN g f = false := by
  induction f generalizing g with
  | nil => cases g with
    | nil => rfl
    | cons y g => rfl
  | cons x f ih => cases g with
    | nil => cases h
    | cons y g =>
      rw [lexN_cons] at h ⊢
      by_cases e : x = y
      · subst e
        rw [if_pos rfl] at h ⊢
        exact ih h
      · rw [if_neg e] at h
        rw [if_neg (by omega)]
        have := of_decide_eq_true h
        exact decide_eq_false (by omega)
end LS
namespace HD
open PySem PyProof.Rows L2
def stepL {α : Type} (xs : List α) (c : Int) : List α := (sliceRange (sliceBounds none none (some c) xs.length).1 (sliceBounds none none (some c) xs.length).2.1 (sliceBounds none none (some c) xs.length).2.2).filterMap (xs[·]?)
def fStep (d : D) (o : Option Int) (Q : Sl → Prop) : Prop := match d, o with
  | .lst ds, some c => c ≠ 0 ∧ ∀ a, Q (.lst a (stepL ds c))
  | .fz ds, some c => c ≠ 0 ∧ ∀ a, Q (.lst a (stepL ds c))
  | .tup ds, some c => c = -1 ∧ Q (.ext (.tup ds.reverse))
  | _, _ => False
def dStep (ta : DT) (tp : DTO) : DT := fun Ex env Q => ta Ex env fun x env1 => tp Ex env1 fun o env2 => wd env2 x fun d => fStep d o fun sl => Q sl env2
end HD
namespace LS
namespace K02
open PySem L2 HD PM
local macro_rules | `(tactic| trivial) => `(tactic| try simp -dsimp only [↓sSeq, ↓sIf, ↓sRet, ↓retD_ext, ↓retD_lst, ↓retD_al, ↓sSet, ↓sSetE, ↓sAsg, ↓sDrop, ↓sNext, ↓sFor, ↓sRetN, ↓sCont, ↓sBreak, ↓dTest, ↓dOp, ↓dVar_w, ↓dC, ↓dCons, ↓dNil, ↓dTup, ↓dLst, ↓frzDs, ↓frzD_ext, ↓frzD_lst, ↓frzD_al, ↓wd_ext, ↓wd_lst, ↓wd_al, ↓wds, ↓AtS_ext, ↓AtS_lst, ↓AtL, ↓fAdd, ↓fSub, ↓fMul, ↓fDiv, ↓fMod, ↓fPow, ↓fCmp, ↓fIn, ↓fEq_ii, ↓fEq_ss, ↓fEq_bb, ↓fEq_tt, ↓fEq_ll, ↓fNe_ii, ↓fNe_ss, ↓fNe_bb, ↓fNe_tt, ↓fNe_ll, ↓fIx_l, ↓fIx_t, ↓fIx_k, ↓fIx_f, ↓GetS_some, ↓NatS_some, ↓fSl, ↓fIsN, ↓fNotN, ↓D.knN, ↓dNot, ↓dAnd, ↓dOr, ↓dAndV_w, ↓dOrV_w, ↓dNotV, ↓dIf, ↓dNeg, ↓dChain_w, ↓BlS_bl, ↓dCall_w, ↓dCallJ_w, ↓anyAl, ↓frozs, ↓froz, ↓gSet, ↓gTupD, ↓gsCons, ↓gsNil, ↓dSeq, ↓seqD_tup, ↓seqD_elst, ↓seqD_lst, ↓seqD_al, ↓dRange1, ↓dRange2, ↓dZip, ↓dCB, ↓dLc, ↓dYes, ↓dNoPart, ↓dPart, ↓dSl, ↓fLen, ↓fMin, ↓fMax, ↓fSum, ↓fAll, ↓fAny, ↓fSorted, ↓fTuple, ↓fList, ↓dRg1, ↓dRg2, ↓dLstRg, ↓dTupRg, ↓dIndex, ↓fIdx, ↓dAppend_w, ↓dExtend_w, ↓extD_lst, ↓dPopAt_w, ↓popD_int, ↓dPop_w, ↓mutD_w, ↓sSetItem_w, ↓setD_int, ↓dSortSet, ↓dTable_w, ↓wipeE, finals1, finals2, finals3, finals4, finals5, finals6, fin1_ext, fin1_lst, List.getElem?_cons_zero, List.getElem?_cons_succ, List.getElem?_nil, List.set_cons_zero, List.set_cons_succ, List.cons_append, List.nil_append, List.append_nil, List.replicate_succ, List.replicate_zero, List.map_cons, List.map_nil, List.length_cons, List.length_nil, true_and, and_true, ite_true, ite_false, if_true, if_false, Bool.false_eq_true, decide_eq_true_eq, Sl.plain, D.isSq, eq_self_iff_true, forall_const, reduceIte, true_or, or_true, atI_0, atI_1, atI_2, atI_3, ixN_0, ixN_1, ixN_2, AtS_ext, AtS_lst, FzS_lst, FzS_ext, GetS_some, NatS_some, ↓fIsi1, ↓fIsi2, BoolS_some, HD.kb_non_tuple, HD.kb_non_list, HD.kb_non_bool, HD.kb_non_int, HD.kb_non_str, HD.kb_bl_tuple, HD.kb_bl_list, HD.kb_bl_bool, HD.kb_bl_int, HD.kb_bl_str, HD.kb_int_tuple, HD.kb_int_list, HD.kb_int_bool, HD.kb_int_int, HD.kb_int_str, HD.kb_str_tuple, HD.kb_str_list, HD.kb_str_bool, HD.kb_str_int, HD.kb_str_str, HD.kb_lst_tuple, HD.kb_lst_list, HD.kb_lst_bool, HD.kb_lst_int, HD.kb_lst_str, HD.kb_tup_tuple, HD.kb_tup_list, HD.kb_tup_bool, HD.kb_tup_int, HD.kb_tup_str, ↓sFz_w, ↓FzS_lst, ↓FzS_ext, ↓dSortSetL, ↓fAbs, ↓fInt, ↓fRepr, ↓fLtT, ↓sRaise, ↓sTryKeep, ↓dCallV_w, ↓dMeth, ↓fCount, ↓fSplit, dStep, fStep])
def sp_law_sheet : DSpec := fun args Q _ => ∃ (n : Nat) (a : Addr) (ds : List D) (w : Wd) (most roof parts : Nat), args = [.lst a ds, dW w, dI (most : Nat), dI (roof : Nat), dI (parts : Nat)] ∧ JarOk n ds ∧ n + 700000 < 4294967296 ∧ 0 < most ∧ most ≤ 24 ∧ 0 < roof ∧ roof ≤ 4096 ∧ parts ≤ 60 ∧
  ∀ (S : List Nat) (ps : List Part) ds' fin, SzOk S → 0 < S.length → S.length ≤ most → prodN S ≤ roof → PsOk w S ps → ps.length ≤ parts → (∀ p ∈ ps, p.ns.length ≤ 3) → JarOk (n + 700000) ds' → Q (.ext (dSh S ps)) (.lst a ds' :: fin)
def e1_law_sheet : DT :=
    (dCallJ sp_law_part 0 (dCons (dVar 1) (dCons (dVar 5) (dCons (dVar 7) dNil))))
def t_law_sheet : DTS :=
    (sSeq (sSetE 5 (dCallJ sp_law_sizes 0 (dCons (dVar 2) (dCons (dVar 3) dNil))))
    (sSeq (sSetE 6 (dCallJ sp_law_dip 0 (dCons (dOp fAdd (dVar 4) (dC (.int 1))) dNil)))
    (sSeq (sSetE 7 (dOp fAdd (dC (.int 2)) (dCallJ sp_law_dip 0 (dCons (dC (.int 2)) dNil))))
    (sRet (dTup (dCons (dVar 5) (dCons (dCB fTuple (dCons (dLc (dRange1 (dCons (dVar 6) dNil)) (gSet 8) dYes e1_law_sheet [8]) dNil)) dNil)))))))
theorem m_law_sheet : Meets t_law_sheet 5 4 sp_law_sheet := by
  rintro args Qd Xd ⟨n, a, ds, w, most, roof, parts, rfl, hj, hn, hm0, hm1, hr0, hr1, hp, hQ⟩
  show t_law_sheet _ _ [_, _, _, _, _, .un, .un, .un, .un]
  unfold t_law_sheet
  trivial
  refine ⟨n, a, ds, most, roof, rfl, hj, by omega, hm0, hm1, hr0, hr1, fun S ds1 fin hS hS1 hSm hSr hj1 => ?_⟩
  trivial
  refine ⟨n + 64, a, ds1, (parts : Int) + 1, rfl, hj1, by omega, by omega, by omega, fun r ds2 fin r0 r1 hj2 => ?_⟩
  trivial
  refine ⟨n + 64 + 1, a, ds2, 2, rfl, hj2, by omega, by omega, by omega, fun q ds3 fin q0 q1 hj3 => ?_⟩
  trivial
  refine ⟨⟨by omega, by omega⟩, ?_⟩
  have er : rgD 0 r = nD (List.range r.toNat) := by rw [← rgD_nat, Int.toNat_of_nonneg r0]
  rw [er]
  obtain ⟨wide, hw⟩ : ∃ z : Nat, 2 + q = (z : Nat) := ⟨(2 + q).toNat, by omega⟩
  refine lc_ind (fun k : Nat => D.int (k : Int)) (fun xs acc env => ∃ (m : Nat) (ds : List D) (ps : List Part), env = [.lst a ds, dW w, dI (most : Nat), dI (roof : Nat), dI (parts : Nat), dSz S, dI r, dI (2 + q), .un] ∧ acc = ps.map dP ∧ JarOk m ds ∧ m + 10000 * xs.length ≤ n + 700000 ∧ ps.length + xs.length = r.toNat ∧ PsOk w S ps ∧ ∀ p ∈ ps, p.ns.length ≤ 3) ?_ ?_ (List.range r.toNat) [] _
    ⟨n + 64 + 1 + 1, ds3, [], rfl, rfl, hj3, by simp; omega, by simp, by intro p hp; simp at hp, by intro p hp; simp at hp⟩
  · rintro acc env ⟨m, ds4, ps, rfl, rfl, hj4, hm4, hl, hps, h3⟩
    simp only [List.length_nil, Nat.add_zero, Nat.mul_zero] at hm4 hl
    refine ⟨True.intro, fun b => ?_⟩
    trivial
    exact ⟨by decide, hQ S ps _ _ hS hS1 hSm hSr hps (by omega) h3 (hj4.up hm4)⟩
  · rintro k xs acc env N ⟨m, ds4, ps, rfl, rfl, hj4, hm4, hl, hps, h3⟩ hN
    rw [List.length_cons] at hm4 hl
    refine ⟨True.intro, by rw [List.length_map]; exact Nat.lt_of_le_of_lt (by omega : _ ≤ 100) (by decide), ?_⟩
    unfold e1_law_sheet
    trivial
    refine ⟨m, a, ds4, w, S, wide, by rw [hw], hj4, by omega, hS, by omega, fun p ds5 fin h1 h2 h4 hj5 => ?_⟩
    trivial
    refine hN _ _ ⟨m + 10000, ds5, ps ++ [p], rfl, by simp, hj5, by omega, by rw [List.length_append, List.length_singleton]; omega, fun q hq => ?_, fun q hq => ?_⟩
    · rcases List.mem_append.1 hq with h | h
      · exact hps q h
      · rw [List.mem_singleton.1 h]; exact ⟨h1, h2⟩
    · rcases List.mem_append.1 hq with h | h
      · exact h3 q h
      · rw [List.mem_singleton.1 h]; omega
theorem lc_filterD {g : DTG} {tt : DTT} {te : DT} {vs : List Nat} {keep : Env' → Prop} {Q : Sl → Env' → Prop} {env : Env'} (f : D → D) (p : D → Bool) (hk : keep env) (xs : List D) (hl : xs.length ≤ sizeLine)
    (h : ∀ x ∈ xs, ∀ R : Option D → Env' → Prop, R (if p x = true then some (f x) else none) env → g x env fun env1 => tt noX env1 fun b env2 => if b = true then te noX env2 fun y env3 => frzD env3 y fun d' env4 => R (some d') (wipeE env4 vs) else R none (wipeE env2 vs))
    (hQ : ∀ a, Q (.lst a ((xs.filter p).map f)) env) : lcD g tt te vs keep Q xs [] env := by
  have := lc_filter (g := g) (tt := tt) (te := te) (vs := vs) (keep := keep) (Q := Q) (fun d : D => d) f p hk xs hl h hQ
  rwa [List.map_id'] at this
end K02
end LS
namespace HD
open PySem L2
section
variable {G : GG} {N : List Str} {sc : SC} {k : Nat} {a b : Expr} {pos : Pos}
def sPar (i j : Nat) (t : DTA) : DTS := fun Ex E env => t Ex env fun xs env1 => frzDs env1 xs fun ds env2 => match ds with
  | [d, d'] => E.nx ((env2.set i (.ext d)).set j (.ext d'))
  | _ => False
end
end HD
namespace HD
open PySem L2
def enD (xs : List D) : List D := (xs.zipIdx).map fun p => D.tk [.int (p.2 : Nat), p.1]
def dEnum (ta : DT) : DTI := fun Ex env Q => ta Ex env fun x env1 => seqD env1 x fun xs k1 => Q (enD xs) k1 env1
end HD
namespace HD
open PySem PySem.Spec PyProof.Rows L2
def fMulT : D → D → (Sl → Prop) → Prop
  | .tup xs, .int k, Q => 0 ≤ k ∧ k < 2 ^ 63 ∧ xs.length * k.toNat ≤ sizeLine ∧ Q (.ext (.tup (List.replicate k.toNat xs).flatten))
  | _, _, _ => False
def fIsB : D → D → (Sl → Prop) → Prop
  | .bl i, .bl j, Q => Q (.ext (.bl (i == j)))
  | _, _, _ => False
def fNotB : D → D → (Sl → Prop) → Prop
  | .bl i, .bl j, Q => Q (.ext (.bl (!(i == j))))
  | _, _, _ => False
end HD
namespace LS
namespace K01
open PySem L2 HD PM
open K02 (sp_law_sheet lc_filterD)
theorem pl_tup {k : Nat} {ds : List D} (h : D.pl (k + 1) (.tup ds) = true) : ds.length ≤ 100000 ∧ ∀ d ∈ ds, D.pl k d = true := by
  rw [D.pl, Bool.and_eq_true, List.all_eq_true, decide_eq_true_eq] at h
  exact h
theorem iD_nat {l : List Int} (h : ∀ i ∈ l, 0 ≤ i) : ∃ ns : List Nat, iD l = nD ns ∧ ns.length = l.length ∧ ∀ n ∈ ns, (n : Int) ∈ l := by
  refine ⟨l.map Int.toNat, ?_, by simp, fun n hn => ?_⟩
  · rw [iD, nD, List.map_map]
    exact List.map_congr_left fun i hi' => by
      show D.int i = D.int ((i.toNat : Nat) : Int)
      rw [Int.toNat_of_nonneg (h i hi')]
  · obtain ⟨i, hi', rfl⟩ := List.mem_map.1 hn
    rw [Int.toNat_of_nonneg (h i hi')]
    exact hi'
theorem nD_iD (ns : List Nat) : nD ns = iD (ns.map fun n : Nat => (n : Int)) := by
  rw [iD, nD, List.map_map]
  rfl
theorem isInt_all {ds : List D} (h : ∀ d ∈ ds, D.isInt d = true) : ∃ l : List Int, ds = iD l := by
  induction ds with
  | nil => exact ⟨[], rfl⟩
  | cons d ds ih =>
    obtain ⟨l, rfl⟩ := ih fun e he => h e (List.mem_cons_of_mem _ he)
    have := h d List.mem_cons_self
    cases d with
    | int i => exact ⟨i :: l, rfl⟩
    | _ => simp [D.isInt] at this
theorem fil0 {α : Type} {p : α → Bool} {l : List α} : (l.filter p).length = 0 ↔ ∀ x ∈ l, p x = false := by
  rw [List.length_eq_zero_iff, List.filter_eq_nil_iff]
  exact ⟨fun h x hx => by simpa using h x hx, fun h x hx => by simp [h x hx]⟩
theorem iD_inj {a b : List Int} (h : iD a = iD b) : a = b := (List.map_inj_right (fun x y hxy => D.int.inj hxy)).1 h
end K01
end LS
namespace HD
open PySem L2
theorem seq_setE (i : Nat) (t : DT) (u : DTS) (Ex : DX) (E : DEnds) (env : Env') : sSeq (sSetE i t) u Ex E env = t Ex env fun x env1 => frzD env1 x fun d env2 => u Ex E (env2.set i (.ext d)) := rfl
theorem seq_set (i : Nat) (t : DT) (u : DTS) (Ex : DX) (E : DEnds) (env : Env') : sSeq (sSet i t) u Ex E env = t Ex env fun x env1 => retD env1 x fun r env2 => u Ex E (env2.set i r) := rfl
theorem seq_drop (t : DT) (u : DTS) (Ex : DX) (E : DEnds) (env : Env') : sSeq (sDrop t) u Ex E env = t Ex env fun _ env1 => u Ex E env1 := rfl
theorem seq_asg (t : DT) (g : DTG) (u : DTS) (Ex : DX) (E : DEnds) (env : Env') : sSeq (sAsg t g) u Ex E env = t Ex env fun x env1 => frzD env1 x fun d env2 => g d env2 fun env3 => u Ex E env3 := rfl
theorem seq_if (c : DTT) (t v : DTS) (u : DTS) (Ex : DX) (E : DEnds) (env : Env') : sSeq (sIf c t v) u Ex E env = c Ex env fun b env1 => if b = true then t Ex { E with nx := fun env1 => u Ex E env1 } env1 else v Ex { E with nx := fun env1 => u Ex E env1 } env1 := rfl
theorem seq_for (ti : DTI) (g : DTG) (b : DTS) (u : DTS) (Ex : DX) (E : DEnds) (env : Env') : sSeq (sFor ti g b) u Ex E env = ti Ex env fun items keep env1 => forD g b keep Ex { E with nx := fun env1 => u Ex E env1 } items env1 := rfl
theorem dv0 (d : D) (r : Env') (Ex : DX) (Q : Sl → Env' → Prop) : dVar 0 Ex (.ext d :: r) Q = Q (.ext d) (.ext d :: r) := rfl
theorem dw0 (a : Addr) (ds : List D) (r : Env') (Ex : DX) (Q : Sl → Env' → Prop) : dVar 0 Ex (.lst a ds :: r) Q = Q (.al 0 a) (.lst a ds :: r) := rfl
theorem dv1 (s0 : Sl) (d : D) (r : Env') (Ex : DX) (Q : Sl → Env' → Prop) : dVar 1 Ex (s0 :: .ext d :: r) Q = Q (.ext d) (s0 :: .ext d :: r) := rfl
theorem dw1 (s0 : Sl) (a : Addr) (ds : List D) (r : Env') (Ex : DX) (Q : Sl → Env' → Prop) : dVar 1 Ex (s0 :: .lst a ds :: r) Q = Q (.al 1 a) (s0 :: .lst a ds :: r) := rfl
theorem dv2 (s0 s1 : Sl) (d : D) (r : Env') (Ex : DX) (Q : Sl → Env' → Prop) : dVar 2 Ex (s0 :: s1 :: .ext d :: r) Q = Q (.ext d) (s0 :: s1 :: .ext d :: r) := rfl
theorem dw2 (s0 s1 : Sl) (a : Addr) (ds : List D) (r : Env') (Ex : DX) (Q : Sl → Env' → Prop) : dVar 2 Ex (s0 :: s1 :: .lst a ds :: r) Q = Q (.al 2 a) (s0 :: s1 :: .lst a ds :: r) := rfl
theorem dv3 (s0 s1 s2 : Sl) (d : D) (r : Env') (Ex : DX) (Q : Sl → Env' → Prop) : dVar 3 Ex (s0 :: s1 :: s2 :: .ext d :: r) Q = Q (.ext d) (s0 :: s1 :: s2 :: .ext d :: r) := rfl
theorem dw3 (s0 s1 s2 : Sl) (a : Addr) (ds : List D) (r : Env') (Ex : DX) (Q : Sl → Env' → Prop) : dVar 3 Ex (s0 :: s1 :: s2 :: .lst a ds :: r) Q = Q (.al 3 a) (s0 :: s1 :: s2 :: .lst a ds :: r) := rfl
theorem dv4 (s0 s1 s2 s3 : Sl) (d : D) (r : Env') (Ex : DX) (Q : Sl → Env' → Prop) : dVar 4 Ex (s0 :: s1 :: s2 :: s3 :: .ext d :: r) Q = Q (.ext d) (s0 :: s1 :: s2 :: s3 :: .ext d :: r) := rfl
theorem dw4 (s0 s1 s2 s3 : Sl) (a : Addr) (ds : List D) (r : Env') (Ex : DX) (Q : Sl → Env' → Prop) : dVar 4 Ex (s0 :: s1 :: s2 :: s3 :: .lst a ds :: r) Q = Q (.al 4 a) (s0 :: s1 :: s2 :: s3 :: .lst a ds :: r) := rfl
theorem dv5 (s0 s1 s2 s3 s4 : Sl) (d : D) (r : Env') (Ex : DX) (Q : Sl → Env' → Prop) : dVar 5 Ex (s0 :: s1 :: s2 :: s3 :: s4 :: .ext d :: r) Q = Q (.ext d) (s0 :: s1 :: s2 :: s3 :: s4 :: .ext d :: r) := rfl
theorem dw5 (s0 s1 s2 s3 s4 : Sl) (a : Addr) (ds : List D) (r : Env') (Ex : DX) (Q : Sl → Env' → Prop) : dVar 5 Ex (s0 :: s1 :: s2 :: s3 :: s4 :: .lst a ds :: r) Q = Q (.al 5 a) (s0 :: s1 :: s2 :: s3 :: s4 :: .lst a ds :: r) := rfl
theorem dv6 (s0 s1 s2 s3 s4 s5 : Sl) (d : D) (r : Env') (Ex : DX) (Q : Sl → Env' → Prop) : dVar 6 Ex (s0 :: s1 :: s2 :: s3 :: s4 :: s5 :: .ext d :: r) Q = Q (.ext d) (s0 :: s1 :: s2 :: s3 :: s4 :: s5 :: .ext d :: r) := rfl
theorem dw6 (s0 s1 s2 s3 s4 s5 : Sl) (a : Addr) (ds : List D) (r : Env') (Ex : DX) (Q : Sl → Env' → Prop) : dVar 6 Ex (s0 :: s1 :: s2 :: s3 :: s4 :: s5 :: .lst a ds :: r) Q = Q (.al 6 a) (s0 :: s1 :: s2 :: s3 :: s4 :: s5 :: .lst a ds :: r) := rfl
theorem dv7 (s0 s1 s2 s3 s4 s5 s6 : Sl) (d : D) (r : Env') (Ex : DX) (Q : Sl → Env' → Prop) : dVar 7 Ex (s0 :: s1 :: s2 :: s3 :: s4 :: s5 :: s6 :: .ext d :: r) Q = Q (.ext d) (s0 :: s1 :: s2 :: s3 :: s4 :: s5 :: s6 :: .ext d :: r) := rfl
theorem dw7 (s0 s1 s2 s3 s4 s5 s6 : Sl) (a : Addr) (ds : List D) (r : Env') (Ex : DX) (Q : Sl → Env' → Prop) : dVar 7 Ex (s0 :: s1 :: s2 :: s3 :: s4 :: s5 :: s6 :: .lst a ds :: r) Q = Q (.al 7 a) (s0 :: s1 :: s2 :: s3 :: s4 :: s5 :: s6 :: .lst a ds :: r) := rfl
theorem dv8 (s0 s1 s2 s3 s4 s5 s6 s7 : Sl) (d : D) (r : Env') (Ex : DX) (Q : Sl → Env' → Prop) : dVar 8 Ex (s0 :: s1 :: s2 :: s3 :: s4 :: s5 :: s6 :: s7 :: .ext d :: r) Q = Q (.ext d) (s0 :: s1 :: s2 :: s3 :: s4 :: s5 :: s6 :: s7 :: .ext d :: r) := rfl
theorem dw8 (s0 s1 s2 s3 s4 s5 s6 s7 : Sl) (a : Addr) (ds : List D) (r : Env') (Ex : DX) (Q : Sl → Env' → Prop) : dVar 8 Ex (s0 :: s1 :: s2 :: s3 :: s4 :: s5 :: s6 :: s7 :: .lst a ds :: r) Q = Q (.al 8 a) (s0 :: s1 :: s2 :: s3 :: s4 :: s5 :: s6 :: s7 :: .lst a ds :: r) := rfl
theorem dv9 (s0 s1 s2 s3 s4 s5 s6 s7 s8 : Sl) (d : D) (r : Env') (Ex : DX) (Q : Sl → Env' → Prop) : dVar 9 Ex (s0 :: s1 :: s2 :: s3 :: s4 :: s5 :: s6 :: s7 :: s8 :: .ext d :: r) Q = Q (.ext d) (s0 :: s1 :: s2 :: s3 :: s4 :: s5 :: s6 :: s7 :: s8 :: .ext d :: r) := rfl
theorem dw9 (s0 s1 s2 s3 s4 s5 s6 s7 s8 : Sl) (a : Addr) (ds : List D) (r : Env') (Ex : DX) (Q : Sl → Env' → Prop) : dVar 9 Ex (s0 :: s1 :: s2 :: s3 :: s4 :: s5 :: s6 :: s7 :: s8 :: .lst a ds :: r) Q = Q (.al 9 a) (s0 :: s1 :: s2 :: s3 :: s4 :: s5 :: s6 :: s7 :: s8 :: .lst a ds :: r) := rfl
theorem dv10 (s0 s1 s2 s3 s4 s5 s6 s7 s8 s9 : Sl) (d : D) (r : Env') (Ex : DX) (Q : Sl → Env' → Prop) : dVar 10 Ex (s0 :: s1 :: s2 :: s3 :: s4 :: s5 :: s6 :: s7 :: s8 :: s9 :: .ext d :: r) Q = Q (.ext d) (s0 :: s1 :: s2 :: s3 :: s4 :: s5 :: s6 :: s7 :: s8 :: s9 :: .ext d :: r) := rfl
theorem dw10 (s0 s1 s2 s3 s4 s5 s6 s7 s8 s9 : Sl) (a : Addr) (ds : List D) (r : Env') (Ex : DX) (Q : Sl → Env' → Prop) : dVar 10 Ex (s0 :: s1 :: s2 :: s3 :: s4 :: s5 :: s6 :: s7 :: s8 :: s9 :: .lst a ds :: r) Q = Q (.al 10 a) (s0 :: s1 :: s2 :: s3 :: s4 :: s5 :: s6 :: s7 :: s8 :: s9 :: .lst a ds :: r) := rfl
theorem dv11 (s0 s1 s2 s3 s4 s5 s6 s7 s8 s9 s10 : Sl) (d : D) (r : Env') (Ex : DX) (Q : Sl → Env' → Prop) : dVar 11 Ex (s0 :: s1 :: s2 :: s3 :: s4 :: s5 :: s6 :: s7 :: s8 :: s9 :: s10 :: .ext d :: r) Q = Q (.ext d) (s0 :: s1 :: s2 :: s3 :: s4 :: s5 :: s6 :: s7 :: s8 :: s9 :: s10 :: .ext d :: r) := rfl
theorem dw11 (s0 s1 s2 s3 s4 s5 s6 s7 s8 s9 s10 : Sl) (a : Addr) (ds : List D) (r : Env') (Ex : DX) (Q : Sl → Env' → Prop) : dVar 11 Ex (s0 :: s1 :: s2 :: s3 :: s4 :: s5 :: s6 :: s7 :: s8 :: s9 :: s10 :: .lst a ds :: r) Q = Q (.al 11 a) (s0 :: s1 :: s2 :: s3 :: s4 :: s5 :: s6 :: s7 :: s8 :: s9 :: s10 :: .lst a ds :: r) := rfl
theorem dv12 (s0 s1 s2 s3 s4 s5 s6 s7 s8 s9 s10 s11 : Sl) (d : D) (r : Env') (Ex : DX) (Q : Sl → Env' → Prop) : dVar 12 Ex (s0 :: s1 :: s2 :: s3 :: s4 :: s5 :: s6 :: s7 :: s8 :: s9 :: s10 :: s11 :: .ext d :: r) Q = Q (.ext d) (s0 :: s1 :: s2 :: s3 :: s4 :: s5 :: s6 :: s7 :: s8 :: s9 :: s10 :: s11 :: .ext d :: r) := rfl
theorem dw12 (s0 s1 s2 s3 s4 s5 s6 s7 s8 s9 s10 s11 : Sl) (a : Addr) (ds : List D) (r : Env') (Ex : DX) (Q : Sl → Env' → Prop) : dVar 12 Ex (s0 :: s1 :: s2 :: s3 :: s4 :: s5 :: s6 :: s7 :: s8 :: s9 :: s10 :: s11 :: .lst a ds :: r) Q = Q (.al 12 a) (s0 :: s1 :: s2 :: s3 :: s4 :: s5 :: s6 :: s7 :: s8 :: s9 :: s10 :: s11 :: .lst a ds :: r) := rfl
theorem dv13 (s0 s1 s2 s3 s4 s5 s6 s7 s8 s9 s10 s11 s12 : Sl) (d : D) (r : Env') (Ex : DX) (Q : Sl → Env' → Prop) : dVar 13 Ex (s0 :: s1 :: s2 :: s3 :: s4 :: s5 :: s6 :: s7 :: s8 :: s9 :: s10 :: s11 :: s12 :: .ext d :: r) Q = Q (.ext d) (s0 :: s1 :: s2 :: s3 :: s4 :: s5 :: s6 :: s7 :: s8 :: s9 :: s10 :: s11 :: s12 :: .ext d :: r) := rfl
theorem dw13 (s0 s1 s2 s3 s4 s5 s6 s7 s8 s9 s10 s11 s12 : Sl) (a : Addr) (ds : List D) (r : Env') (Ex : DX) (Q : Sl → Env' → Prop) : dVar 13 Ex (s0 :: s1 :: s2 :: s3 :: s4 :: s5 :: s6 :: s7 :: s8 :: s9 :: s10 :: s11 :: s12 :: .lst a ds :: r) Q = Q (.al 13 a) (s0 :: s1 :: s2 :: s3 :: s4 :: s5 :: s6 :: s7 :: s8 :: s9 :: s10 :: s11 :: s12 :: .lst a ds :: r) := rfl
theorem dv14 (s0 s1 s2 s3 s4 s5 s6 s7 s8 s9 s10 s11 s12 s13 : Sl) (d : D) (r : Env') (Ex : DX) (Q : Sl → Env' → Prop) : dVar 14 Ex (s0 :: s1 :: s2 :: s3 :: s4 :: s5 :: s6 :: s7 :: s8 :: s9 :: s10 :: s11 :: s12 :: s13 :: .ext d :: r) Q = Q (.ext d) (s0 :: s1 :: s2 :: s3 :: s4 :: s5 :: s6 :: s7 :: s8 :: s9 :: s10 :: s11 :: s12 :: s13 :: .ext d :: r) := rfl
theorem dw14 (s0 s1 s2 s3 s4 s5 s6 s7 s8 s9 s10 s11 s12 s13 : Sl) (a : Addr) (ds : List D) (r : Env') (Ex : DX) (Q : Sl → Env' → Prop) : dVar 14 Ex (s0 :: s1 :: s2 :: s3 :: s4 :: s5 :: s6 :: s7 :: s8 :: s9 :: s10 :: s11 :: s12 :: s13 :: .lst a ds :: r) Q = Q (.al 14 a) (s0 :: s1 :: s2 :: s3 :: s4 :: s5 :: s6 :: s7 :: s8 :: s9 :: s10 :: s11 :: s12 :: s13 :: .lst a ds :: r) := rfl
theorem dv15 (s0 s1 s2 s3 s4 s5 s6 s7 s8 s9 s10 s11 s12 s13 s14 : Sl) (d : D) (r : Env') (Ex : DX) (Q : Sl → Env' → Prop) : dVar 15 Ex (s0 :: s1 :: s2 :: s3 :: s4 :: s5 :: s6 :: s7 :: s8 :: s9 :: s10 :: s11 :: s12 :: s13 :: s14 :: .ext d :: r) Q = Q (.ext d) (s0 :: s1 :: s2 :: s3 :: s4 :: s5 :: s6 :: s7 :: s8 :: s9 :: s10 :: s11 :: s12 :: s13 :: s14 :: .ext d :: r) := rfl
theorem dw15 (s0 s1 s2 s3 s4 s5 s6 s7 s8 s9 s10 s11 s12 s13 s14 : Sl) (a : Addr) (ds : List D) (r : Env') (Ex : DX) (Q : Sl → Env' → Prop) : dVar 15 Ex (s0 :: s1 :: s2 :: s3 :: s4 :: s5 :: s6 :: s7 :: s8 :: s9 :: s10 :: s11 :: s12 :: s13 :: s14 :: .lst a ds :: r) Q = Q (.al 15 a) (s0 :: s1 :: s2 :: s3 :: s4 :: s5 :: s6 :: s7 :: s8 :: s9 :: s10 :: s11 :: s12 :: s13 :: s14 :: .lst a ds :: r) := rfl
theorem dv16 (s0 s1 s2 s3 s4 s5 s6 s7 s8 s9 s10 s11 s12 s13 s14 s15 : Sl) (d : D) (r : Env') (Ex : DX) (Q : Sl → Env' → Prop) : dVar 16 Ex (s0 :: s1 :: s2 :: s3 :: s4 :: s5 :: s6 :: s7 :: s8 :: s9 :: s10 :: s11 :: s12 :: s13 :: s14 :: s15 :: .ext d :: r) Q = Q (.ext d) (s0 :: s1 :: s2 :: s3 :: s4 :: s5 :: s6 :: s7 :: s8 :: s9 :: s10 :: s11 :: s12 :: s13 :: s14 :: s15 :: .ext d :: r) := rfl
theorem dw16 (s0 s1 s2 s3 s4 s5 s6 s7 s8 s9 s10 s11 s12 s13 s14 s15 : Sl) (a : Addr) (ds : List D) (r : Env') (Ex : DX) (Q : Sl → Env' → Prop) : dVar 16 Ex (s0 :: s1 :: s2 :: s3 :: s4 :: s5 :: s6 :: s7 :: s8 :: s9 :: s10 :: s11 :: s12 :: s13 :: s14 :: s15 :: .lst a ds :: r) Q = Q (.al 16 a) (s0 :: s1 :: s2 :: s3 :: s4 :: s5 :: s6 :: s7 :: s8 :: s9 :: s10 :: s11 :: s12 :: s13 :: s14 :: s15 :: .lst a ds :: r) := rfl
theorem dv17 (s0 s1 s2 s3 s4 s5 s6 s7 s8 s9 s10 s11 s12 s13 s14 s15 s16 : Sl) (d : D) (r : Env') (Ex : DX) (Q : Sl → Env' → Prop) : dVar 17 Ex (s0 :: s1 :: s2 :: s3 :: s4 :: s5 :: s6 :: s7 :: s8 :: s9 :: s10 :: s11 :: s12 :: s13 :: s14 :: s15 :: s16 :: .ext d :: r) Q = Q (.ext d) (s0 :: s1 :: s2 :: s3 :: s4 :: s5 :: s6 :: s7 :: s8 :: s9 :: s10 :: s11 :: s12 :: s13 :: s14 :: s15 :: s16 :: .ext d :: r) := rfl
theorem dw17 (s0 s1 s2 s3 s4 s5 s6 s7 s8 s9 s10 s11 s12 s13 s14 s15 s16 : Sl) (a : Addr) (ds : List D) (r : Env') (Ex : DX) (Q : Sl → Env' → Prop) : dVar 17 Ex (s0 :: s1 :: s2 :: s3 :: s4 :: s5 :: s6 :: s7 :: s8 :: s9 :: s10 :: s11 :: s12 :: s13 :: s14 :: s15 :: s16 :: .lst a ds :: r) Q = Q (.al 17 a) (s0 :: s1 :: s2 :: s3 :: s4 :: s5 :: s6 :: s7 :: s8 :: s9 :: s10 :: s11 :: s12 :: s13 :: s14 :: s15 :: s16 :: .lst a ds :: r) := rfl
theorem dv18 (s0 s1 s2 s3 s4 s5 s6 s7 s8 s9 s10 s11 s12 s13 s14 s15 s16 s17 : Sl) (d : D) (r : Env') (Ex : DX) (Q : Sl → Env' → Prop) : dVar 18 Ex (s0 :: s1 :: s2 :: s3 :: s4 :: s5 :: s6 :: s7 :: s8 :: s9 :: s10 :: s11 :: s12 :: s13 :: s14 :: s15 :: s16 :: s17 :: .ext d :: r) Q = Q (.ext d) (s0 :: s1 :: s2 :: s3 :: s4 :: s5 :: s6 :: s7 :: s8 :: s9 :: s10 :: s11 :: s12 :: s13 :: s14 :: s15 :: s16 :: s17 :: .ext d :: r) := rfl
theorem dw18 (s0 s1 s2 s3 s4 s5 s6 s7 s8 s9 s10 s11 s12 s13 s14 s15 s16 s17 : Sl) (a : Addr) (ds : List D) (r : Env') (Ex : DX) (Q : Sl → Env' → Prop) : dVar 18 Ex (s0 :: s1 :: s2 :: s3 :: s4 :: s5 :: s6 :: s7 :: s8 :: s9 :: s10 :: s11 :: s12 :: s13 :: s14 :: s15 :: s16 :: s17 :: .lst a ds :: r) Q = Q (.al 18 a) (s0 :: s1 :: s2 :: s3 :: s4 :: s5 :: s6 :: s7 :: s8 :: s9 :: s10 :: s11 :: s12 :: s13 :: s14 :: s15 :: s16 :: s17 :: .lst a ds :: r) := rfl
theorem dv19 (s0 s1 s2 s3 s4 s5 s6 s7 s8 s9 s10 s11 s12 s13 s14 s15 s16 s17 s18 : Sl) (d : D) (r : Env') (Ex : DX) (Q : Sl → Env' → Prop) : dVar 19 Ex (s0 :: s1 :: s2 :: s3 :: s4 :: s5 :: s6 :: s7 :: s8 :: s9 :: s10 :: s11 :: s12 :: s13 :: s14 :: s15 :: s16 :: s17 :: s18 :: .ext d :: r) Q = Q (.ext d) (s0 :: s1 :: s2 :: s3 :: s4 :: s5 :: s6 :: s7 :: s8 :: s9 :: s10 :: s11 :: s12 :: s13 :: s14 :: s15 :: s16 :: s17 :: s18 :: .ext d :: r) := rfl
theorem dw19 (s0 s1 s2 s3 s4 s5 s6 s7 s8 s9 s10 s11 s12 s13 s14 s15 s16 s17 s18 : Sl) (a : Addr) (ds : List D) (r : Env') (Ex : DX) (Q : Sl → Env' → Prop) : dVar 19 Ex (s0 :: s1 :: s2 :: s3 :: s4 :: s5 :: s6 :: s7 :: s8 :: s9 :: s10 :: s11 :: s12 :: s13 :: s14 :: s15 :: s16 :: s17 :: s18 :: .lst a ds :: r) Q = Q (.al 19 a) (s0 :: s1 :: s2 :: s3 :: s4 :: s5 :: s6 :: s7 :: s8 :: s9 :: s10 :: s11 :: s12 :: s13 :: s14 :: s15 :: s16 :: s17 :: s18 :: .lst a ds :: r) := rfl
end HD
namespace HD
open PySem PyProof.Rows L2
section
variable {G : GG} {N : List Str} {sc : SC} {k : Nat} {a b : Expr} {ta tb : DT} {p p2 pos pos2 : Pos}
def dListZip (ta tb : DT) : DT := fun Ex env Q => ta Ex env fun x env1 => tb Ex env1 fun y env2 => seqD env2 x fun xs _ => seqD env2 y fun ys _ => ∀ a, Q (.lst a ((xs.zip ys).map fun p => D.tk [p.1, p.2])) env2
end
end HD
namespace HD
open PySem PyProof.Rows L2
theorem retD_reg (env : Env') (a : D) (cs : List (Addr × OC)) (q : Sl → Env' → Prop) : retD env (.reg a cs) q = q (.reg a cs) env := rfl
def nestC (a : Addr) (xs : List (Addr × List D)) : List (Addr × OC) := (a, .lst (xs.map fun p => .val (.ref p.1))) :: xs.map fun p => (p.1, .lst p.2)
abbrev nestS (a : Addr) (xs : List (Addr × List D)) : Sl := .reg (.val (.ref a)) (nestC a xs)
section
variable {K : PySem.W.Frag} {e : Ent} {env : Env'} {T : Tmp} {F : Hp} {σ : L2.St} {H : Hp}
theorem Holds.writeR {i : Nat} {sl sl' : Sl} {b : Addr} {o : HO} (h : Holds K e env T F σ H) (hi : env[i]? = some sl) (hb : b ∈ sl.owned) (own : sl'.owned = sl.owned) (ok : ∀ v, SlOk K F H v sl → SlOk K F (upd H b o) v sl') (hu : sl ≠ .un) : Holds K e (env.set i sl') T F σ (upd H b o) := by
  obtain ⟨A, B, e1, e2⟩ := splitE hi
  have own' : ownedE (env.set i sl') = ownedE env := by rw [e1, e2, own]
  have mb : b ∈ ownedE env := mem_ownedE hi hb
  have mm : b ∈ ownedE env ++ ownedT T := List.mem_append_left _ mb
  obtain ⟨Fn, _⟩ := h.ownedH b mm
  refine ⟨fun c o' q => ?_, by rw [List.length_set]; exact h.len, fun j s q => ?_, fun p hp => (h.temps p hp).write fun m => ?_, by rw [own']; exact h.nd, h.s1, fun c o' q n => ?_, by rw [own']; exact h.s3⟩
  · have nb : c ≠ b := fun z => by
      rw [z, Fn] at q
      cases q
    rw [upd_ne nb]
    exact h.fh c o' q
  · rw [List.getElem?_set] at q
    split at q
    · rename_i ij
      subst ij
      split at q
      · cases q
        right
        rcases h.slots i _ hi with z | ⟨v, hv, q1⟩
        · exact absurd z hu
        · exact ⟨v, hv, ok v q1⟩
      · cases q
    · rename_i ij
      rcases h.slots j s q with z | ⟨v, hv, ok'⟩
      · exact .inl z
      · exact .inr ⟨v, hv, ok'.write fun m => ij (owned_two h.nd hi q hb m)⟩
  · exact (List.nodup_append.mp h.nd).2.2 b mb b (List.mem_flatMap.mpr ⟨p, hp, m⟩) rfl
  · have nb : c ≠ b := fun z => by
      subst z
      rcases h.s3 c mm with y | y
      · exact n y
      · rw [q] at y
        cases y
    rw [upd_ne nb]
    exact h.s2 c o' q n
end
section
variable {G : GG} {N : List Str} {sc : SC} {k : Nat} {a b : Expr} {ta tb : DT} {apos cpos spos py pos : Pos} {x : Str}
def dNApp (i : Nat) (tI te : DT) : DT := fun Ex env Q => (∃ a0 xs0, env[i]? = some (nestS a0 xs0)) ∧ tI Ex env fun z env1 => match z with
  | .ext (.int n) => ∃ a1 xs b ds, env1[i]? = some (nestS a1 xs) ∧ atI xs n = some (b, ds) ∧ te Ex env1 fun y env2 => frzD env2 y fun d env3 =>
      ∃ a2 xs' j ds', env3[i]? = some (nestS a2 xs') ∧ xs'[j]? = some (b, ds') ∧ ds'.length < sizeLine ∧ Q (.ext .non) (env3.set i (nestS a2 (xs'.set j (b, ds' ++ [d]))))
  | _ => False
end
def sSeal (i : Nat) (t : DTS) : DTS := fun Ex E env => ∃ a xs, env[i]? = some (nestS a xs) ∧ t Ex E (env.set i (.ext (.lst (xs.map fun p => .lst p.2))))
def emp (bs : List Addr) : List (Addr × List D) := bs.map fun b => (b, [])
def dNest (ti : DTI) (i : Nat) : DT := fun Ex env Q => ti Ex env fun items keep env1 => keep (env1.set i .un) ∧ items.length ≤ sizeLine ∧ ∀ a (bs : List Addr), bs.length = items.length → Q (nestS a (emp bs)) (env1.set i .un)
end HD
namespace HD
open PySem PyProof.Rows L2
theorem nodup_le {α : Type} [DecidableEq α] : ∀ {l m : List α}, l.Nodup → (∀ x ∈ l, x ∈ m) → l.length ≤ m.length
  | [], _, _, _ => Nat.zero_le _
  | x :: l, m, nd, h => by
    obtain ⟨n1, n2⟩ := List.nodup_cons.mp nd
    have hx := h x List.mem_cons_self
    have ih := nodup_le (m := m.erase x) n2 fun y hy => by
      have ne : y ≠ x := fun e => n1 (e ▸ hy)
      exact (List.mem_erase_of_ne ne).mpr (h y (List.mem_cons_of_mem _ hy))
    rw [List.length_erase_of_mem hx] at ih
    have : 0 < m.length := List.length_pos_of_mem hx
    rw [List.length_cons]
    omega
theorem nodup_of_len {α : Type} [DecidableEq α] : ∀ {m l : List α}, l.Nodup → (∀ x, x ∈ l ↔ x ∈ m) → l.length = m.length → m.Nodup
  | [], _, _, _, _ => List.nodup_nil
  | x :: m, l, nd, h, hl => by
    have hx : x ∈ l := (h x).mpr List.mem_cons_self
    have hne : x ∉ m := fun hm => by
      have := nodup_le (m := m) nd fun y hy => by
        rcases List.mem_cons.mp ((h y).mp hy) with rfl | hy
        · exact hm
        · exact hy
      rw [List.length_cons] at hl
      omega
    refine List.nodup_cons.mpr ⟨hne, nodup_of_len (l := l.erase x) (nd.erase x) (fun y => ?_) ?_⟩
    · rw [nd.mem_erase_iff, h y, List.mem_cons]
      constructor
      · rintro ⟨h1, h2 | h2⟩
        · exact absurd h2 h1
        · exact h2
      · intro h1
        exact ⟨fun e => hne (e ▸ h1), .inr h1⟩
    · rw [List.length_erase_of_mem hx, hl]
      rfl
def rLenSet (w : World) : List V → Hp → VK → Prop := fun vs H Q => ∃ (a : Addr) (S : Int → Bool) (n : Nat), vs = [V.ref a] ∧ H a = some (SetO w a S n) ∧ n < 4000 ∧ ∀ l : List Int, l.Nodup → l.length = n → (∀ k : Int, k ∈ l ↔ S k = true) → Q (.int (n : Nat)) H
theorem cr_lenSet {X : Cx} : CallR X (.builtin "len") (rLenSet X.w) := by
  intro pins s σ H vs us Q I r h
  obtain ⟨a, S, n, rfl, ha, hn4, q⟩ := h
  have R := setO_get I ha
  rw [Vals.ref1 r]
  obtain ⟨o, es, ep, t, ho, hex, hd, g, nd, hm, hb, hf, hn, hr, hl⟩ := R
  refine call_len_set ho hex hd hf (by omega) ⟨.int (n : Nat), H, I.tok _, ⟨_, by rw [← hn]⟩, q _ nd (by rw [List.length_map, Array.length_toList]; exact hn) fun k => (hm k).symm⟩
section
variable {G : GG} {N : List Str} {sc : SC} {k : Nat} {a : Expr} {ta : DT} {p p2 pos pos2 : Pos}
def dLenSet (t : DT) : DT := fun Ex env Q => t Ex env fun x env1 => wd env1 x fun d => match d with
  | .tup ds => ∃ ns : List Int, ds = ns.map D.int ∧ ns.length < 3000 ∧ ∀ m : Nat, (m = ns.length ↔ ns.Nodup) → Q (.ext (.int (m : Nat))) env1
  | _ => False
theorem de_lenset (ha : DE G N sc k a ta) (hm : G.mg "len" = none) (hm2 : G.mg "set" = none) (hg : GlS sc "len" := by rfl) (hg2 : GlS sc "set" := by rfl) (n1 : NoStar a [] := by intro _; rfl) (n2 : NoStar (.Call (.Name "set" p2) [a] [] pos2) [] := by intro _; rfl) (hp1 : ∀ env, (backTo pos (starEach [] env)).any (·.1) = false := by intro _; rfl) (hp2 : ∀ env, (backTo pos2 (starEach [] env)).any (·.1) = false := by intro _; rfl) :
    DE G N sc k (.Call (.Name "len" p) [.Call (.Name "set" p2) [a] [] pos2] [] pos) (dLenSet ta) := ⟨fun W => by
  obtain ⟨te, p1, i1⟩ := ha.ex W
  refine ⟨tCB (rLenSet G.w) (tCons (tCB (rSetT G.K G.w) (tCons te tNil)) tNil), fun X S => ?_, fun e Ex hl env T F σ H Q R hh ht hR => ?_⟩
  · have c1 := cr_lenSet (X := X)
    have c2 := cr_setT (X := X) S.calm
    rw [S.w] at c1
    rw [S.w, S.K] at c2
    exact pe_callB c1 (S.gl hg) (by rw [S.mg]; exact hm) (by decide +kernel) (pa_cons (pe_callTy c2 (S.gl hg2) (by rw [S.mg]; exact hm2) (by decide +kernel) (pa_cons (p1 X S) pa_nil (n1 _)) (by decide) (by decide) (n1 _) (hp2 _)) pa_nil (n2 _)) (by decide) (by decide) (n2 _) (hp1 _)
  · refine i1 e Ex hl env T F σ H _ _ hh ht fun v H1 F1 env1 x hh1 q1 => ?_
    obtain ⟨d, rd, q2⟩ := hh1.wd (v := v) (sl := x) List.mem_cons_self q1
    cases d with
    | tup ds =>
      obtain ⟨ns, rfl, hl64, q⟩ := q2
      obtain ⟨c, vs, rfl, e1, _, r1⟩ := rd.tup hh1.fh
      have z := r1.ints
      subst z
      refine ⟨c, ns, rfl, e1, Nat.lt_of_lt_of_le (Nat.add_lt_add_right hl64 1) (by decide), fun p' cn hn hc => ?_⟩
      refine ⟨p', _, cn, rfl, upd_same, by omega, fun l nd hlen hmem => ?_⟩
      have aft := (hh1.pop.done hR).more (o := SetO G.w p' (fun j => decide (j ∈ ns)) cn) hh1.fh hn
      have hmem' : ∀ x, x ∈ l ↔ x ∈ ns := fun x => (hmem x).trans decide_eq_true_iff
      refine aft.int (Grow.loose hh1.fh hn).fh (q cn ⟨fun e => nodup_of_len nd hmem' (by rw [hlen, e]), fun h => ?_⟩)
      rw [← hlen]
      exact Nat.le_antisymm (nodup_le nd fun x hx => (hmem' x).1 hx) (nodup_le h fun x hx => (hmem' x).2 hx)
    | _ => exact q2.elim⟩
end
end HD
namespace HD
open PySem PyProof.Rows L2
def fSum2 : List D → (Sl → Prop) → Prop
  | [.lst ds], Q => ∃ ns : List Int, ds = ns.map D.int ∧ Q (.ext (.int ns.sum))
  | [.tup ds], Q => ∃ ns : List Int, ds = ns.map D.int ∧ Q (.ext (.int ns.sum))
  | _, _ => False
end HD
namespace HD
open PySem PyProof.Rows L2
section
variable {κ β : Type} [DecidableEq κ]
def luK (kvs : List (κ × β)) (k : κ) : Option β := (kvs.find? fun kv => decide (kv.1 = k)).map (·.2)
def ptK (kvs : List (κ × β)) (k : κ) (v : β) : List (κ × β) := if kvs.any (fun kv => decide (kv.1 = k)) then kvs.map (fun kv => if kv.1 = k then (kv.1, v) else kv) else kvs ++ [(k, v)]
def drK (kvs : List (κ × β)) (k : κ) : List (κ × β) := kvs.filter fun kv => decide (kv.1 ≠ k)
theorem luK_cons (p : κ × β) (r : List (κ × β)) (k : κ) : luK (p :: r) k = if p.1 = k then some p.2 else luK r k := by
  unfold luK
  by_cases e : p.1 = k
  · simp [List.find?_cons, e]
  · simp [List.find?_cons, e]
theorem any_keys (kvs : List (κ × β)) (k : κ) : (kvs.any fun kv => decide (kv.1 = k)) = (luK kvs k).isSome := by
  induction kvs with
  | nil => rfl
  | cons p r ih =>
    rw [List.any_cons, luK_cons, ih]
    by_cases e : p.1 = k <;> simp [e]
theorem ptK_new {kvs : List (κ × β)} {k : κ} {v : β} (h : luK kvs k = none) : ptK kvs k v = kvs ++ [(k, v)] := by
  unfold ptK
  rw [any_keys, h]
  rfl
end
section
variable {K : PySem.W.Frag} {F : Hp} {κ : Type} [DecidableEq κ]
def Ents (K : PySem.W.Frag) (F : Hp) (kvs : List (κ × D)) (vs : List (κ × V)) : Prop := vs.map (·.1) = kvs.map (·.1) ∧ Reps K F (kvs.map (·.2)) (vs.map (·.2))
theorem Ents.nil : Ents (κ := κ) K F [] [] := ⟨rfl, rfl⟩
theorem Ents.cons {k : κ} {d : D} {v : V} {kvs : List (κ × D)} {vs : List (κ × V)} (h : Rep K F d v) (t : Ents K F kvs vs) : Ents K F ((k, d) :: kvs) ((k, v) :: vs) :=
  ⟨by rw [List.map_cons, List.map_cons, t.1], .cons h t.2⟩
theorem Ents.inv {p : κ × D} {kvs : List (κ × D)} {vs : List (κ × V)} (h : Ents K F (p :: kvs) vs) : ∃ v r, vs = (p.1, v) :: r ∧ Rep K F p.2 v ∧ Ents K F kvs r := by
  obtain ⟨h1, h2⟩ := h
  cases vs with
  | nil => cases h1
  | cons q r =>
    rw [List.map_cons, List.map_cons] at h1
    injection h1 with e1 e2
    rw [List.map_cons, List.map_cons] at h2
    obtain ⟨v, r', e3, r1, r2⟩ := h2
    injection e3 with e4 e5
    subst e5
    exact ⟨q.2, r, by rw [← e1], by rw [e4]; exact r1, e2, r2⟩
theorem Ents.emp {vs : List (κ × V)} (h : Ents K F ([] : List (κ × D)) vs) : vs = [] := List.map_eq_nil_iff.1 h.1
theorem Ents.length {kvs : List (κ × D)} {vs : List (κ × V)} (h : Ents K F kvs vs) : kvs.length = vs.length := by
  have := congrArg List.length h.1
  rw [List.length_map, List.length_map] at this
  exact this.symm
theorem Ents.lu (k : κ) : ∀ {kvs : List (κ × D)} {vs : List (κ × V)}, Ents K F kvs vs → (∀ d, luK kvs k = some d → ∃ v, luK vs k = some v ∧ Rep K F d v) ∧ (luK vs k).isSome = (luK kvs k).isSome
  | [], vs, h => by
    have e := h.emp
    subst e
    exact ⟨fun d z => (by cases z), rfl⟩
  | p :: kvs, vs, h => by
    obtain ⟨v, r, rfl, r1, r2⟩ := h.inv
    obtain ⟨i1, i2⟩ := Ents.lu k r2
    rw [luK_cons, luK_cons]
    show (∀ d, _ = some d → ∃ v', (if p.1 = k then some v else luK r k) = some v' ∧ _) ∧ (if p.1 = k then some v else luK r k).isSome = _
    by_cases e : p.1 = k
    · rw [if_pos e, if_pos e]
      exact ⟨fun d z => by cases z; exact ⟨v, rfl, r1⟩, rfl⟩
    · rw [if_neg e, if_neg e]
      exact ⟨i1, i2⟩
theorem Ents.app : ∀ {kvs kvs' : List (κ × D)} {vs vs' : List (κ × V)}, Ents K F kvs vs → Ents K F kvs' vs' → Ents K F (kvs ++ kvs') (vs ++ vs') := fun h g =>
  ⟨by rw [List.map_append, List.map_append, h.1, g.1], by rw [List.map_append, List.map_append]; exact h.2.append g.2⟩
theorem Ents.repl (k : κ) {d : D} {v : V} (hd : Rep K F d v) : ∀ {kvs : List (κ × D)} {vs : List (κ × V)}, Ents K F kvs vs → Ents K F (kvs.map fun kv => if kv.1 = k then (kv.1, d) else kv) (vs.map fun kv => if kv.1 = k then (kv.1, v) else kv)
  | [], vs, h => by
    have e := h.emp
    subst e
    exact .nil
  | p :: kvs, vs, h => by
    obtain ⟨u, r, rfl, r1, r2⟩ := h.inv
    have i := Ents.repl k hd r2
    rw [List.map_cons, List.map_cons]
    by_cases e : p.1 = k
    · rw [if_pos e, if_pos e]
      exact .cons hd i
    · rw [if_neg e, if_neg e]
      exact .cons r1 i
theorem Ents.put (k : κ) {d : D} {v : V} (hd : Rep K F d v) {kvs : List (κ × D)} {vs : List (κ × V)} (h : Ents K F kvs vs) : Ents K F (ptK kvs k d) (ptK vs k v) := by
  unfold ptK
  rw [any_keys, any_keys, (h.lu k).2]
  cases (luK kvs k).isSome with
  | true => exact h.repl k hd
  | false => exact h.app (.cons hd .nil)
end
abbrev dkS (a : Addr) (kvs : List (Key × D)) : Sl := .reg (.val (.ref a)) [(a, .dk kvs)]
abbrev dkD (kvs : List (Key × D)) : D := .dk (kvs.map (·.1)) (kvs.map (·.2))
def kD : Key → D
  | .inl i => .int i
  | .inr x => .str x
def dkAt (env : Env') (i : Nat) (kvs : List (Key × D)) : Prop := (∃ a, env[i]? = some (dkS a kvs)) ∨ env[i]? = some (.ext (dkD kvs))
section
variable {G : GG} {N : List Str} {sc : SC} {k : Nat} {a b : Expr} {ta tb : DT} {py pos spos apos cpos : Pos} {x : Str}
theorem Sit.u1 {W : WX} {X : Cx} (S : Sit G N sc W k X) : X.A.units + 1 < cLine := by have := S.units; omega
def dDIn (neg : Bool) (i : Nat) (t : DT) : DT := fun Ex env Q => t Ex env fun x env1 => ∃ key kvs, x = .ext (kD key) ∧ dkAt env1 i kvs ∧ Q (.ext (.bl (neg != (luK kvs key).isSome))) env1
def dDGet (i : Nat) (t : DT) : DT := fun Ex env Q => (∃ kvs, dkAt env i kvs) ∧ t Ex env fun x env1 => ∃ key kvs d, x = .ext (kD key) ∧ dkAt env1 i kvs ∧ luK kvs key = some d ∧ Q (.ext d) env1
def sPutD (i : Nat) (tk tv : DT) : DTS := fun Ex E env => tv Ex env fun y env0 => frzD env0 y fun d env1 => (∃ a kvs, env1[i]? = some (dkS a kvs)) ∧ tk Ex env1 fun x env2 => ∃ a kvs key, env2[i]? = some (dkS a kvs) ∧ x = .ext (kD key) ∧ kvs.length < sizeLine ∧ E.nx (env2.set i (dkS a (ptK kvs key d)))
def dDNew : DT := fun _ env Q => ∀ a, Q (dkS a []) env
def dDOne (tk tv : DT) : DT := fun Ex env Q => tk Ex env fun x env1 => tv Ex env1 fun y env2 => ∃ key, x = .ext (kD key) ∧ frzD env2 y fun d env3 => ∀ a, Q (dkS a [(key, d)]) env3
end
section
variable {K : PySem.W.Frag} {e : Ent} {env : Env'} {T : Tmp} {F : Hp} {σ : L2.St} {H : Hp}
theorem Holds.lock {i : Nat} {a : Addr} {c : OC} {o o' : HO} {d : D} (h : Holds K e env T F σ H) (hi : env[i]? = some (.reg (.val (.ref a)) [(a, c)])) (hr : Rep K (upd F a o') d (.ref a)) : Holds K e (env.set i (.ext d)) T (upd F a o') σ (upd H a o') ∧ Same F (upd F a o') := by
  have ma : a ∈ ownedE env := mem_ownedE hi (List.mem_singleton.mpr rfl)
  have mm : a ∈ ownedE env ++ ownedT T := List.mem_append_left _ ma
  obtain ⟨Fn, _⟩ := h.ownedH a mm
  have sm : Same F (upd F a o') := fun b q hq => by
    rw [upd_ne (ne_of_none hq Fn)]
    exact hq
  have keep : ∀ {w : V} {sl : Sl}, a ∉ sl.owned → SlOk K F H w sl → SlOk K (upd F a o') (upd H a o') w sl := fun {w sl} n ok => by
    cases sl with
    | un => trivial
    | ext d => exact Rep.same sm ok
    | al j b => exact ok
    | lst b ds =>
      obtain ⟨rfl, q, us, hv, hr⟩ := ok
      have nb : b ≠ a := fun z => n (by rw [z]; exact List.mem_singleton.mpr rfl)
      exact ⟨rfl, by rw [upd_ne nb]; exact q, us, by rw [upd_ne nb]; exact hv, hr.same sm⟩
    | ar j b => exact ok
    | reg b cs =>
      obtain ⟨rd, nd, hc⟩ := ok
      refine ⟨Rep.same sm rd, nd, fun p hp => ?_⟩
      obtain ⟨q, o1, ho, okc⟩ := hc p hp
      have nb : p.1 ≠ a := fun z => n (by rw [← z]; exact List.mem_map.mpr ⟨p, hp, rfl⟩)
      exact ⟨by rw [upd_ne nb]; exact q, o1, by rw [upd_ne nb]; exact ho, okc.same sm⟩
  obtain ⟨A, B, e1, e2⟩ := splitE hi
  have sub : (ownedE (env.set i (.ext d)) ++ ownedT T).Sublist (ownedE env ++ ownedT T) := by
    rw [e2, e1]
    exact ((List.Sublist.refl _).append (List.sublist_append_right _ _)).append (List.Sublist.refl _)
  refine ⟨⟨fun b q hq => ?_, by rw [List.length_set]; exact h.len, fun j sl q => ?_, fun p hp => keep (fun m => ?_) (h.temps p hp), h.nd.sublist sub, h.s1.trans sm, fun b q hq n => ?_, fun b hb => h.s3 b (sub.subset hb)⟩, sm⟩
  · by_cases nb : b = a
    · subst nb
      rw [upd_same] at hq ⊢
      exact hq
    · rw [upd_ne nb] at hq ⊢
      exact h.fh b q hq
  · rw [List.getElem?_set] at q
    split at q
    · rename_i ij
      subst ij
      split at q
      · cases q
        right
        rcases h.slots i _ hi with z | ⟨v, hv, ok⟩
        · cases z
        obtain ⟨rfl, _⟩ := ok
        exact ⟨_, hv, hr⟩
      · cases q
    · rename_i ij
      rcases h.slots j sl q with z | ⟨v, hv, ok⟩
      · exact .inl z
      · exact .inr ⟨v, hv, keep (fun m => ij (owned_two h.nd hi q (List.mem_singleton.mpr rfl) m)) ok⟩
  · exact (List.nodup_append.mp h.nd).2.2 a ma a (List.mem_flatMap.mpr ⟨p, hp, m⟩) rfl
  · have nb : b ≠ a := fun z => by
      subst z
      rcases h.s3 b mm with y | y
      · exact n y
      · rw [hq] at y
        cases y
    rw [upd_ne nb, upd_ne nb]
    exact h.s2 b q hq n
end
def tKnown (t : TS) : TS := fun D σ H => ∃ d u, H d = some u ∧ Mut (some u) ∧ ∀ od, t D σ (upd H d (.frz od u))
theorem ps_known {X : Cx} {st : Stmt} {t : TS} (h : PS X st t) : PS X st (tKnown t) := by
  refine ⟨fun pins s σ H D I hw => ?_⟩
  obtain ⟨d, u, hd, mu, q⟩ := hw
  obtain ⟨od, I1⟩ := I.lock hd mu
  exact h.run pins s σ _ D I1 (q od)
def sSealD (i : Nat) (t : DTS) : DTS := fun Ex E env => ∃ a kvs, env[i]? = some (dkS a kvs) ∧ t Ex E (env.set i (.ext (dkD kvs)))
def keyS (x : Sl) (q : List Key → Prop) : Prop := match x with
  | .ext (.dk ks _) => q ks
  | _ => False
theorem keyS_dk (ks : List Key) (ds : List D) (q : List Key → Prop) : keyS (.ext (.dk ks ds)) q = q ks := rfl
def dKeys (t : DT) : DTI := fun Ex env Q => t Ex env fun x env1 => keyS x fun ks => Q (ks.map kD) (fun _ => True) env1
end HD
namespace HD
open PySem PyProof.Rows L2
section
variable {G : GG} {N : List Str} {sc : SC} {k : Nat} {b : Expr} {tb : DT} {apos cpos py : Pos} {x : Str}
def dExtT (i : Nat) (t : DT) : DT := fun Ex env Q => (∃ a ds, env[i]? = some (.lst a ds)) ∧ t Ex env fun x env1 => ∃ a ds es, x = .ext (.tup es) ∧ env1[i]? = some (.lst a ds) ∧ ds.length + es.length ≤ sizeLine ∧ Q (.ext .non) (env1.set i (.lst a (ds ++ es)))
end
theorem seq_putD (i : Nat) (tk tv : DT) (u : DTS) (Ex : DX) (E : DEnds) (env : Env') : sSeq (sPutD i tk tv) u Ex E env = sPutD i tk tv Ex { E with nx := fun env1 => u Ex E env1 } env := rfl
theorem seq_sealD (i : Nat) (t u : DTS) (Ex : DX) (E : DEnds) (env : Env') : sSeq (sSealD i t) u Ex E env = sSealD i t Ex { E with nx := fun env1 => u Ex E env1 } env := rfl
end HD
namespace LS
open PySem L2 HD PM
def D.svS : Nat → D → Bool
  | _, .non => true
  | _, .bl _ => true
  | _, .int i => decide (i.natAbs < 10 ^ 60)
  | _, .str x => x.cps.toList.all fun c => decide (c < 16 ^ 8)
  | k + 1, .lst ds => ds.all (D.svS k)
  | k + 1, .tup ds => ds.all (D.svS k)
  | _, _ => false
def D.svQ (k : Nat) (d : D) : Prop := d.noVal = true ∧ d.py.showable = true ∧ d.py.hasDict = false ∧ d.py.depth ≤ k ∧ d.py.leavesShort 64 = true
theorem svqs_of {k : Nat} {ds : List D} (h : ∀ d ∈ ds, D.svQ k d) : D.noVals ds = true ∧ PyData.showableAll (D.pys ds) = true ∧ PyData.hasDictAll (D.pys ds) = false ∧ PyData.depthAll (D.pys ds) ≤ k ∧ PyData.leavesShortAll 64 (D.pys ds) = true := by
  induction ds with
  | nil => exact ⟨rfl, rfl, rfl, by simp [D.pys, PyData.depthAll], rfl⟩
  | cons d ds ih =>
    obtain ⟨h1, h2, h3, h4, h5⟩ := h d List.mem_cons_self
    obtain ⟨i1, i2, i3, i4, i5⟩ := ih fun e he => h e (List.mem_cons_of_mem _ he)
    refine ⟨by simp [D.noVals, h1, i1], by simp [D.pys, PyData.showableAll, h2, i2], by simp [D.pys, PyData.hasDictAll, h3, i3], ?_, by simp [D.pys, PyData.leavesShortAll, h5, i5]⟩
    simp only [D.pys, PyData.depthAll]
    omega
theorem svq_int {i : Int} {k : Nat} (h : i.natAbs < 10 ^ 60) : D.svQ k (.int i) := by
  have hl : i.natAbs.log2 < 1920 := by
    by_cases e : i.natAbs = 0
    · rw [e]; decide
    · exact (Nat.log2_lt e).2 (Nat.lt_of_lt_of_le h (Nat.le_trans (by decide : 10 ^ 60 ≤ 2 ^ 200) (Nat.pow_le_pow_right (by decide) (by decide))))
  refine ⟨rfl, by simpa [D.py, PyData.showable] using hl, rfl, by simp [D.py, PyData.depth], ?_⟩
  simp only [D.py, PyData.leavesShort, PyData.shown]
  refine decide_eq_true ?_
  rw [PySem.ofString_length]
  exact Nat.le_trans (PySem.int_text_length_le10 (k := 60) (by decide) h) (by decide)
theorem svS_Q : ∀ (k : Nat) (d : D), D.svS k d = true → D.svQ k d := by
  intro k
  induction k with
  | zero =>
    intro d h
    cases d with
    | int i => exact svq_int (by simpa [D.svS] using h)
    | non => exact ⟨rfl, rfl, rfl, by simp [D.py, PyData.depth], rfl⟩
    | bl _ => exact ⟨rfl, rfl, rfl, by simp [D.py, PyData.depth], rfl⟩
    | str x => exact ⟨rfl, rfl, rfl, by simp [D.py, PyData.depth], h⟩
    | _ => simp [D.svS] at h
  | succ k ih =>
    intro d h
    cases d with
    | lst ds =>
      rw [D.svS, List.all_eq_true] at h
      obtain ⟨h1, h2, h3, h4, h5⟩ := svqs_of fun e he => ih e (h e he)
      exact ⟨h1, by simpa [D.py, PyData.showable] using h2, by simpa [D.py, PyData.hasDict] using h3, by simp only [D.py, PyData.depth]; omega, by simpa [D.py, PyData.leavesShort] using h5⟩
    | tup ds =>
      rw [D.svS, List.all_eq_true] at h
      obtain ⟨h1, h2, h3, h4, h5⟩ := svqs_of fun e he => ih e (h e he)
      exact ⟨h1, by simpa [D.py, PyData.showable] using h2, by simpa [D.py, PyData.hasDict] using h3, by simp only [D.py, PyData.depth]; omega, by simpa [D.py, PyData.leavesShort] using h5⟩
    | int i => exact svq_int (by simpa [D.svS] using h)
    | non => exact ⟨rfl, rfl, rfl, by simp [D.py, PyData.depth], rfl⟩
    | bl _ => exact ⟨rfl, rfl, rfl, by simp [D.py, PyData.depth], rfl⟩
    | str x => exact ⟨rfl, rfl, rfl, by simp [D.py, PyData.depth], h⟩
    | _ => simp [D.svS] at h
structure Dc (k n : Nat) (d : D) : Prop where
  pl : D.pl k d = true
  sv : D.svS k d = true
  bk : d.py.bulk ≤ n
structure Dcs (k n : Nat) (ds : List D) : Prop where
  pl : ∀ d ∈ ds, D.pl k d = true
  sv : ∀ d ∈ ds, D.svS k d = true
  bk : PyData.bulkAll (D.pys ds) ≤ n
theorem Dc.sh {k n : Nat} {d : D} (h : Dc k n d) (hk : k ≤ 60) (hn : n ≤ 200000) : d.sh := by
  obtain ⟨h1, h2, h3, h4, h5⟩ := svS_Q k d h.sv
  refine ⟨h1, h2, h3, by omega, ?_⟩
  have := PyData.shown_le_bulk 64 (by decide) d.py h5
  have := h.bk
  exact Nat.le_trans (by omega : _ ≤ 16000000) (by decide)
theorem Dc.int {k n : Nat} {i : Int} (h : i.natAbs < 10 ^ 60 := by decide +kernel) : Dc k n (.int i) := ⟨by cases k <;> rfl, by cases k <;> simp [D.svS, h], Nat.zero_le _⟩
theorem Dc.nat {k n m : Nat} (h : m < 2 ^ 64) : Dc k n (.int (m : Nat)) := Dc.int (by rw [Int.natAbs_natCast]; exact Nat.lt_of_lt_of_le h (by decide))
theorem Dc.non {k n : Nat} : Dc k n .non := ⟨by cases k <;> rfl, by cases k <;> rfl, Nat.zero_le _⟩
theorem Dc.bl {k n : Nat} {b : Bool} : Dc k n (.bl b) := ⟨by cases k <;> rfl, by cases k <;> rfl, Nat.zero_le _⟩
theorem Dc.str {k n : Nat} {x : Str} (h1 : (x.cps.toList.all fun c => decide (c < 16 ^ 8)) = true := by decide +kernel) (h2 : (D.str x).py.bulk ≤ n := by decide +kernel) : Dc k n (.str x) := ⟨by cases k <;> rfl, by cases k <;> exact h1, h2⟩
theorem Dc.mono {k n m : Nat} {d : D} (h : Dc k n d) (hn : n ≤ m) : Dc k m d := ⟨h.pl, h.sv, Nat.le_trans h.bk hn⟩
theorem pl_up : ∀ (k : Nat) (d : D), D.pl k d = true → D.pl (k + 1) d = true := by
  intro k
  induction k with
  | zero => intro d h; cases d <;> first | rfl | simp [D.pl] at h
  | succ k ih =>
    intro d h
    cases d with
    | lst ds => rw [D.pl, Bool.and_eq_true, List.all_eq_true] at h ⊢; exact ⟨h.1, fun e he => ih e (h.2 e he)⟩
    | tup ds => rw [D.pl, Bool.and_eq_true, List.all_eq_true] at h ⊢; exact ⟨h.1, fun e he => ih e (h.2 e he)⟩
    | _ => first | rfl | simp [D.pl] at h
theorem svS_up : ∀ (k : Nat) (d : D), D.svS k d = true → D.svS (k + 1) d = true := by
  intro k
  induction k with
  | zero => intro d h; cases d <;> first | rfl | exact h | simp [D.svS] at h
  | succ k ih =>
    intro d h
    cases d with
    | lst ds => rw [D.svS, List.all_eq_true] at h ⊢; exact fun e he => ih e (h e he)
    | tup ds => rw [D.svS, List.all_eq_true] at h ⊢; exact fun e he => ih e (h e he)
    | _ => first | rfl | exact h | simp [D.svS] at h
theorem Dc.up {k n : Nat} {d : D} (h : Dc k n d) : Dc (k + 1) n d := ⟨pl_up k d h.pl, svS_up k d h.sv, h.bk⟩
theorem Dcs.len {k n : Nat} {ds : List D} (h : Dcs k n ds) : ds.length ≤ n := by
  refine Nat.le_trans ?_ h.bk
  clear h
  induction ds with
  | nil => exact Nat.zero_le _
  | cons d ds ih => simp only [D.pys, PyData.bulkAll, List.length_cons]; omega
theorem Dcs.nil {k n : Nat} : Dcs k n [] := ⟨by simp, by simp, Nat.zero_le _⟩
theorem Dcs.cons {k n m : Nat} {d : D} {ds : List D} (h : Dc k n d) (t : Dcs k m ds) : Dcs k (n + 1 + m) (d :: ds) :=
  ⟨fun e he => by
    rcases List.mem_cons.1 he with rfl | he
    · exact h.pl
    · exact t.pl e he, fun e he => by
    rcases List.mem_cons.1 he with rfl | he
    · exact h.sv
    · exact t.sv e he, by have := h.bk; have := t.bk; simp only [D.pys, PyData.bulkAll]; omega⟩
theorem Dcs.app {k n m : Nat} {ds es : List D} (h : Dcs k n ds) (t : Dcs k m es) : Dcs k (n + m) (ds ++ es) :=
  ⟨fun e he => by
    rcases List.mem_append.1 he with he | he
    · exact h.pl e he
    · exact t.pl e he, fun e he => by
    rcases List.mem_append.1 he with he | he
    · exact h.sv e he
    · exact t.sv e he, by have := h.bk; have := t.bk; rw [bulks_app]; omega⟩
theorem Dcs.mono {k n m : Nat} {ds : List D} (h : Dcs k n ds) (hn : n ≤ m) : Dcs k m ds := ⟨h.pl, h.sv, Nat.le_trans h.bk hn⟩
theorem bulks_sub {a b : List D} (h : a.Sublist b) : PyData.bulkAll (D.pys a) ≤ PyData.bulkAll (D.pys b) := by
  induction h with
  | slnil => exact Nat.le_refl _
  | cons _ _ ih => simp only [D.pys, PyData.bulkAll]; omega
  | cons_cons _ _ ih => simp only [D.pys, PyData.bulkAll]; omega
theorem Dcs.sub {k n : Nat} {ds es : List D} (h : Dcs k n ds) (s : es.Sublist ds) : Dcs k n es := ⟨fun e he => h.pl e (s.subset he), fun e he => h.sv e (s.subset he), Nat.le_trans (bulks_sub s) h.bk⟩
theorem Dcs.cut {k n : Nat} {ds : List D} (h : Dcs k n ds) (lo hi : Option Int) : Dcs k n (cutD ds lo hi) := h.sub ((List.take_sublist _ _).trans (List.drop_sublist _ _))
theorem Dc.tup {k n : Nat} {ds : List D} (h : Dcs k n ds) (hn : n ≤ 100000 := by omega) : Dc (k + 1) n (.tup ds) :=
  ⟨by rw [D.pl, Bool.and_eq_true, List.all_eq_true, decide_eq_true_eq]; exact ⟨Nat.le_trans h.len hn, h.pl⟩, by rw [D.svS, List.all_eq_true]; exact h.sv, h.bk⟩
theorem Dc.lst {k n : Nat} {ds : List D} (h : Dcs k n ds) (hn : n ≤ 100000 := by omega) : Dc (k + 1) n (.lst ds) :=
  ⟨by rw [D.pl, Bool.and_eq_true, List.all_eq_true, decide_eq_true_eq]; exact ⟨Nat.le_trans h.len hn, h.pl⟩, by rw [D.svS, List.all_eq_true]; exact h.sv, h.bk⟩
theorem Dcs.nats {k : Nat} {l : List Nat} (h : ∀ n ∈ l, n < 2 ^ 64) : Dcs k l.length (nD l) := ⟨fun e he => by
    obtain ⟨n, hn, rfl⟩ := List.mem_map.1 he
    exact (Dc.nat (k := k) (n := 0) (h n hn)).pl, fun e he => by
    obtain ⟨n, hn, rfl⟩ := List.mem_map.1 he
    exact (Dc.nat (k := k) (n := 0) (h n hn)).sv, by rw [bulks_nD]; exact Nat.le_refl _⟩
theorem atI_mem {α : Type} {xs : List α} {r : Int} (h0 : 0 ≤ r) (h1 : r < xs.length) : ∃ x, atI xs r = some x ∧ x ∈ xs := by
  have hl : r.toNat < xs.length := by omega
  exact ⟨xs[r.toNat], atI_int h0 (List.getElem?_eq_getElem hl), List.getElem_mem hl⟩
theorem allMem {P : D → Prop} {x : D} {xs : List D} (h : P x) (t : ∀ y ∈ xs, P y) : ∀ y ∈ x :: xs, P y := fun y hy => by
  rcases List.mem_cons.1 hy with rfl | hy
  · exact h
  · exact t y hy
theorem allNil {P : D → Prop} : ∀ y ∈ ([] : List D), P y := by simp
theorem Dc.t1 {k n m : Nat} {d : D} (h : Dc k n d) (hm : n + 1 ≤ m := by omega) (hm2 : m ≤ 100000 := by omega) : Dc (k + 1) m (.tup [d]) := Dc.tup ((Dcs.cons h (Dcs.nil (n := 0))).mono (by omega)) hm2
theorem Dc.l1 {k n m : Nat} {d : D} (h : Dc k n d) (hm : n + 1 ≤ m := by omega) (hm2 : m ≤ 100000 := by omega) : Dc (k + 1) m (.lst [d]) := Dc.lst ((Dcs.cons h (Dcs.nil (n := 0))).mono (by omega)) hm2
theorem Dcs.one {k n m : Nat} {d : D} (h : Dc k n d) (hm : n + 1 ≤ m := by omega) : Dcs k m [d] := (Dcs.cons h (Dcs.nil (n := 0))).mono (by omega)
theorem e39 : ((10 : Int) ^ Int.toNat 39).natAbs < 10 ^ 60 := by decide +kernel
theorem e39n : (0 - (10 : Int) ^ Int.toNat 39).natAbs < 10 ^ 60 := by decide +kernel
end LS
namespace PM
theorem rising_filter {l : List Nat} (p : Nat → Bool) (h : Rising l) : Rising (l.filter p) := List.Pairwise.filter p h
theorem rising_range (n : Nat) : Rising (List.range n) := List.pairwise_lt_range
end PM
namespace LS
open PySem L2 HD PM
theorem nodup_le {n : Nat} : ∀ {l : List Nat}, l.Nodup → (∀ x ∈ l, x < n) → l.length ≤ n := by
  induction n with
  | zero =>
    intro l _ h
    cases l with
    | nil => exact Nat.le_refl _
    | cons x l => exact absurd (h x List.mem_cons_self) (Nat.not_lt_zero _)
  | succ n ih =>
    intro l nd h
    have := ih (nd.erase n) fun x hx => by
      obtain ⟨h1, h2⟩ := nd.mem_erase_iff.1 hx
      have := h x h2
      omega
    have e := List.length_erase (a := n) (l := l)
    rw [e] at this
    split at this <;> omega
end LS
namespace LS
open PySem L2 HD PM
local macro_rules | `(tactic| trivial) => `(tactic| try simp -dsimp only [↓sIf, ↓sRet, ↓retD_ext, ↓retD_lst, ↓retD_al, ↓sSet, ↓sSetE, ↓sAsg, ↓sDrop, ↓sNext, ↓sFor, ↓sRetN, ↓sCont, ↓sBreak, ↓dTest, ↓dOp, ↓dVar_w, ↓dC, ↓dCons, ↓dNil, ↓dTup, ↓dLst, ↓frzDs, ↓frzD_ext, ↓frzD_lst, ↓frzD_al, ↓wd_ext, ↓wd_lst, ↓wd_al, ↓wds, ↓AtS_ext, ↓AtS_lst, ↓AtL, ↓fAdd, ↓fSub, ↓fMul, ↓fDiv, ↓fMod, ↓fPow, ↓fCmp, ↓fIn, ↓fEq_ii, ↓fEq_ss, ↓fEq_bb, ↓fEq_tt, ↓fEq_ll, ↓fNe_ii, ↓fNe_ss, ↓fNe_bb, ↓fNe_tt, ↓fNe_ll, ↓fIx_l, ↓fIx_t, ↓fIx_k, ↓fIx_f, ↓GetS_some, ↓NatS_some, ↓fSl, ↓fIsN, ↓fNotN, ↓D.knN, ↓dNot, ↓dAnd, ↓dOr, ↓dAndV_w, ↓dOrV_w, ↓dNotV, ↓dIf, ↓dNeg, ↓dChain_w, ↓BlS_bl, ↓dCall_w, ↓dCallJ_w, ↓anyAl, ↓frozs, ↓froz, ↓gSet, ↓gTupD, ↓gsCons, ↓gsNil, ↓dSeq, ↓seqD_tup, ↓seqD_elst, ↓seqD_lst, ↓seqD_al, ↓dRange1, ↓dRange2, ↓dZip, ↓dCB, ↓dLc, ↓dYes, ↓dNoPart, ↓dPart, ↓dSl, ↓fLen, ↓fMin, ↓fMax, ↓fSum, ↓fAll, ↓fAny, ↓fSorted, ↓fTuple, ↓fList, ↓dRg1, ↓dRg2, ↓dLstRg, ↓dTupRg, ↓dIndex, ↓fIdx, ↓dAppend_w, ↓dExtend_w, ↓extD_lst, ↓dPopAt_w, ↓popD_int, ↓dPop_w, ↓mutD_w, ↓sSetItem_w, ↓setD_int, ↓dSortSet, ↓dTable_w, ↓wipeE, finals1, finals2, finals3, finals4, finals5, finals6, fin1_ext, fin1_lst, List.getElem?_cons_zero, List.getElem?_cons_succ, List.getElem?_nil, List.set_cons_zero, List.set_cons_succ, List.cons_append, List.nil_append, List.append_nil, List.replicate_succ, List.replicate_zero, List.map_cons, List.map_nil, List.length_cons, List.length_nil, true_and, and_true, ite_true, ite_false, if_true, if_false, Bool.false_eq_true, decide_eq_true_eq, Sl.plain, D.isSq, eq_self_iff_true, forall_const, reduceIte, true_or, or_true, atI_0, atI_1, atI_2, atI_3, ixN_0, ixN_1, ixN_2, AtS_ext, AtS_lst, FzS_lst, FzS_ext, GetS_some, NatS_some, ↓fIsi1, ↓fIsi2, BoolS_some, HD.kb_non_tuple, HD.kb_non_list, HD.kb_non_bool, HD.kb_non_int, HD.kb_non_str, HD.kb_bl_tuple, HD.kb_bl_list, HD.kb_bl_bool, HD.kb_bl_int, HD.kb_bl_str, HD.kb_int_tuple, HD.kb_int_list, HD.kb_int_bool, HD.kb_int_int, HD.kb_int_str, HD.kb_str_tuple, HD.kb_str_list, HD.kb_str_bool, HD.kb_str_int, HD.kb_str_str, HD.kb_lst_tuple, HD.kb_lst_list, HD.kb_lst_bool, HD.kb_lst_int, HD.kb_lst_str, HD.kb_tup_tuple, HD.kb_tup_list, HD.kb_tup_bool, HD.kb_tup_int, HD.kb_tup_str, ↓sFz_w, ↓FzS_lst, ↓FzS_ext, ↓dSortSetL, ↓fAbs, ↓fInt, ↓fRepr, ↓fLtT, ↓sRaise, ↓sTryKeep, ↓dCallV_w, ↓dMeth, ↓fCount, ↓fSplit, ↓seq_setE, ↓seq_set, ↓seq_drop, ↓seq_asg, ↓seq_if, ↓seq_for, ↓dStep, ↓fStep, ↓fMulT, ↓fIsB, ↓fNotB, ↓sPar, ↓dEnum, ↓dListZip, ↓dNest, ↓sSeal, ↓dNApp, ↓retD_reg, ↓dLenSet, ↓fSum2, ↓seq_putD, ↓seq_sealD, ↓dDIn, ↓dDGet, ↓sPutD, ↓dDNew, ↓dDOne, ↓sSealD, ↓dKeys, ↓keyS_dk, ↓dExtT])
def OrderD (many : Int) (d : D) : Prop := ∃ ns : List Nat, d = .tup (nD ns) ∧ ns.Nodup ∧ ∀ n ∈ ns, (n : Int) < many
def ShortT (d : D) : Prop := ∀ ds, d = .tup ds → ds.length < 3000
theorem cI_nodup {ns : List Nat} : (cI ns).Nodup ↔ ns.Nodup := by
  unfold cI List.Nodup
  rw [List.pairwise_map]
  constructor
  · intro h; exact h.imp fun {a b} z e => z (by rw [e])
  · intro h; exact h.imp fun {a b} z e => z (by omega)
def sp_is_order : DSpec := fun args Q _ => ∃ (many : Int) (d : D) (k : Nat), args = [dI many, .ext d] ∧ D.pl k d = true ∧ ShortT d ∧ ∀ (b : Bool) fin, (b = true ↔ OrderD many d) → Q (.ext (.bl b)) fin
def e1_is_order : DT :=
    (dAndV (dCall sp_is_whole (dCons (dVar 2) dNil)) (dChain (fCmp fun i j => decide (i ≤ j)) (fCmp fun i j => decide (i < j)) (dC (.int 0)) (dVar 2) (dVar 0)))
def k2_is_order : DTS :=
    (sRet (dOp fEq (dLenSet (dVar 1)) (dCB fLen (dCons (dVar 1) dNil))))
def t_is_order : DTS :=
    (sSeq (sIf (dOr (dNot (dTest (dCB fIsi (dCons (dVar 1) (dCons (dC (.val (.ty "tuple"))) dNil))))) (dNot (dTest (dCB fAll (dCons (dLc (dSeq (dVar 1)) (gSet 2) dYes e1_is_order [2]) dNil))))) (sRet (dC (.bl false))) sNext)
    k2_is_order)
theorem q1_is_order {Q : Sl → Env' → Prop} {many : Int} {s1 : Sl} {k : Nat} (ds : List D) : ∀ acc : List Bool, (∀ d ∈ ds, D.pl k d = true) → acc.length + ds.length ≤ 200000 → (∀ b, Q (.lst b ((acc ++ ds.map (inR many)).map D.bl)) [dI many, s1, .un]) →
    lcD (gSet 2) dYes e1_is_order [2] (fun _ => True) Q ds (acc.map D.bl) [dI many, s1, .un] := by
  induction ds with
  | nil => intro acc _ _ hQ; exact ⟨True.intro, fun b => by simpa using hQ b⟩
  | cons d ds ih =>
    intro acc hp hl hQ
    rw [List.length_cons] at hl
    rw [lcD]
    unfold e1_is_order
    trivial
    refine ⟨by rw [List.length_map]; exact Nat.lt_of_le_of_lt (by omega : acc.length ≤ 200000) (by decide), d, k, rfl, hp d List.mem_cons_self, fun fin => ?_⟩
    trivial
    have next : ∀ b : Bool, b = inR many d → lcD (gSet 2) dYes e1_is_order [2] (fun _ => True) Q ds (acc.map D.bl ++ [.bl b]) [dI many, s1, .un] := by
      intro b hb
      have := ih (acc ++ [b]) (fun e he => hp e (List.mem_cons_of_mem _ he)) (by rw [List.length_append, List.length_singleton]; omega) (fun a => by rw [hb]; simpa using hQ a)
      rw [List.map_append] at this
      exact this
    cases d with
    | int i =>
      rw [if_pos (show D.isInt (.int i) = true from rfl)]
      trivial
      split
      · refine next _ ?_
        rename_i h0
        simp [inR, h0]
      · refine next _ ?_
        rename_i h0
        simp [inR, h0]
    | _ =>
      rw [if_neg (by simp [D.isInt])]
      exact next _ rfl
theorem m_is_order : Meets t_is_order 2 1 sp_is_order := by
  rintro args Qd Xd ⟨many, d, k, rfl, hp, hsh, hQ⟩
  have nv := pl_noVal k d hp
  show t_is_order _ _ [_, _, .un]
  unfold t_is_order
  cases d with
  | val _ => cases k <;> simp [D.pl] at hp
  | fz _ => cases k <;> simp [D.pl] at hp
  | tk _ => cases k <;> simp [D.pl] at hp
  | exc _ => cases k <;> simp [D.pl] at hp
  | glo _ => cases k <;> simp [D.pl] at hp
  | dk _ _ => cases k <;> simp [D.pl] at hp
  | dt _ _ => cases k <;> simp [D.pl] at hp
  | tup ds =>
    cases k with
    | zero => simp [D.pl] at hp
    | succ k =>
      rw [D.pl, Bool.and_eq_true, List.all_eq_true, decide_eq_true_eq] at hp
      trivial
      simp only [nv, D.isFz, true_and, Bool.not_true, Bool.false_eq_true, if_false]
      refine q1_is_order (k := k) ds [] hp.2 (by simp; omega) fun b => ?_
      trivial
      refine ⟨ds.map (inR many), rfl, ?_⟩
      have ea : (ds.map (inR many)).all id = ds.all (inR many) := by rw [List.all_map]; rfl
      rw [ea]
      by_cases h : ds.all (inR many) = true
      · rw [h, if_neg (by simp)]
        obtain ⟨ns, rfl, hns⟩ := all_inR h
        have hl := hsh _ rfl
        rw [nD_len] at *
        unfold k2_is_order
        trivial
        refine ⟨cI ns, (iD_nat ns).symm, by rw [List.length_map]; exact hl, fun m hm => ?_⟩
        trivial
        rw [nD_len]
        refine hQ _ _ ?_
        rw [List.length_map, cI_nodup] at hm
        rw [beq_iff_eq]
        constructor
        · intro e
          exact ⟨ns, rfl, hm.1 (by omega), hns⟩
        · rintro ⟨ns', e, nd, _⟩
          have e' : ns = ns' := nD_inj (D.tup.inj e)
          subst e'
          rw [hm.2 nd]
      · have hf : ds.all (inR many) = false := by simpa using h
        rw [hf, if_pos (by simp)]
        refine hQ _ _ ⟨fun z => by simp at z, ?_⟩
        rintro ⟨ns, e, _, hn⟩
        have e := D.tup.inj e
        subst e
        exact absurd (inR_all hn) h
  | _ =>
    trivial
    simp only [nv, D.isFz, true_and, Bool.not_false, if_true]
    exact hQ _ _ ⟨fun z => by simp at z, fun ⟨_, e, _⟩ => by simp at e⟩
def sp_need_order : DSpec := fun args Q X => ∃ (many : Int) (d : D) (k : Nat), args = [dI many, .ext d] ∧ D.pl k d = true ∧ ShortT d ∧ (OrderD many d → ∀ fin, Q (.ext .non) fin) ∧ (¬ OrderD many d → ∀ fin, X "NoName" fin)
def t_need_order : DTS :=
    (sIf (dNot (dTest (dCall sp_is_order (dCons (dVar 0) (dCons (dVar 1) dNil))))) (sRaise "NoName") sNext)
theorem m_need_order : Meets t_need_order 2 0 sp_need_order := by
  rintro args Qd Xd ⟨many, d, k, rfl, hp, hs, hQ, hX⟩
  show t_need_order _ _ [_, _]
  unfold t_need_order
  trivial
  refine ⟨many, d, k, rfl, hp, hs, fun b fin hb => ?_⟩
  trivial
  by_cases hn : OrderD many d
  · rw [hb.2 hn, if_neg (by simp)]
    exact hQ hn _
  · rw [if_pos (by cases b with
      | true => exact absurd (hb.1 rfl) hn
      | false => rfl)]
    exact hX hn _
end LS
namespace PM
open LS
def uniS (S : List Nat) (a b : List Nat) : List Nat := (List.range S.length).filter fun n => decide (n ∈ a) || decide (n ∈ b)
theorem uniS_ok {S a b : List Nat} (ha : ∀ n ∈ a, n < S.length) (hb : ∀ n ∈ b, n < S.length) : Uni (uniS S a b) a b :=
  ⟨rising_filter _ (rising_range _), fun n => by
    unfold uniS
    rw [List.mem_filter, List.mem_range]
    simp only [Bool.or_eq_true, decide_eq_true_eq]
    exact ⟨fun h => h.2, fun h => ⟨h.elim (ha n) (hb n), h⟩⟩⟩
def joinL (w : Wd) (S : List Nat) (p : Part) (ps : List Part) : Part := ps.foldl (fun acc q => joinP S (jn w) (uniS S acc.ns q.ns) acc q) p
def unitP (w : Wd) : Part := ⟨[], [unitW w]⟩
def joinA (w : Wd) (S : List Nat) (ps : List Part) : Part := joinL w S (unitP w) ps
theorem unitP_ok (w : Wd) (S : List Nat) : (unitP w).Ok S := ⟨List.Pairwise.nil, (fun _ h => nomatch h), rfl⟩
theorem joinL_ok {w : Wd} {S : List Nat} {ps : List Part} : ∀ {p : Part}, p.Ok S → (∀ q ∈ ps, q.Ok S) → (joinL w S p ps).Ok S := by
  induction ps with
  | nil => intro p hp _; exact hp
  | cons q ps ih =>
    intro p hp h
    have hq := h q List.mem_cons_self
    exact ih (p := joinP S (jn w) (uniS S p.ns q.ns) p q) (joinP_ok (uniS_ok hp.lt hq.lt) hp hq) fun r hr => h r (List.mem_cons_of_mem _ hr)
theorem joinA_ok {w : Wd} {S : List Nat} {ps : List Part} (h : ∀ q ∈ ps, q.Ok S) : (joinA w S ps).Ok S := joinL_ok (unitP_ok w S) h
theorem joinP_ns {S U : List Nat} {jn : Int → Int → Int} {p q : Part} : (joinP S jn U p q).ns = U := rfl
theorem joinL_mem {w : Wd} {S : List Nat} {ps : List Part} : ∀ {p : Part}, p.Ok S → (∀ q ∈ ps, q.Ok S) → ∀ n, n ∈ (joinL w S p ps).ns ↔ n ∈ p.ns ∨ ∃ q ∈ ps, n ∈ q.ns := by
  induction ps with
  | nil => intro p hp _ n; exact ⟨.inl, fun h => h.elim id fun ⟨_, h, _⟩ => nomatch h⟩
  | cons q ps ih =>
    intro p hp h n
    have hq := h q List.mem_cons_self
    have hU := uniS_ok hp.lt hq.lt
    refine (ih (p := joinP S (jn w) (uniS S p.ns q.ns) p q) (joinP_ok hU hp hq) (fun r hr => h r (List.mem_cons_of_mem _ hr)) n).trans ?_
    rw [joinP_ns, hU.2]
    constructor
    · rintro ((h1 | h1) | ⟨r, h1, h2⟩)
      · exact .inl h1
      · exact .inr ⟨q, List.mem_cons_self, h1⟩
      · exact .inr ⟨r, List.mem_cons_of_mem _ h1, h2⟩
    · rintro (h1 | ⟨r, h1, h2⟩)
      · exact .inl (.inl h1)
      · rcases List.mem_cons.1 h1 with e | e
        · subst e; exact .inl (.inr h2)
        · exact .inr ⟨r, e, h2⟩
theorem joinA_mem {w : Wd} {S : List Nat} {ps : List Part} (h : ∀ q ∈ ps, q.Ok S) (n : Nat) : n ∈ (joinA w S ps).ns ↔ ∃ q ∈ ps, n ∈ q.ns :=
  (joinL_mem (unitP_ok w S) h n).trans ⟨fun h => h.elim (fun z => nomatch z) id, .inr⟩
theorem joinL_val {w : Wd} {S : List Nat} {g : Nat → Nat} {ps : List Part} : ∀ {p : Part}, p.Ok S → (∀ q ∈ ps, q.Ok S) → (∀ n, n < S.length → g n < sz S n) → val S (joinL w S p ps) g = ps.foldl (fun acc q => jn w acc (val S q g)) (val S p g) := by
  induction ps with
  | nil => intro p _ _ _; rfl
  | cons q ps ih =>
    intro p hp h hg
    have hq := h q List.mem_cons_self
    have hU := uniS_ok hp.lt hq.lt
    have hok := joinP_ok (jn := jn w) hU hp hq
    refine (ih (p := joinP S (jn w) (uniS S p.ns q.ns) p q) hok (fun r hr => h r (List.mem_cons_of_mem _ hr)) hg).trans ?_
    rw [val_joinP hU fun n hn => hg n (hok.lt n hn)]
    rfl
theorem joinA_val {w : Wd} {S : List Nat} {g : Nat → Nat} {ps : List Part} (h : ∀ q ∈ ps, q.Ok S) (hg : ∀ n, n < S.length → g n < sz S n) : val S (joinA w S ps) g = jAll w S ps g :=
  joinL_val (unitP_ok w S) h hg
def hasP (x : Nat) (p : Part) : Bool := decide (x ∈ p.ns)
def takeW (w : Wd) (S : List Nat) (ps : List Part) (x : Nat) : Part := (fun q => widP S q (uniS S q.ns [x])) (joinA w S (ps.filter (hasP x)))
def takeL (w : Wd) (S : List Nat) (ps : List Part) (x : Nat) : List Part := ps.filter (fun p => !hasP x p) ++ [gathP S w (takeW w S ps x) x]
def takes (w : Wd) (S : List Nat) : List Part → List Nat → List Part
  | ps, [] => ps
  | ps, x :: o => takes w S (takeL w S ps x) o
def takeB (w : Wd) (S : List Nat) : List Part → List Nat → List (List Nat)
  | _, [] => []
  | ps, x :: o => (takeW w S ps x).ns :: takeB w S (takeL w S ps x) o
theorem takes_app (w : Wd) (S : List Nat) (a b : List Nat) : ∀ ps, takes w S ps (a ++ b) = takes w S (takes w S ps a) b := by
  induction a with
  | nil => intro ps; rfl
  | cons x a ih => intro ps; exact ih _
theorem takeB_app (w : Wd) (S : List Nat) (a b : List Nat) : ∀ ps, takeB w S ps (a ++ b) = takeB w S ps a ++ takeB w S (takes w S ps a) b := by
  induction a with
  | nil => intro ps; rfl
  | cons x a ih => intro ps; exact congrArg (_ :: ·) (ih _)
section
variable {w : Wd} {S : List Nat} {ps : List Part} {x : Nat}
theorem filt_ok (h : ∀ p ∈ ps, p.Ok S) (f : Part → Bool) : ∀ p ∈ ps.filter f, p.Ok S := fun p hp => h p (List.mem_filter.1 hp).1
theorem takeW_uni (h : ∀ p ∈ ps, p.Ok S) (hx : x < S.length) : Uni (takeW w S ps x).ns (joinA w S (ps.filter (hasP x))).ns [x] :=
  uniS_ok (joinA_ok (filt_ok h _)).lt fun n hn => by rw [List.mem_singleton.1 hn]; exact hx
theorem takeW_ok (h : ∀ p ∈ ps, p.Ok S) (hx : x < S.length) : (takeW w S ps x).Ok S := by
  have hU := takeW_uni (w := w) h hx
  refine widP_ok hU.1 fun m hm => ?_
  rcases (hU.2 m).1 hm with h1 | h1
  · exact (joinA_ok (filt_ok h _)).lt m h1
  · rw [List.mem_singleton.1 h1]; exact hx
theorem takeW_mem (h : ∀ p ∈ ps, p.Ok S) (hx : x < S.length) (z : Nat) : z ∈ (takeW w S ps x).ns ↔ z = x ∨ ∃ p ∈ ps, x ∈ p.ns ∧ z ∈ p.ns := by
  rw [(takeW_uni (w := w) h hx).2, joinA_mem (filt_ok h _), List.mem_singleton]
  constructor
  · rintro (⟨q, h1, h2⟩ | h1)
    · obtain ⟨h3, h4⟩ := List.mem_filter.1 h1
      exact .inr ⟨q, h3, of_decide_eq_true h4, h2⟩
    · exact .inl h1
  · rintro (h1 | ⟨q, h1, h2, h3⟩)
    · exact .inr h1
    · exact .inl ⟨q, List.mem_filter.2 ⟨h1, decide_eq_true h2⟩, h3⟩
theorem takeL_ok (h : ∀ p ∈ ps, p.Ok S) (hx : x < S.length) : ∀ p ∈ takeL w S ps x, p.Ok S := fun p hp => by
  rcases List.mem_append.1 hp with h1 | h1
  · exact filt_ok h _ p h1
  · rw [List.mem_singleton.1 h1]; exact gathP_ok (takeW_ok h hx)
end
theorem takes_ok {w : Wd} {S o : List Nat} : ∀ {ps : List Part}, (∀ p ∈ ps, p.Ok S) → (∀ x ∈ o, x < S.length) → ∀ p ∈ takes w S ps o, p.Ok S := by
  induction o with
  | nil => intro ps h _; exact h
  | cons x o ih => intro ps h ho; exact ih (takeL_ok h (ho x List.mem_cons_self)) fun y hy => ho y (List.mem_cons_of_mem _ hy)
structure BdS (B : Nat) (ps : List Part) : Prop where
  ex : ∃ f : List (Part × Nat), f.map (·.1) = ps ∧ (∀ q ∈ f, 0 < q.2 ∧ Bd q.2 q.1) ∧ (f.map (·.2)).sum ≤ B
theorem BdS.up {B C : Nat} {ps : List Part} (h : BdS B ps) (hc : B ≤ C) : BdS C ps := by
  obtain ⟨f, h1, h2, h3⟩ := h.ex
  exact ⟨f, h1, h2, Nat.le_trans h3 hc⟩
theorem BdS.all {b : Nat} {ps : List Part} (hb : 0 < b) (h : ∀ p ∈ ps, Bd b p) : BdS (b * ps.length) ps := by
  refine ⟨ps.map fun p => (p, b), ?_, fun q hq => ?_, ?_⟩
  · rw [List.map_map]; exact List.map_id' ps
  · obtain ⟨p, hp, rfl⟩ := List.mem_map.1 hq
    exact ⟨hb, h p hp⟩
  · rw [List.map_map]
    clear h
    induction ps with
    | nil => simp
    | cons p ps ih => rw [List.map_cons, List.sum_cons, List.length_cons, Nat.mul_add]; simp only [Function.comp_apply]; omega
theorem BdS.cons {B : Nat} {p : Part} {ps : List Part} (h : BdS B (p :: ps)) : ∃ b C, 0 < b ∧ Bd b p ∧ BdS C ps ∧ b + C ≤ B := by
  obtain ⟨f, h1, h2, h3⟩ := h.ex
  cases f with
  | nil => cases h1
  | cons q f =>
    rw [List.map_cons] at h1
    injection h1 with e1 e2
    obtain ⟨h4, h5⟩ := h2 q List.mem_cons_self
    rw [List.map_cons, List.sum_cons] at h3
    exact ⟨q.2, (f.map (·.2)).sum, h4, e1 ▸ h5, ⟨f, e2, fun r hr => h2 r (List.mem_cons_of_mem _ hr), Nat.le_refl _⟩, h3⟩
theorem sum_part {α : Type} (f : α → Bool) (v : α → Nat) (l : List α) : ((l.filter f).map v).sum + ((l.filter fun a => !f a).map v).sum = (l.map v).sum := by
  induction l with
  | nil => rfl
  | cons a l ih =>
    cases h : f a
    · rw [List.filter_cons_of_neg (by simp [h]), List.filter_cons_of_pos (by simp [h])]
      simp only [List.map_cons, List.sum_cons]
      omega
    · rw [List.filter_cons_of_pos (by simp [h]), List.filter_cons_of_neg (by simp [h])]
      simp only [List.map_cons, List.sum_cons]
      omega
theorem BdS.part {B : Nat} {ps : List Part} (h : BdS B ps) (f : Part → Bool) : ∃ C E, BdS C (ps.filter f) ∧ BdS E (ps.filter fun p => !f p) ∧ C + E ≤ B := by
  obtain ⟨g, h1, h2, h3⟩ := h.ex
  have := sum_part (fun q : Part × Nat => f q.1) (·.2) g
  refine ⟨_, _, ⟨g.filter fun q => f q.1, ?_, fun q hq => h2 q (List.mem_filter.1 hq).1, Nat.le_refl _⟩, ⟨g.filter fun q => !f q.1, ?_, fun q hq => h2 q (List.mem_filter.1 hq).1, Nat.le_refl _⟩, by omega⟩
  · rw [← h1, List.filter_map]; rfl
  · rw [← h1, List.filter_map]; rfl
theorem BdS.snoc {B b : Nat} {ps : List Part} {p : Part} (h : BdS B ps) (hb : 0 < b) (hp : Bd b p) : BdS (B + b) (ps ++ [p]) := by
  obtain ⟨f, h1, h2, h3⟩ := h.ex
  refine ⟨f ++ [(p, b)], by rw [List.map_append, h1]; rfl, fun q hq => ?_, by rw [List.map_append, List.sum_append]; simp; omega⟩
  rcases List.mem_append.1 hq with e | e
  · exact h2 q e
  · rw [List.mem_singleton.1 e]; exact ⟨hb, hp⟩
theorem mkP_bd {S ns : List Nat} {F : (Nat → Nat) → Int} {b : Nat} (h : ∀ f, Good S ns f → (F (ats ns f)).natAbs < 2 ^ b) : Bd b (mkP S ns F) := fun x hx => by
  obtain ⟨f, hf, rfl⟩ := List.mem_map.1 hx
  exact h f (mem_fills.1 hf)
theorem joinP_bd {w : Wd} {S U : List Nat} {p q : Part} {a b : Nat} (hU : Uni U p.ns q.ns) (hp : p.Ok S) (hq : q.Ok S) (ha : 0 < a) (hb : 0 < b) (h1 : Bd a p) (h2 : Bd b q) : Bd (a + b) (joinP S (jn w) U p q) :=
  mkP_bd fun f hf => jn_bd ha hb (h1 _ (val_mem hp fun n hn => ats_lt hf ((hU.2 n).2 (.inl hn)))) (h2 _ (val_mem hq fun n hn => ats_lt hf ((hU.2 n).2 (.inr hn))))
theorem joinL_bd {w : Wd} {S : List Nat} {ps : List Part} : ∀ {p : Part} {a B : Nat}, p.Ok S → (∀ q ∈ ps, q.Ok S) → 0 < a → Bd a p → BdS B ps → Bd (a + B) (joinL w S p ps) := by
  induction ps with
  | nil => intro p a B _ _ _ h _ x hx; exact Nat.lt_of_lt_of_le (h x hx) (Nat.pow_le_pow_right (by decide) (by omega))
  | cons q ps ih =>
    intro p a B hp h ha h1 h2
    obtain ⟨b, C, hb, h3, h4, h5⟩ := h2.cons
    have hq := h q List.mem_cons_self
    have hU := uniS_ok hp.lt hq.lt
    have := ih (p := joinP S (jn w) (uniS S p.ns q.ns) p q) (joinP_ok hU hp hq) (fun r hr => h r (List.mem_cons_of_mem _ hr)) (by omega) (joinP_bd (w := w) hU hp hq ha hb h1 h3) h4
    intro x hx
    exact Nat.lt_of_lt_of_le (this x hx) (Nat.pow_le_pow_right (by decide) (by omega))
theorem unitP_bd (w : Wd) : Bd 100 (unitP w) := fun x hx => by
  rw [List.mem_singleton.1 hx]; exact unit_bd w
theorem widP_bd {S U : List Nat} {p : Part} {b : Nat} (hU : ∀ m ∈ p.ns, m ∈ U) (hp : p.Ok S) (h : Bd b p) : Bd b (widP S p U) :=
  mkP_bd fun f hf => h _ (val_mem hp fun n hn => ats_lt hf (hU n hn))
theorem gop_abs (w : Wd) (a b : Int) : (gop w a b).natAbs ≤ a.natAbs + b.natAbs := by
  cases w <;> unfold gop <;> dsimp only <;> first | omega | (split <;> omega)
theorem fold_abs (w : Wd) (m : Nat) (l : List Int) : ∀ a : Int, (∀ x ∈ l, x.natAbs ≤ m) → (l.foldl (gop w) a).natAbs ≤ a.natAbs + l.length * m := by
  induction l with
  | nil => intro a _; simp
  | cons x l ih =>
    intro a h
    have h1 := ih (gop w a x) fun y hy => h y (List.mem_cons_of_mem _ hy)
    have h2 := h x List.mem_cons_self
    have h3 := gop_abs w a x
    rw [List.foldl_cons, List.length_cons, Nat.add_mul]
    omega
theorem gt_bd (w : Wd) {l : List Int} {b : Nat} (hl : l.length ≤ 4) (h : ∀ x ∈ l, x.natAbs < 2 ^ b) : (gt w l).natAbs < 2 ^ (b + 2) := by
  have h0 : 0 < 2 ^ b := Nat.pow_pos (by decide)
  have e : 2 ^ (b + 2) = 4 * 2 ^ b := by rw [Nat.pow_add]; omega
  unfold gt
  cases l with
  | nil => rw [e]; show (0 : Int).natAbs < _; simp; omega
  | cons x l =>
    have h1 := fold_abs w (2 ^ b - 1) l x fun y hy => by have := h y (List.mem_cons_of_mem _ hy); omega
    have h2 := h x List.mem_cons_self
    rw [List.length_cons] at hl
    have h3 : l.length * (2 ^ b - 1) ≤ 3 * (2 ^ b - 1) := Nat.mul_le_mul_right _ (by omega)
    show (l.foldl (gop w) x).natAbs < _
    omega
theorem gathP_bd {w : Wd} {S : List Nat} {p : Part} {n b : Nat} (hS : ∀ s ∈ S, s ≤ 4) (hp : p.Ok S) (h : Bd b p) : Bd (b + 2) (gathP S w p n) :=
  mkP_bd fun f hf => by
    refine gt_bd w ?_ fun x hx => ?_
    · rw [List.length_map, List.length_range]
      unfold sz
      rw [List.getD_eq_getElem?_getD]
      cases e : S[n]? with
      | none => exact Nat.zero_le _
      | some s => exact hS s (List.mem_of_getElem? e)
    · obtain ⟨v, hv, rfl⟩ := List.mem_map.1 hx
      exact h _ (val_mem hp (fit_put (fun m hm => ats_lt hf hm) (List.mem_range.1 hv)))
theorem takeW_bd {w : Wd} {S : List Nat} {ps : List Part} {x B : Nat} (h : ∀ p ∈ ps, p.Ok S) (hx : x < S.length) (hb : BdS B (ps.filter (hasP x))) : Bd (100 + B) (takeW w S ps x) :=
  widP_bd (fun m hm => ((takeW_uni (w := w) h hx).2 m).2 (.inl hm)) (joinA_ok (filt_ok h _)) (joinL_bd (unitP_ok w S) (filt_ok h _) (by decide) (unitP_bd w) hb)
theorem takeL_bd {w : Wd} {S : List Nat} {ps : List Part} {x B : Nat} (hS : ∀ s ∈ S, s ≤ 4) (h : ∀ p ∈ ps, p.Ok S) (hx : x < S.length) (hb : BdS B ps) : BdS (B + 102) (takeL w S ps x) := by
  obtain ⟨C, E, h1, h2, h3⟩ := hb.part (hasP x)
  exact (h2.snoc (b := 100 + C + 2) (by omega) (gathP_bd hS (takeW_ok h hx) (takeW_bd h hx h1))).up (by omega)
end PM
namespace LS
open PySem L2 HD PM
local macro_rules | `(tactic| trivial) => `(tactic| try simp -dsimp only [↓sIf, ↓sRet, ↓retD_ext, ↓retD_lst, ↓retD_al, ↓sSet, ↓sSetE, ↓sAsg, ↓sDrop, ↓sNext, ↓sFor, ↓sRetN, ↓sCont, ↓sBreak, ↓dTest, ↓dOp, ↓dVar_w, ↓dC, ↓dCons, ↓dNil, ↓dTup, ↓dLst, ↓frzDs, ↓frzD_ext, ↓frzD_lst, ↓frzD_al, ↓wd_ext, ↓wd_lst, ↓wd_al, ↓wds, ↓AtS_ext, ↓AtS_lst, ↓AtL, ↓fAdd, ↓fSub, ↓fMul, ↓fDiv, ↓fMod, ↓fPow, ↓fCmp, ↓fIn, ↓fEq_ii, ↓fEq_ss, ↓fEq_bb, ↓fEq_tt, ↓fEq_ll, ↓fNe_ii, ↓fNe_ss, ↓fNe_bb, ↓fNe_tt, ↓fNe_ll, ↓fIx_l, ↓fIx_t, ↓fIx_k, ↓fIx_f, ↓GetS_some, ↓NatS_some, ↓fSl, ↓fIsN, ↓fNotN, ↓D.knN, ↓dNot, ↓dAnd, ↓dOr, ↓dAndV_w, ↓dOrV_w, ↓dNotV, ↓dIf, ↓dNeg, ↓dChain_w, ↓BlS_bl, ↓dCall_w, ↓dCallJ_w, ↓anyAl, ↓frozs, ↓froz, ↓gSet, ↓gTupD, ↓gsCons, ↓gsNil, ↓dSeq, ↓seqD_tup, ↓seqD_elst, ↓seqD_lst, ↓seqD_al, ↓dRange1, ↓dRange2, ↓dZip, ↓dCB, ↓dLc, ↓dYes, ↓dNoPart, ↓dPart, ↓dSl, ↓fLen, ↓fMin, ↓fMax, ↓fSum, ↓fAll, ↓fAny, ↓fSorted, ↓fTuple, ↓fList, ↓dRg1, ↓dRg2, ↓dLstRg, ↓dTupRg, ↓dIndex, ↓fIdx, ↓dAppend_w, ↓dExtend_w, ↓extD_lst, ↓dPopAt_w, ↓popD_int, ↓dPop_w, ↓mutD_w, ↓sSetItem_w, ↓setD_int, ↓dSortSet, ↓dTable_w, ↓wipeE, finals1, finals2, finals3, finals4, finals5, finals6, fin1_ext, fin1_lst, List.getElem?_cons_zero, List.getElem?_cons_succ, List.getElem?_nil, List.set_cons_zero, List.set_cons_succ, List.cons_append, List.nil_append, List.append_nil, List.replicate_succ, List.replicate_zero, List.map_cons, List.map_nil, List.length_cons, List.length_nil, true_and, and_true, ite_true, ite_false, if_true, if_false, Bool.false_eq_true, decide_eq_true_eq, Sl.plain, D.isSq, eq_self_iff_true, forall_const, reduceIte, true_or, or_true, atI_0, atI_1, atI_2, atI_3, ixN_0, ixN_1, ixN_2, AtS_ext, AtS_lst, FzS_lst, FzS_ext, GetS_some, NatS_some, ↓fIsi1, ↓fIsi2, BoolS_some, HD.kb_non_tuple, HD.kb_non_list, HD.kb_non_bool, HD.kb_non_int, HD.kb_non_str, HD.kb_bl_tuple, HD.kb_bl_list, HD.kb_bl_bool, HD.kb_bl_int, HD.kb_bl_str, HD.kb_int_tuple, HD.kb_int_list, HD.kb_int_bool, HD.kb_int_int, HD.kb_int_str, HD.kb_str_tuple, HD.kb_str_list, HD.kb_str_bool, HD.kb_str_int, HD.kb_str_str, HD.kb_lst_tuple, HD.kb_lst_list, HD.kb_lst_bool, HD.kb_lst_int, HD.kb_lst_str, HD.kb_tup_tuple, HD.kb_tup_list, HD.kb_tup_bool, HD.kb_tup_int, HD.kb_tup_str, ↓sFz_w, ↓FzS_lst, ↓FzS_ext, ↓dSortSetL, ↓fAbs, ↓fInt, ↓fRepr, ↓fLtT, ↓sRaise, ↓sTryKeep, ↓dCallV_w, ↓dMeth, ↓fCount, ↓fSplit, ↓seq_setE, ↓seq_set, ↓seq_drop, ↓seq_asg, ↓seq_if, ↓seq_for, ↓dStep, ↓fStep, ↓fMulT, ↓fIsB, ↓fNotB, ↓sPar, ↓dEnum, ↓dListZip, ↓dNest, ↓sSeal, ↓dNApp, ↓retD_reg, ↓dLenSet, ↓fSum2, ↓seq_putD, ↓seq_sealD, ↓dDIn, ↓dDGet, ↓sPutD, ↓dDNew, ↓dDOne, ↓sSealD, ↓dKeys, ↓keyS_dk, ↓dExtT])
local macro_rules | `(tactic| and_intros) => `(tactic| try simp -dsimp only [↓sIf, ↓sRet, ↓retD_ext, ↓retD_lst, ↓retD_al, ↓sSet, ↓sSetE, ↓sAsg, ↓sDrop, ↓sNext, ↓sFor, ↓sRetN, ↓sCont, ↓sBreak, ↓dTest, ↓dOp, ↓dC, ↓dCons, ↓dNil, ↓dTup, ↓dLst, ↓frzDs, ↓frzD_ext, ↓frzD_lst, ↓frzD_al, ↓wd_ext, ↓wd_lst, ↓wd_al, ↓wds, ↓AtS_ext, ↓AtS_lst, ↓AtL, ↓fAdd, ↓fSub, ↓fMul, ↓fDiv, ↓fMod, ↓fPow, ↓fCmp, ↓fIn, ↓fEq_ii, ↓fEq_ss, ↓fEq_bb, ↓fEq_tt, ↓fEq_ll, ↓fNe_ii, ↓fNe_ss, ↓fNe_bb, ↓fNe_tt, ↓fNe_ll, ↓fIx_l, ↓fIx_t, ↓fIx_k, ↓fIx_f, ↓GetS_some, ↓NatS_some, ↓fSl, ↓fIsN, ↓fNotN, ↓D.knN, ↓dNot, ↓dAnd, ↓dOr, ↓dAndV_w, ↓dOrV_w, ↓dNotV, ↓dIf, ↓dNeg, ↓dChain_w, ↓BlS_bl, ↓dCall_w, ↓dCallJ_w, ↓anyAl, ↓frozs, ↓froz, ↓gSet, ↓gTupD, ↓gsCons, ↓gsNil, ↓dSeq, ↓seqD_tup, ↓seqD_elst, ↓seqD_lst, ↓seqD_al, ↓dRange1, ↓dRange2, ↓dZip, ↓dCB, ↓dLc, ↓dYes, ↓dNoPart, ↓dPart, ↓dSl, ↓fLen, ↓fMin, ↓fMax, ↓fSum, ↓fAll, ↓fAny, ↓fSorted, ↓fTuple, ↓fList, ↓dRg1, ↓dRg2, ↓dLstRg, ↓dTupRg, ↓dIndex, ↓fIdx, ↓dAppend_w, ↓dExtend_w, ↓extD_lst, ↓dPopAt_w, ↓popD_int, ↓dPop_w, ↓mutD_w, ↓sSetItem_w, ↓setD_int, ↓dSortSet, ↓dTable_w, ↓wipeE, finals1, finals2, finals3, finals4, finals5, finals6, fin1_ext, fin1_lst, List.getElem?_cons_zero, List.getElem?_cons_succ, List.getElem?_nil, List.set_cons_zero, List.set_cons_succ, List.cons_append, List.nil_append, List.append_nil, List.replicate_succ, List.replicate_zero, List.map_cons, List.map_nil, List.length_cons, List.length_nil, true_and, and_true, ite_true, ite_false, if_true, if_false, Bool.false_eq_true, decide_eq_true_eq, Sl.plain, D.isSq, eq_self_iff_true, forall_const, reduceIte, true_or, or_true, atI_0, atI_1, atI_2, atI_3, ixN_0, ixN_1, ixN_2, AtS_ext, AtS_lst, FzS_lst, FzS_ext, GetS_some, NatS_some, ↓fIsi1, ↓fIsi2, BoolS_some, HD.kb_non_tuple, HD.kb_non_list, HD.kb_non_bool, HD.kb_non_int, HD.kb_non_str, HD.kb_bl_tuple, HD.kb_bl_list, HD.kb_bl_bool, HD.kb_bl_int, HD.kb_bl_str, HD.kb_int_tuple, HD.kb_int_list, HD.kb_int_bool, HD.kb_int_int, HD.kb_int_str, HD.kb_str_tuple, HD.kb_str_list, HD.kb_str_bool, HD.kb_str_int, HD.kb_str_str, HD.kb_lst_tuple, HD.kb_lst_list, HD.kb_lst_bool, HD.kb_lst_int, HD.kb_lst_str, HD.kb_tup_tuple, HD.kb_tup_list, HD.kb_tup_bool, HD.kb_tup_int, HD.kb_tup_str, ↓sFz_w, ↓FzS_lst, ↓FzS_ext, ↓dSortSetL, ↓fAbs, ↓fInt, ↓fRepr, ↓fLtT, ↓sRaise, ↓sTryKeep, ↓dCallV_w, ↓dMeth, ↓fCount, ↓fSplit, ↓seq_setE, ↓seq_set, ↓seq_drop, ↓seq_asg, ↓seq_if, ↓seq_for, ↓dStep, ↓fStep, ↓fMulT, ↓fIsB, ↓fNotB, ↓sPar, ↓dEnum, ↓dListZip, ↓dNest, ↓sSeal, ↓dNApp, ↓retD_reg, ↓dLenSet, ↓fSum2, ↓seq_putD, ↓seq_sealD, ↓dDIn, ↓dDGet, ↓sPutD, ↓dDNew, ↓dDOne, ↓sSealD, ↓dKeys, ↓keyS_dk, ↓dExtT, ↓dv0, ↓dw0, ↓dv1, ↓dw1, ↓dv2, ↓dw2, ↓dv3, ↓dw3, ↓dv4, ↓dw4, ↓dv5, ↓dw5, ↓dv6, ↓dw6, ↓dv7, ↓dw7, ↓dv8, ↓dw8, ↓dv9, ↓dw9, ↓dv10, ↓dw10, ↓dv11, ↓dw11, ↓dv12, ↓dw12, ↓dv13, ↓dw13, ↓dv14, ↓dw14, ↓dv15, ↓dw15, ↓dv16, ↓dw16, ↓dv17, ↓dw17, ↓dv18, ↓dw18, ↓dv19, ↓dw19])
def sp_all_joined : DSpec := fun args Q _ => ∃ (w : Wd) (S : List Nat) (ps : List Part) (B : Nat), args = [dW w, dSz S, .ext (.lst (ps.map dP))] ∧ SzOk S ∧ (∀ p ∈ ps, p.Ok S) ∧ BdS B ps ∧ B ≤ 400000 ∧ ∀ fin, Q (.ext (dP (joinA w S ps))) fin
def b1_all_joined : DTS :=
    (sSetE 3 (dCall sp_joined (dCons (dVar 0) (dCons (dVar 1) (dCons (dVar 3) (dCons (dVar 4) dNil))))))
def k2_all_joined : DTS :=
    (sRet (dVar 3))
def t_all_joined : DTS :=
    (sSeq (sSetE 3 (dTup (dCons (dTup dNil) (dCons (dTup (dCons (dCall sp_unit (dCons (dVar 0) dNil)) dNil)) dNil))))
    (sSeq (sFor (dSeq (dVar 2)) (gSet 4) b1_all_joined)
    k2_all_joined))
theorem mul_bd {p q : Part} {a b : Nat} (hp : Bd a p) (hq : Bd b q) (h : a + b < 1000000) : MulOk p q := fun x hx y hy => cmulN (hp x hx) (hq y hy) h
theorem m_all_joined : Meets t_all_joined 3 2 sp_all_joined := by
  rintro args Qd Xd ⟨w, S, ps, B, rfl, hS, hok, hB, hB4, hQ⟩
  show t_all_joined _ _ [_, _, _, .un, .un]
  unfold t_all_joined
  and_intros
  refine ⟨by decide, w, rfl, fun fin => ?_⟩
  trivial
  refine ⟨by decide, by decide, ?_⟩
  refine for_ind dP (fun qs env => ∃ (p : Part) (a C : Nat) (u4 : Sl), env = [dW w, dSz S, .ext (.lst (ps.map dP)), .ext (dP p), u4] ∧ p.Ok S ∧ 0 < a ∧ Bd a p ∧ BdS C qs ∧ a + C ≤ 500000 ∧ (∀ q ∈ qs, q.Ok S) ∧ joinL w S p qs = joinA w S ps) ?_ ?_ ps _ ⟨unitP w, 100, B, _, rfl, unitP_ok w S, by decide, unitP_bd w, hB, by omega, hok, rfl⟩
  · rintro env ⟨p, a, C, u4, rfl, _, _, _, _, _, _, e⟩
    refine ⟨True.intro, ?_⟩
    unfold k2_all_joined
    and_intros
    have e : p = joinA w S ps := e
    subst e
    exact hQ _
  rintro q qs env N ⟨p, a, C, u4, rfl, hp, ha, hb, hC, haC, hqs, e⟩ hN
  refine ⟨True.intro, ?_⟩
  unfold b1_all_joined
  and_intros
  obtain ⟨b, C', hb0, hbq, hC', hbC⟩ := hC.cons
  have hq := hqs q List.mem_cons_self
  refine ⟨w, S, p, q, rfl, hS, hp, hq, mul_bd hb hbq (by omega), fun U fin hU => ?_⟩
  trivial
  have eU := hU.eq (uniS_ok hp.lt hq.lt)
  subst eU
  exact hN _ ⟨_, a + b, C', _, rfl, joinP_ok hU hp hq, by omega, joinP_bd hU hp hq ha hb0 hb hbq, hC', by omega, fun r hr => hqs r (List.mem_cons_of_mem _ hr), e⟩
theorem takeL_len (w : Wd) (S : List Nat) (ps : List Part) (x : Nat) : (takeL w S ps x).length ≤ ps.length + 1 := by
  unfold takeL
  rw [List.length_append, List.length_singleton]
  have := List.length_filter_le (fun p => !hasP x p) ps
  omega
theorem takes_len {w : Wd} {S o : List Nat} : ∀ {ps : List Part}, (takes w S ps o).length ≤ ps.length + o.length := by
  induction o with
  | nil => intro ps; exact Nat.le_refl _
  | cons x o ih =>
    intro ps
    have h1 := ih (ps := takeL w S ps x)
    have h2 := takeL_len w S ps x
    show (takes w S (takeL w S ps x) o).length ≤ _
    rw [List.length_cons]
    omega
theorem takes_bd {w : Wd} {S o : List Nat} (hS : ∀ s ∈ S, s ≤ 4) : ∀ {ps : List Part} {B : Nat}, (∀ p ∈ ps, p.Ok S) → (∀ x ∈ o, x < S.length) → BdS B ps → BdS (B + 102 * o.length) (takes w S ps o) := by
  induction o with
  | nil => intro ps B _ _ h; exact h
  | cons x o ih =>
    intro ps B h ho hb
    have hx := ho x List.mem_cons_self
    have := ih (ps := takeL w S ps x) (takeL_ok h hx) (fun y hy => ho y (List.mem_cons_of_mem _ hy)) (takeL_bd hS h hx hb)
    exact this.up (by rw [List.length_cons]; omega)
theorem takes_snoc (w : Wd) (S : List Nat) (ps : List Part) (o : List Nat) (x : Nat) : takes w S ps (o ++ [x]) = takeL w S (takes w S ps o) x := takes_app w S o [x] ps
theorem takeB_snoc (w : Wd) (S : List Nat) (ps : List Part) (o : List Nat) (x : Nat) : takeB w S ps (o ++ [x]) = takeB w S ps o ++ [(takeW w S (takes w S ps o) x).ns] := takeB_app w S o [x] ps
theorem takeB_len {w : Wd} {S o : List Nat} : ∀ {ps : List Part}, (takeB w S ps o).length = o.length := by
  induction o with
  | nil => intro ps; rfl
  | cons x o ih => intro ps; show (takeB w S (takeL w S ps x) o).length + 1 = _; rw [ih]; rfl
end LS
namespace HD
open PySem PyProof.Rows L2
def fSortT : List D → (Sl → Prop) → Prop
  | [.tup ds], Q => ∃ ns : List Int, ds = ns.map D.int ∧ ∀ (ns' : List Int) (a : Addr), ns'.Perm ns → ns'.Pairwise (· ≤ ·) → Q (.lst a (ns'.map D.int))
  | _, _ => False
end HD
namespace HD
open PySem PyProof.Rows L2
open PySem.W (AlikeAll minD dataLt min_list_data readsAll_at keyToks keyToksAll)
abbrev pD (p : Int × Int) : D := .tup [.int p.1, .int p.2]
def lxP (p q : Int × Int) : Prop := p.1 < q.1 ∨ (p.1 = q.1 ∧ p.2 ≤ q.2)
def fMinP : List D → (Sl → Prop) → Prop
  | [.lst ds], Q => ∃ ps : List (Int × Int), ds = ps.map pD ∧ ps ≠ [] ∧ ∀ p ∈ ps, (∀ q ∈ ps, lxP p q) → Q (.ext (pD p))
  | _, _ => False
end HD
namespace HD
open PySem PyProof.Rows L2
section
variable {G : GG} {N : List Str} {sc : SC} {k : Nat} {b : Expr} {tb : DT} {apos cpos py : Pos} {x : Str}
def dRemove (i : Nat) (t : DT) : DT := fun Ex env Q => (∃ a ds, env[i]? = some (.lst a ds)) ∧ t Ex env fun x env1 => ∃ (a : Addr) (ns : List Int) (n : Int) (j : Nat), x = .ext (.int n) ∧ env1[i]? = some (.lst a (ns.map D.int)) ∧ ns[j]? = some n ∧ (∀ m, m < j → ns[m]? ≠ some n) ∧ Q (.ext .non) (env1.set i (.lst a ((ns.eraseIdx j).map D.int)))
end
end HD
namespace LS
open PySem L2 HD PM
open K01 (isInt_all fil0 iD_inj pl_tup nD_iD)
local macro_rules | `(tactic| trivial) => `(tactic| try simp -dsimp only [↓sIf, ↓sRet, ↓retD_ext, ↓retD_lst, ↓retD_al, ↓sSet, ↓sSetE, ↓sAsg, ↓sDrop, ↓sNext, ↓sFor, ↓sRetN, ↓sCont, ↓sBreak, ↓dTest, ↓dOp, ↓dVar_w, ↓dC, ↓dCons, ↓dNil, ↓dTup, ↓dLst, ↓frzDs, ↓frzD_ext, ↓frzD_lst, ↓frzD_al, ↓wd_ext, ↓wd_lst, ↓wd_al, ↓wds, ↓AtS_ext, ↓AtS_lst, ↓AtL, ↓fAdd, ↓fSub, ↓fMul, ↓fDiv, ↓fMod, ↓fPow, ↓fCmp, ↓fIn, ↓fEq_ii, ↓fEq_ss, ↓fEq_bb, ↓fEq_tt, ↓fEq_ll, ↓fNe_ii, ↓fNe_ss, ↓fNe_bb, ↓fNe_tt, ↓fNe_ll, ↓fIx_l, ↓fIx_t, ↓fIx_k, ↓fIx_f, ↓GetS_some, ↓NatS_some, ↓fSl, ↓fIsN, ↓fNotN, ↓D.knN, ↓dNot, ↓dAnd, ↓dOr, ↓dAndV_w, ↓dOrV_w, ↓dNotV, ↓dIf, ↓dNeg, ↓dChain_w, ↓BlS_bl, ↓dCall_w, ↓dCallJ_w, ↓anyAl, ↓frozs, ↓froz, ↓gSet, ↓gTupD, ↓gsCons, ↓gsNil, ↓dSeq, ↓seqD_tup, ↓seqD_elst, ↓seqD_lst, ↓seqD_al, ↓dRange1, ↓dRange2, ↓dZip, ↓dCB, ↓dLc, ↓dYes, ↓dNoPart, ↓dPart, ↓dSl, ↓fLen, ↓fMin, ↓fMax, ↓fSum, ↓fAll, ↓fAny, ↓fSorted, ↓fTuple, ↓fList, ↓dRg1, ↓dRg2, ↓dLstRg, ↓dTupRg, ↓dIndex, ↓fIdx, ↓dAppend_w, ↓dExtend_w, ↓extD_lst, ↓dPopAt_w, ↓popD_int, ↓dPop_w, ↓mutD_w, ↓sSetItem_w, ↓setD_int, ↓dSortSet, ↓dTable_w, ↓wipeE, finals1, finals2, finals3, finals4, finals5, finals6, fin1_ext, fin1_lst, List.getElem?_cons_zero, List.getElem?_cons_succ, List.getElem?_nil, List.set_cons_zero, List.set_cons_succ, List.cons_append, List.nil_append, List.append_nil, List.replicate_succ, List.replicate_zero, List.map_cons, List.map_nil, List.length_cons, List.length_nil, true_and, and_true, ite_true, ite_false, if_true, if_false, Bool.false_eq_true, decide_eq_true_eq, Sl.plain, D.isSq, eq_self_iff_true, forall_const, reduceIte, true_or, or_true, atI_0, atI_1, atI_2, atI_3, ixN_0, ixN_1, ixN_2, AtS_ext, AtS_lst, FzS_lst, FzS_ext, GetS_some, NatS_some, ↓fIsi1, ↓fIsi2, BoolS_some, HD.kb_non_tuple, HD.kb_non_list, HD.kb_non_bool, HD.kb_non_int, HD.kb_non_str, HD.kb_bl_tuple, HD.kb_bl_list, HD.kb_bl_bool, HD.kb_bl_int, HD.kb_bl_str, HD.kb_int_tuple, HD.kb_int_list, HD.kb_int_bool, HD.kb_int_int, HD.kb_int_str, HD.kb_str_tuple, HD.kb_str_list, HD.kb_str_bool, HD.kb_str_int, HD.kb_str_str, HD.kb_lst_tuple, HD.kb_lst_list, HD.kb_lst_bool, HD.kb_lst_int, HD.kb_lst_str, HD.kb_tup_tuple, HD.kb_tup_list, HD.kb_tup_bool, HD.kb_tup_int, HD.kb_tup_str, ↓sFz_w, ↓FzS_lst, ↓FzS_ext, ↓dSortSetL, ↓fAbs, ↓fInt, ↓fRepr, ↓fLtT, ↓sRaise, ↓sTryKeep, ↓dCallV_w, ↓dMeth, ↓fCount, ↓fSplit, ↓seq_setE, ↓seq_set, ↓seq_drop, ↓seq_asg, ↓seq_if, ↓seq_for, ↓dStep, ↓fStep, ↓fMulT, ↓fIsB, ↓fNotB, ↓sPar, ↓dEnum, ↓dListZip, ↓dNest, ↓sSeal, ↓dNApp, ↓retD_reg, ↓dLenSet, ↓fSum2, ↓seq_putD, ↓seq_sealD, ↓dDIn, ↓dDGet, ↓sPutD, ↓dDNew, ↓dDOne, ↓sSealD, ↓dKeys, ↓keyS_dk, ↓dExtT, ↓fSortT, ↓fMinP, ↓dRemove])
def sp_law_is_order : DSpec := fun args Q _ => ∃ (many : Int) (d : D) (k : Nat), args = [.ext d, dI many] ∧ D.pl k d = true ∧ ShortT d ∧ ∀ (b : Bool) fin, (b = true ↔ OrderD many d) → Q (.ext (.bl b)) fin
def e1_law_is_order : DT :=
    (dC (.int 1))
def e2_law_is_order : DT :=
    (dC (.int 1))
def t_law_is_order : DTS :=
    (sSeq (sIf (dNot (dTest (dCB fIsi (dCons (dVar 0) (dCons (dC (.val (.ty "tuple"))) dNil))))) (sRet (dC (.bl false))) sNext)
    (sSeq (sIf (dTest (dOp (fCmp fun i j => decide (j < i)) (dCB fLen (dCons (dLc (dSeq (dVar 0)) (gSet 2) (dOr (dTest (dCB fIsi (dCons (dVar 2) (dCons (dC (.val (.ty "bool"))) dNil)))) (dNot (dTest (dCB fIsi (dCons (dVar 2) (dCons (dC (.val (.ty "int"))) dNil)))))) e1_law_is_order [2]) dNil)) (dC (.int 0)))) (sRet (dC (.bl false))) sNext)
    (sRet (dAndV (dOp fEq (dCB fLen (dCons (dLc (dSeq (dVar 0)) (gSet 2) (dOr (dTest (dOp (fCmp fun i j => decide (i < j)) (dVar 2) (dC (.int 0)))) (dTest (dOp (fCmp fun i j => decide (j ≤ i)) (dVar 2) (dVar 1)))) e2_law_is_order [2]) dNil)) (dC (.int 0))) (dOp fEq (dLenSet (dVar 0)) (dCB fLen (dCons (dVar 0) dNil)))))))
theorem m_law_is_order : Meets t_law_is_order 2 1 sp_law_is_order := by
  rintro args Qd Xd ⟨many, d, k, rfl, hp, hsh, hQ⟩
  have nv := pl_noVal k d hp
  show t_law_is_order _ _ [_, _, .un]
  unfold t_law_is_order
  cases d with
  | val _ => cases k <;> simp [D.pl] at hp
  | fz _ => cases k <;> simp [D.pl] at hp
  | tk _ => cases k <;> simp [D.pl] at hp
  | exc _ => cases k <;> simp [D.pl] at hp
  | glo _ => cases k <;> simp [D.pl] at hp
  | dk _ _ => cases k <;> simp [D.pl] at hp
  | dt _ _ => cases k <;> simp [D.pl] at hp
  | tup ds =>
    cases k with
    | zero => simp [D.pl] at hp
    | succ k =>
      have hp := pl_tup hp
      have hl3 := hsh _ rfl
      trivial
      simp only [nv, D.isFz, true_and, Bool.not_true, Bool.false_eq_true, if_false]
      refine K02.lc_filterD (fun _ => .int 1) (fun d => !D.isInt d) True.intro ds (Nat.le_trans hp.1 (by decide)) (fun d hd R hR => ?_) fun b => ?_
      · have nvd := pl_noVal k d (hp.2 d hd)
        have hpd := hp.2 d hd
        unfold e1_law_is_order
        cases d with
        | val _ => cases k <;> simp [D.pl] at hpd
        | fz _ => cases k <;> simp [D.pl] at hpd
        | tk _ => cases k <;> simp [D.pl] at hpd
        | exc _ => cases k <;> simp [D.pl] at hpd
        | glo _ => cases k <;> simp [D.pl] at hpd
        | dk _ _ => cases k <;> simp [D.pl] at hpd
        | dt _ _ => cases k <;> simp [D.pl] at hpd
        | _ =>
          trivial
          simp only [nvd, D.isFz, true_and, Bool.not_true, Bool.not_false, Bool.false_eq_true, if_false, if_true, D.isInt] at hR ⊢
          exact hR
      trivial
      rw [List.length_map]
      by_cases hi : ∀ d ∈ ds, D.isInt d = true
      · have e0 : (ds.filter fun d => !D.isInt d).length = 0 := fil0.2 fun d hd => by simp [hi d hd]
        rw [e0, if_neg (by decide)]
        obtain ⟨l, rfl⟩ := isInt_all hi
        rw [iD_len] at hp hl3
        trivial
        refine lc_filter D.int (fun _ => .int 1) (fun i => decide (i < 0) || decide (many ≤ i)) True.intro l (Nat.le_trans hp.1 (by decide)) (fun i hi' R hR => ?_) fun b => ?_
        · unfold e2_law_is_order
          trivial
          by_cases h1 : i < 0
          · rw [if_pos h1]
            simpa [h1] using hR
          · rw [if_neg h1]
            trivial
            refine R_ifP ?_ hR
            simp [h1]
        trivial
        rw [List.length_map]
        by_cases hr : ∀ i ∈ l, 0 ≤ i ∧ i < many
        · have e1 : (l.filter fun i => decide (i < 0) || decide (many ≤ i)).length = 0 := fil0.2 fun i hi' => by
            have := hr i hi'
            simp; omega
          rw [e1]
          rw [if_pos (by decide)]
          refine ⟨l, rfl, hl3, fun m hm => ?_⟩
          rw [iD_len]
          refine hQ _ _ ?_
          obtain ⟨ns, e, eS, hns⟩ := K01.iD_nat (l := l) fun i hi' => (hr i hi').1
          have el : l = ns.map fun n : Nat => (n : Int) := iD_inj (e.trans (nD_iD ns))
          rw [e]
          have hm' : ∀ n ∈ ns, (n : Int) < many := fun n hn => (hr _ (hns n hn)).2
          have hnd : l.Nodup ↔ ns.Nodup := by rw [el]; exact cI_nodup
          rw [hnd] at hm
          rw [beq_iff_eq]
          constructor
          · intro z
            exact ⟨ns, rfl, hm.1 (by omega), hm'⟩
          · rintro ⟨ns', e', nd, _⟩
            have := nD_inj (D.tup.inj e')
            subst this
            rw [hm.2 nd]
        · have e1 : ¬ (l.filter fun i => decide (i < 0) || decide (many ≤ i)).length = 0 := fun h => hr fun i hi' => by
            have := fil0.1 h i hi'
            simp at this
            omega
          rw [if_neg (fun z => e1 (by have := (beq_iff_eq.1 z); omega))]
          refine hQ _ _ ⟨fun z => by simp at z, ?_⟩
          rintro ⟨ns, e, _, hn⟩
          have := iD_inj ((D.tup.inj e).trans (nD_iD ns))
          subst this
          refine absurd (fun i hi' => ?_) hr
          obtain ⟨n, hn', rfl⟩ := List.mem_map.1 hi'
          exact ⟨by omega, hn n hn'⟩
      · have e0 : ¬ (ds.filter fun d => !D.isInt d).length = 0 := fun h => hi fun d hd => by simpa using fil0.1 h d hd
        rw [if_pos (by omega)]
        refine hQ _ _ ⟨fun z => by simp at z, ?_⟩
        rintro ⟨ns, e, _, hn⟩
        have := D.tup.inj e
        subst this
        refine absurd (fun d hd => ?_) hi
        obtain ⟨n, _, rfl⟩ := List.mem_map.1 hd
        rfl
  | _ =>
    trivial
    simp only [nv, D.isFz, true_and, Bool.not_false, if_true]
    exact hQ _ _ ⟨fun z => by simp at z, fun ⟨_, e, _⟩ => by simp at e⟩
end LS
namespace HD
open PySem PyProof.Rows L2
abbrev tkI (P : Program) (w : World) : HeapKind P w (List Int) := tupleKind (PySem.intKind P w)
abbrev KB := List (List Int × Addr × V)
def PX (kbs : KB) (xs : List (List Int × Addr × Value)) : Prop := Paired (fun x y => x.1 = y.1 ∧ x.2.1 = y.2.1 ∧ RelV x.2.2 y.2.2) kbs xs
theorem px_of : ∀ {kbs : KB} {us : List Value}, Vals (kbs.map (·.2.2)) us → PX kbs ((kbs.zip us).map fun x => (x.1.1, x.1.2.1, x.2))
  | [], _, h => by
    cases h
    exact .nil
  | x :: kbs, _, h => by
    cases h with
    | cons r t => exact .cons ⟨rfl, rfl, r⟩ (px_of t)
theorem px_to : ∀ {kbs : KB} {xs : List (List Int × Addr × Value)}, PX kbs xs → ∃ us, Vals (kbs.map (·.2.2)) us ∧ xs = (kbs.zip us).map fun x => (x.1.1, x.1.2.1, x.2)
  | [], _, h => by
    cases h
    exact ⟨[], .nil, rfl⟩
  | x :: kbs, _, h => by
    cases h with
    | @cons _ y _ _ r t =>
      obtain ⟨us, h1, rfl⟩ := px_to t
      refine ⟨y.2.2 :: us, .cons r.2.2 h1, ?_⟩
      obtain ⟨y1, y2, y3⟩ := y
      obtain ⟨r1, r2, r3⟩ := r
      rw [List.zip_cons_cons, List.map_cons]
      show _ = (x.1, x.2.1, y3) :: _
      rw [show x.1 = y1 from r1, show x.2.1 = y2 from r2]
theorem px_keys : ∀ {kbs : KB} {xs : List (List Int × Addr × Value)}, PX kbs xs → xs.map (·.1) = kbs.map (·.1)
  | [], _, h => by
    cases h
    rfl
  | x :: kbs, _, h => by
    cases h with
    | cons r t => rw [List.map_cons, List.map_cons, px_keys t, r.1]
abbrev kvB (kbs : KB) : List (List Int × V) := kbs.map fun x => (x.1, x.2.2)
theorem px_at (k : List Int) : ∀ {kbs : KB} {xs : List (List Int × Addr × Value)}, PX kbs xs → (∀ v, luK (kvB kbs) k = some v → ∃ p, atKey xs k = some p ∧ RelV v p.2) ∧ (atKey xs k).isSome = (luK (kvB kbs) k).isSome
  | [], _, h => by
    cases h
    exact ⟨fun v z => (by cases z), rfl⟩
  | x :: kbs, _, h => by
    cases h with
    | @cons _ y _ ys r t =>
      obtain ⟨i1, i2⟩ := px_at k t
      have ey : atKey (y :: ys) k = if y.1 = k then some y.2 else atKey ys k := by
        unfold atKey
        by_cases e : y.1 = k <;> simp [List.find?_cons, e]
      rw [ey, show kvB (x :: kbs) = (x.1, x.2.2) :: kvB kbs from rfl, luK_cons]
      show (∀ v, (if x.1 = k then some x.2.2 else luK (kvB kbs) k) = some v → _) ∧ _ = (if x.1 = k then some x.2.2 else luK (kvB kbs) k).isSome
      by_cases e : x.1 = k
      · rw [if_pos e, if_pos (r.1.symm.trans e)]
        exact ⟨fun v z => by cases z; exact ⟨_, rfl, r.2.2⟩, rfl⟩
      · rw [if_neg e, if_neg (fun z => e (r.1.trans z))]
        exact ⟨i1, i2⟩
def stK (kbs : KB) (k : List Int) (b : Addr) (v : V) : KB := if (luK (kvB kbs) k).isSome then kbs.map (fun x => if x.1 = k then (x.1, x.2.1, v) else x) else kbs ++ [(k, b, v)]
theorem px_map {kbs : KB} {xs : List (List Int × Addr × Value)} (h : PX kbs xs) (k : List Int) {v : V} {r : Value} (rv : RelV v r) : PX (kbs.map fun x => if x.1 = k then (x.1, x.2.1, v) else x) (xs.map (putAt k r)) := by
  induction h with
  | nil => exact .nil
  | @cons x y _ _ r t ih =>
    refine .cons ?_ ih
    unfold putAt
    dsimp only
    by_cases e : x.1 = k
    · rw [if_pos e, if_pos (r.1.symm.trans e)]
      exact ⟨r.1, r.2.1, rv⟩
    · rw [if_neg e, if_neg (fun z => e (r.1.trans z))]
      exact r
theorem px_put {kbs : KB} {xs : List (List Int × Addr × Value)} (h : PX kbs xs) (k : List Int) (b : Addr) {v : V} {r : Value} (rv : RelV v r) : PX (stK kbs k b v) (storedH xs k b r) := by
  unfold stK storedH
  rw [(px_at k h).2]
  split
  · exact px_map h k rv
  · exact Paired.snoc h ⟨rfl, rfl, rv⟩
theorem stK_kv (kbs : KB) (k : List Int) (b : Addr) (v : V) : kvB (stK kbs k b v) = ptK (kvB kbs) k v := by
  unfold stK ptK
  rw [any_keys]
  split
  · rw [kvB, List.map_map, List.map_map]
    refine List.map_congr_left fun x _ => ?_
    show ((if x.1 = k then (x.1, x.2.1, v) else x).1, (if x.1 = k then (x.1, x.2.1, v) else x).2.2) = if x.1 = k then (x.1, v) else (x.1, x.2.2)
    split <;> rfl
  · rw [kvB, List.map_append]
    rfl
theorem stK_len (kbs : KB) (k : List Int) (b : Addr) (v : V) : (stK kbs k b v).length ≤ kbs.length + 1 := by
  unfold stK
  split
  · rw [List.length_map]; omega
  · rw [List.length_append, List.length_singleton]; exact Nat.le_refl _
section
variable {P : Program} {w : World} {H : Hp} {h h' : Heap} {a : Addr} {kbs : KB}
theorem dtO_mk (z : kbs.length ≤ sizeLine) (hs : (a == sysModules) = false) (nd : (kbs.map (·.1)).Nodup) {xs : List (List Int × Addr × Value)} (px : PX kbs xs) {o : Obj} {es : Array DictEntry} {ep : Nat} (ho : h.get? a = some o) (hc : o.ExactDict) (hd : o.data = .dict es ep)
    (he : es.toList = xs.map (entryOfKey (tkI P w))) : ObjOk P w H h a (dtO a kbs) := by
  obtain ⟨us, h1, rfl⟩ := px_to px
  refine ⟨⟨z, hs, nd, us, o, es, ep, h1, ho, hc, hd, ?_⟩, ⟨o, ho⟩, fun h1 h2 ⟨a1, a2, a3, us, o, es, ep, b1, b2, b3, b4, b5⟩ k => ⟨a1, a2, a3, us, o, es, ep, b1, k o b2, b3, b4, b5⟩⟩
  rw [he, List.map_map]
  rfl
theorem dtO_get (x : ObjOk P w H h a (dtO a kbs)) : kbs.length ≤ sizeLine ∧ (a == sysModules) = false ∧ (kbs.map (·.1)).Nodup ∧ ∃ (xs : List (List Int × Addr × Value)) (o : Obj) (es : Array DictEntry) (ep : Nat), PX kbs xs ∧ h.get? a = some o ∧ o.ExactDict ∧ o.data = .dict es ep ∧ es.toList = xs.map (entryOfKey (tkI P w)) := by
  obtain ⟨⟨a1, a2, a3, us, o, es, ep, b1, b2, b3, b4, b5⟩, _⟩ := x
  refine ⟨a1, a2, a3, _, o, es, ep, px_of b1, b2, b3, b4, ?_⟩
  rw [b5, List.map_map]
  rfl
end
section
variable {X : Cx} {pins : List (Addr × Obj)} {σ : L2.St} {H : Hp} {s : Shared} {a b : Addr} {kbs : KB} {ks : List Int}
theorem items_ints : ∀ {ks : List Int} {its : List Value}, Vals (ks.map V.int) its → ItemsAre (PySem.intKind X.prog X.w) ks its
  | [], _, h => by
    cases h
    exact .nil
  | k :: ks, _, h => by
    cases h with
    | cons r t =>
      obtain ⟨tk, rfl⟩ := r
      exact .cons (by show Value.isInt k (.int k tk) = true; simp [Value.isInt]) (items_ints t)
theorem key_is (I : Inv X pins σ H s) (h : TupD X.K H b (ks.map V.int)) : (tkI X.prog X.w).is s.heap ks b := by
  obtain ⟨its, r, ⟨o, h1, h2, n, h3⟩, _⟩ := I.tuple h.sq
  exact ⟨o, its.toArray, n, h1, h2, h3, by rw [List.toList_toArray]; exact items_ints r⟩
def KeysOk (K : PySem.W.Frag) (H : Hp) (kbs : KB) : Prop := ∀ x ∈ kbs, TupD K H x.2.1 (x.1.map V.int)
theorem px_is (I : Inv X pins σ H s) : ∀ {kbs : KB} {xs : List (List Int × Addr × Value)}, PX kbs xs → KeysOk X.K H kbs → ∀ x ∈ xs, (tkI X.prog X.w).is s.heap x.1 x.2.1
  | [], _, h, _ => by
    cases h
    intro x hx
    nomatch hx
  | y :: kbs, _, h, hk => by
    cases h with
    | cons r t =>
      intro x hx
      rcases List.mem_cons.1 hx with e | hx
      · subst e
        have := key_is I (hk y List.mem_cons_self)
        rw [r.1, r.2.1] at this
        exact this
      · exact px_is I t (fun z hz => hk z (List.mem_cons_of_mem _ hz)) x hx
theorem dt_dict (I : Inv X pins σ H s) (e : Rd H a (dtO a kbs)) (hk : KeysOk X.K H kbs) : kbs.length ≤ sizeLine ∧ (a == sysModules) = false ∧ ∃ xs, PX kbs xs ∧ s.heap.DictOfH (tkI X.prog X.w) a xs := by
  obtain ⟨a1, a2, a3, xs, o, es, ep, px, b2, b3, b4, b5⟩ := dtO_get (rd_of I.hok e)
  exact ⟨a1, a2, xs, px, o, es, ep, b2, b3, b4, b5, px_is I px hk, by rw [px_keys px]; exact a3⟩
end
section
variable {X : Cx} {o i e value : Expr} {pos pos' tpos : Pos} {td ty tv : TE}
def TD (K : PySem.W.Frag) (H : Hp) (x y : V) (a b : Addr) (kbs : KB) (ks : List Int) : Prop := x = .ref a ∧ y = .ref b ∧ Rd H a (dtO a kbs) ∧ KeysOk K H kbs ∧ TupD K H b (ks.map V.int)
def tTGet (K : PySem.W.Frag) (td ty : TE) : TE := fun σ H Q => td σ H fun x H1 => ty σ H1 fun y H2 => ∃ a b kbs ks v, TD K H2 x y a b kbs ks ∧ luK (kvB kbs) ks = some v ∧ Q v H2
def tTNotIn (K : PySem.W.Frag) (ty td : TE) : TE := fun σ H Q => ty σ H fun y H1 => td σ H1 fun x H2 => ∃ a b kbs ks, TD K H2 x y a b kbs ks ∧ Q (.bl (!(luK (kvB kbs) ks).isSome)) H2
def sTPut (K : PySem.W.Frag) (td ty tv : TE) : TS := fun D σ H => tv σ H fun v H1 => td σ H1 fun x H2 => ty σ H2 fun y H3 => ∃ a b kbs ks, x = .ref a ∧ y = .ref b ∧ H3 a = some (dtO a kbs) ∧ KeysOk K H3 kbs ∧ TupD K H3 b (ks.map V.int) ∧ kbs.length < sizeLine ∧ D.nx σ (upd H3 a (dtO a (stK kbs ks b v)))
def tTNew : TE := fun _ H Q => ∀ p, H p = none → Q (.ref p) (upd H p (dtO p []))
theorem pe_tget (hu : X.A.units + 1 < cLine) (ho : PE X o td) (hi : PE X i ty) (hs : NoSl i) : PE X (.Subscript o i pos) (tTGet X.K td ty) := by
  refine ⟨fun pins s σ H Q I h => ?_⟩
  refine subD_of PySem.F.slot_dict_getitem.lookup hs (thn (ho.run pins s σ H _ I h) fun u s1 ⟨x, H1, I1, rx, q1⟩ => thn (hi.run pins s1 σ H1 _ I1 q1) fun iv s2 ⟨y, H2, I2, ry, a, b, kbs, ks, v, ⟨ex, ey, rd, hk, hb⟩, hl, q2⟩ => ?_)
  subst ex ey
  obtain rfl : u = Value.ref a := rx
  obtain rfl : iv = Value.ref b := ry
  obtain ⟨z, hd, xs, px, dd⟩ := dt_dict I2 rd hk
  obtain ⟨p, hp, rp⟩ := (px_at ks px).1 v hl
  exact ⟨dd.typeIs, wpAny_getItem_heap (tupleKind_room_in1 hu) (key_is I2 hb) dd hp ⟨v, H2, I2.tok _, rp, q2⟩⟩
theorem pc_tnotin (hu : X.A.units + 1 < cLine) (hi : PE X i ty) (ho : PE X o td) : PC X .NotIn i o (tTNotIn X.K ty td) := by
  refine ⟨fun pins s σ H Q I h => ?_⟩
  refine thn (hi.run pins s σ H _ I h) fun iv s1 ⟨y, H1, I1, ry, q1⟩ => thn (ho.run pins s1 σ H1 _ I1 q1) fun u s2 ⟨x, H2, I2, rx, a, b, kbs, ks, ⟨ex, ey, rd, hk, hb⟩, q2⟩ => ?_
  subst ex ey
  obtain rfl : u = Value.ref a := rx
  obtain rfl : iv = Value.ref b := ry
  obtain ⟨z, hd, xs, px, dd⟩ := dt_dict I2 rd hk
  refine wpAny_notIn_heap (tupleKind_room_in1 hu) (key_is I2 hb) hd dd ?_
  rw [(px_at ks px).2]
  exact ⟨.bl (!(luK (kvB kbs) ks).isSome), H2, I2.tok _, rfl, q2⟩
theorem ps_tput (hu : X.A.units + 1 < cLine) (ho : PE X o td) (hi : PE X i ty) (hv : PE X value tv) (hs : swapsWith value (some (.Subscript o i pos')) pos.line X.env = pure false) :
    PS X (.Assign [.Subscript o i pos'] value pos) (sTPut X.K td ty tv) := by
  refine ⟨fun pins s σ H D I h => ?_⟩
  refine wpAny_Assign_Subscript (thn (hv.run pins s σ H _ I h) fun r s1 ⟨v, H1, I1, rv, q1⟩ => thn (ho.run pins s1 σ H1 _ I1 q1) fun u s2 ⟨x, H2, I2, rx, q2⟩ => thn (hi.run pins s2 σ H2 _ I2 q2) fun iv s3 ⟨y, H3, I3, ry, a, b, kbs, ks, ex, ey, rd, hk, hb, hz, q3⟩ => ?_) hs
  subst ex ey
  obtain rfl : u = Value.ref a := rx
  obtain rfl : iv = Value.ref b := ry
  obtain ⟨z, hd, xs, px, dd⟩ := dt_dict I3 (.inl rd) hk
  have hzx : xs.length ≤ sizeLine := by
    have e := congrArg List.length (px_keys px)
    rw [List.length_map, List.length_map] at e
    rw [e]; exact z
  have hl : (stK kbs ks b v).length ≤ sizeLine := by have := stK_len kbs ks b v; omega
  refine wpAny_setItem_heap (hsz := hzx) (tupleKind_room_in1 hu) (key_is I3 hb) dd fun h' dd' hs => ?_
  obtain ⟨q, es, ep, hq, h2, h3, h4, _, h5⟩ := dd'
  have px' := px_put px ks b rv
  exact ⟨σ, _, d_write I3 (by rw [rd]; exact True.intro) hs ⟨q, hq⟩ (dtO_mk hl hd (by rw [← px_keys px']; exact h5) px' hq h2 h3 h4), q3⟩
theorem pe_tnew : PE X (.Dict [] [] pos) tTNew := ⟨fun pins s σ H Q I h =>
  wpAny_Dict_empty ⟨.ref s.heap.objs.size, _, I.laid (a := s.heap.objs.size) (o := dtO s.heap.objs.size []) (t' := s.toks) (fun _ _ q => Heap.get?_push_of_some _ q) (Nat.le_refl _)
    (dtO_mk (Nat.zero_le _) (beq_eq_false_iff_ne.mpr (Ne.symm (Nat.ne_of_lt I.big))) List.nodup_nil (xs := []) .nil (Heap.get?_push_size _ rfl) ⟨rfl, rfl, rfl⟩ rfl rfl), rfl, h _ (I.hok.fresh (Nat.le_refl _))⟩⟩
end
section
variable {K : PySem.W.Frag} {F : Hp}
def EntT (K : PySem.W.Frag) (F : Hp) (kvs : List (List Int × D)) (kbs : KB) : Prop := Ents K F kvs (kvB kbs) ∧ KeysOk K F kbs
theorem EntT.nil : EntT K F [] [] := ⟨Ents.nil, fun x hx => nomatch hx⟩
theorem EntT.put {k : List Int} {b : Addr} {d : D} {v : V} (hd : Rep K F d v) (hb : TupD K F b (k.map V.int)) {kvs : List (List Int × D)} {kbs : KB} (h : EntT K F kvs kbs) : EntT K F (ptK kvs k d) (stK kbs k b v) := by
  refine ⟨by rw [stK_kv]; exact h.1.put k hd, fun x hx => ?_⟩
  unfold stK at hx
  split at hx
  · obtain ⟨y, hy, rfl⟩ := List.mem_map.1 hx
    have := h.2 y hy
    split
    · exact this
    · exact this
  · rcases List.mem_append.1 hx with hx | hx
    · exact h.2 x hx
    · rw [List.mem_singleton.1 hx]; exact hb
abbrev dtS (a : Addr) (kvs : List (List Int × D)) : Sl := .reg (.val (.ref a)) [(a, .dt kvs)]
abbrev dtD (kvs : List (List Int × D)) : D := .dt (kvs.map (·.1)) (kvs.map (·.2))
abbrev kT (k : List Int) : D := .tup (k.map D.int)
theorem entT_iff {kvs : List (List Int × D)} {kbs : KB} : EntT K F kvs kbs ↔ kbs.map (·.1) = kvs.map (·.1) ∧ (∀ x ∈ kbs, TupD K F x.2.1 (x.1.map V.int)) ∧ Reps K F (kvs.map (·.2)) (kbs.map (·.2.2)) := by
  unfold EntT Ents KeysOk
  rw [kvB, List.map_map, List.map_map]
  exact ⟨fun h => ⟨h.1.1, h.2, h.1.2⟩, fun h => ⟨⟨h.1, h.2.2⟩, h.2.1⟩⟩
theorem dt_ok {H : Hp} {v : V} {a : Addr} {kvs : List (List Int × D)} : SlOk K F H v (dtS a kvs) ↔ v = .ref a ∧ F a = none ∧ ∃ kbs, H a = some (dtO a kbs) ∧ EntT K F kvs kbs := by
  constructor
  · rintro ⟨h1, _, h3⟩
    obtain ⟨n, o, ho, kbs, rfl, r1, r2, r3⟩ := h3 (a, .dt kvs) List.mem_cons_self
    exact ⟨h1, n, kbs, ho, entT_iff.2 ⟨r1, r2, r3⟩⟩
  · rintro ⟨h1, h2, kbs, h3, h4⟩
    obtain ⟨r1, r2, r3⟩ := entT_iff.1 h4
    refine ⟨h1, List.pairwise_singleton _ _, fun p hp => ?_⟩
    rw [List.mem_singleton.mp hp]
    exact ⟨h2, _, h3, kbs, rfl, r1, r2, r3⟩
def dtAt (env : Env') (i : Nat) (kvs : List (List Int × D)) : Prop := (∃ a, env[i]? = some (dtS a kvs)) ∨ env[i]? = some (.ext (dtD kvs))
theorem KeysOk.same {F' : Hp} {kbs : KB} (e : Same F F') (h : KeysOk K F kbs) : KeysOk K F' kbs := fun x hx => TupD.same e (h x hx)
theorem Holds.dtAt {e : Ent} {env : Env'} {T : Tmp} {σ : L2.St} {H : Hp} {i : Nat} {kvs : List (List Int × D)} (h : Holds K e env T F σ H) (w : HD.dtAt env i kvs) : ∃ a kbs, σ[i]? = some (some (.ref a)) ∧ Rd H a (dtO a kbs) ∧ EntT K F kvs kbs := by
  rcases w with ⟨a, w⟩ | w
  · rcases h.slots i _ w with z | ⟨v, hv, ok⟩
    · cases z
    obtain ⟨rfl, _, kbs, h1, h2⟩ := dt_ok.1 ok
    exact ⟨a, kbs, hv, .inl h1, h2⟩
  · rcases h.slots i _ w with z | ⟨v, hv, ok⟩
    · cases z
    obtain ⟨a, od, kbs, rfl, h1, h2, h3, h4⟩ := ok
    exact ⟨a, kbs, hv, .inr ⟨od, h.fh _ _ h1⟩, entT_iff.2 ⟨h2, h3, h4⟩⟩
end
section
variable {G : GG} {N : List Str} {sc : SC} {k : Nat} {a b : Expr} {ta tb : DT} {py pos spos apos cpos : Pos} {x : Str}
def dDInT (neg : Bool) (i : Nat) (t : DT) : DT := fun Ex env Q => t Ex env fun x env1 => ∃ key kvs, x = .ext (kT key) ∧ dtAt env1 i kvs ∧ Q (.ext (.bl (neg != (luK kvs key).isSome))) env1
theorem ints_rep {K : PySem.W.Frag} {F : Hp} {ks : List Int} {v : V} (h : Rep K F (kT ks) v) : ∃ b, v = .ref b ∧ TupD K F b (ks.map V.int) := by
  obtain ⟨b, vs, rfl, h1, h2⟩ := h
  have z := h2.ints
  subst z
  exact ⟨b, rfl, h1⟩
theorem im_tnotin {K : PySem.W.Frag} {W : WX} {te : TE} {t : DT} (i : Nat) (i1 : Im K W te t) : Im K W (tTNotIn K te (tVar i)) (dDInT true i t) := fun e Ex hl env T F σ H Q R hh ht hR => by
  refine i1 e Ex hl env T F σ H _ _ hh ht fun u H1 F1 env1 z hh1 q1 => ?_
  obtain ⟨key, kvs, rfl, w, q⟩ := q1
  obtain ⟨b, rfl, hb⟩ := ints_rep (hh1.temps (u, .ext (kT key)) List.mem_cons_self)
  obtain ⟨ad, kbs, hs, rd, en⟩ := hh1.dtAt w
  refine ⟨.ref ad, hs, ad, b, kbs, key, ⟨rfl, rfl, rd, en.2.same hh1.fh, TupD.same hh1.fh hb⟩, ?_⟩
  rw [(en.1.lu key).2]
  have hv := hR (.bl (true != (luK kvs key).isSome)) H1 F1 env1 (.ext (.bl (true != (luK kvs key).isSome))) (hh1.pop.pushE rfl) q
  rw [Bool.true_bne] at hv
  exact hv
theorem dt_dnotinT (i : Nat) (h : DE G N sc k a ta) (hv : VisV N sc i x := by exact ⟨rfl, by first | exact Or.inl rfl | exact Or.inr (Or.inl rfl) | exact Or.inr (Or.inr rfl), by decide, by decide⟩) : DTe G N sc k (.Compare a [.NotIn] [.Name x py] pos) (dTest (dDInT true i ta)) := ⟨fun W => by
  obtain ⟨te, p1, i1⟩ := h.ex W
  refine ⟨tB (tTNotIn G.K te (tVar i)), fun X S => ?_, imT_of (im_tnotin i i1) fun _ _ _ h => h⟩
  rw [← S.K]
  exact pt_cmp (pc_tnotin S.u1 (p1 X S) (pe_var (by rw [S.nms]; exact hv.1) (S.vis hv.2.1) hv.2.2.1 hv.2.2.2)) rfl⟩
def dDGetT (i : Nat) (t : DT) : DT := fun Ex env Q => (∃ kvs, dtAt env i kvs) ∧ t Ex env fun x env1 => ∃ key kvs d, x = .ext (kT key) ∧ dtAt env1 i kvs ∧ luK kvs key = some d ∧ Q (.ext d) env1
theorem de_dgetT (i : Nat) (h : DE G N sc k a ta) (hs : NoSl a := by intro _ _; rfl) (hv : VisV N sc i x := by exact ⟨rfl, by first | exact Or.inl rfl | exact Or.inr (Or.inl rfl) | exact Or.inr (Or.inr rfl), by decide, by decide⟩) : DE G N sc k (.Subscript (.Name x py) a pos) (dDGetT i ta) := ⟨fun W => by
  obtain ⟨te, p1, i1⟩ := h.ex W
  refine ⟨tTGet G.K (tVar i) te, fun X S => ?_, fun e Ex hl env T F σ H Q R hh ht hR => ?_⟩
  · rw [← S.K]
    exact pe_tget S.u1 (pe_var (by rw [S.nms]; exact hv.1) (S.vis hv.2.1) hv.2.2.1 hv.2.2.2) (p1 X S) hs
  obtain ⟨⟨kvs0, w0⟩, ht⟩ := ht
  obtain ⟨a0, _, hs0, _⟩ := hh.dtAt w0
  refine ⟨_, hs0, ?_⟩
  refine i1 e Ex hl env T F σ H _ _ hh ht fun u H1 F1 env1 z hh1 q1 => ?_
  obtain ⟨key, kvs, d, rfl, w, hd, q⟩ := q1
  obtain ⟨b, rfl, hb⟩ := ints_rep (hh1.temps (u, .ext (kT key)) List.mem_cons_self)
  obtain ⟨ad, kbs, hs1, rd, en⟩ := hh1.dtAt w
  rw [hs0] at hs1
  cases hs1
  obtain ⟨v, hv', rv⟩ := (en.1.lu key).1 d hd
  exact ⟨a0, b, kbs, key, v, ⟨rfl, rfl, rd, en.2.same hh1.fh, TupD.same hh1.fh hb⟩, hv', hR v H1 F1 env1 (.ext d) (hh1.pop.pushE rv) q⟩⟩
def sPutDT (i : Nat) (tk tv : DT) : DTS := fun Ex E env => tv Ex env fun y env0 => frzD env0 y fun d env1 => (∃ a kvs, env1[i]? = some (dtS a kvs)) ∧ tk Ex env1 fun x env2 => ∃ a kvs key, env2[i]? = some (dtS a kvs) ∧ x = .ext (kT key) ∧ kvs.length < sizeLine ∧ E.nx (env2.set i (dtS a (ptK kvs key d)))
theorem Holds.dtW {K : PySem.W.Frag} {e : Ent} {env : Env'} {T : Tmp} {F : Hp} {σ : L2.St} {H : Hp} {i : Nat} {ad : Addr} {kvs kvs' : List (List Int × D)} {kbs' : KB} (h : Holds K e env T F σ H) (hi : env[i]? = some (dtS ad kvs)) (hr : EntT K F kvs' kbs') : Holds K e (env.set i (dtS ad kvs')) T F σ (upd H ad (dtO ad kbs')) := by
  refine h.writeR hi (List.mem_singleton.mpr rfl) rfl (fun v ok => ?_) (fun z => by cases z)
  obtain ⟨h1, h2, _⟩ := dt_ok.1 ok
  exact dt_ok.2 ⟨h1, h2, kbs', upd_same, hr⟩
theorem ds_dputT (i : Nat) (hi : DE G N sc k a ta) (hb : DE G N sc k b tb) (hsw : ∀ env, swapsWith b (some (.Subscript (.Name x py) a spos)) pos.line env = pure false := by intro _; rfl) (hv : VisV N sc i x := by exact ⟨rfl, by first | exact Or.inl rfl | exact Or.inr (Or.inl rfl) | exact Or.inr (Or.inr rfl), by decide, by decide⟩) :
    DS G N sc k (.Assign [.Subscript (.Name x py) a spos] b pos) (sPutDT i ta tb) := ⟨fun W => by
  obtain ⟨te, p1, i1⟩ := hi.ex W
  obtain ⟨tf, p2, i2⟩ := hb.ex W
  refine ⟨sTPut G.K (tVar i) te tf, fun X S => ?_, fun e Ex hl env F σ H E Dn hh ht ok => ?_⟩
  · rw [← S.K]
    exact ps_tput S.u1 (pe_var (by rw [S.nms]; exact hv.1) (S.vis hv.2.1) hv.2.2.1 hv.2.2.2) (p1 X S) (p2 X S) (hsw _)
  refine i2 e Ex hl env [] F σ H _ _ hh ht fun v H1 F1 env1 y hh1 q1 => ?_
  obtain ⟨d, F2, env2, _, hh2, rd, ⟨a0, kvs0, w0⟩, q2⟩ := hh1.frz1 q1
  obtain ⟨a0', _, hs0, _⟩ := hh2.dtAt (.inl ⟨a0, w0⟩)
  refine ⟨_, hs0, ?_⟩
  refine i1 e Ex hl env2 _ F2 σ H1 _ _ (hh2.pushE rd) q2 fun u H3 F3 env3 z hh3 q3 => ?_
  obtain ⟨a1, kvs, key, w1, rfl, hz, q⟩ := q3
  obtain ⟨b, rfl, hb⟩ := ints_rep (hh3.temps (u, .ext (kT key)) List.mem_cons_self)
  have rd3 : Rep G.K F3 d v := hh3.temps (v, .ext d) (List.mem_cons_of_mem _ List.mem_cons_self)
  rcases hh3.slots i _ w1 with z | ⟨v1, hv1, ok1⟩
  · cases z
  obtain ⟨rfl, _, kbs, hH, en⟩ := dt_ok.1 ok1
  rw [hs0] at hv1
  cases hv1
  refine ⟨a0', b, kbs, key, rfl, rfl, hH, en.2.same hh3.fh, TupD.same hh3.fh hb, ?_, ok.nx _ F3 σ _ (hh3.bare.dtW w1 (en.put rd3 hb)) q⟩
  have := en.1.length
  rw [List.length_map] at this
  rw [← this]; exact hz⟩
def dDNewT : DT := fun _ env Q => ∀ a, Q (dtS a []) env
theorem de_dnewT : DE G N sc k (.Dict [] [] pos) dDNewT := ⟨fun W => ⟨tTNew, fun X S => pe_tnew, fun e Ex hl env T F σ H Q R hh ht hR p hp => by
  refine hR _ _ F env (dtS p []) (hh.push (Grow.loose hh.fh hp) (dt_ok.2 ⟨rfl, hh.fh.free hp, [], upd_same, .nil⟩) fun c hc => ?_) (ht p)
  rw [List.mem_singleton.mp hc]
  exact hp⟩⟩
def sSealDT (i : Nat) (t : DTS) : DTS := fun Ex E env => ∃ a kvs, env[i]? = some (dtS a kvs) ∧ t Ex E (env.set i (.ext (dtD kvs)))
theorem ds_sealDT {st : Stmt} {t : DTS} (i : Nat) (h : DS G N sc k st t) : DS G N sc k st (sSealDT i t) := ⟨fun W => by
  obtain ⟨ts, p1, i1⟩ := h.ex W
  refine ⟨tKnown ts, fun X S => ps_known (p1 X S), fun e Ex hl env F σ H E Dn hh ht ok => ?_⟩
  obtain ⟨a, kvs, hi, ht⟩ := ht
  rcases hh.slots i _ hi with z | ⟨v, hv, okv⟩
  · cases z
  obtain ⟨rfl, hF, kbs, hH, en⟩ := dt_ok.1 okv
  refine ⟨a, dtO a kbs, hH, True.intro, fun od => ?_⟩
  have sm : Same F (upd F a (.frz od (dtO a kbs))) := fun b q hq => by
    rw [upd_ne (ne_of_none hq hF)]
    exact hq
  obtain ⟨r1, r2, r3⟩ := entT_iff.1 en
  exact i1 e Ex hl _ _ σ _ E Dn (hh.lock (o := dtO a kbs) (o' := .frz od (dtO a kbs)) (d := dtD kvs) hi ⟨a, od, kbs, rfl, upd_same, r1, fun x hx => TupD.same sm (r2 x hx), r3.same sm⟩).1 ht ok⟩
end
end HD
namespace HD
open PySem PyProof.Rows L2
theorem px_get {kbs : KB} {xs : List (List Int × Addr × Value)} (h : PX kbs xs) {i : Nat} {x : List Int × Addr × V} (hx : kbs[i]? = some x) : ∃ y, xs[i]? = some y ∧ x.1 = y.1 ∧ x.2.1 = y.2.1 ∧ RelV x.2.2 y.2.2 := paired_get h hx
section
variable {X : Cx} {pins : List (Addr × Obj)} {σ : L2.St} {H : Hp} {s : Shared} {d : Addr} {o : Obj}
theorem frzO {kbs : KB} (I : Inv X pins σ H s) (h : H d = some (.frz o (dtO d kbs))) :
    (d == sysModules) = false ∧ s.heap.get? d = some o ∧ o.ExactDict ∧ ∃ (es : Array DictEntry) (ep : Nat), o.data = .dict es ep ∧ es.size = kbs.length ∧
      ∀ (i : Nat) (x : List Int × Addr × V), kbs[i]? = some x → ∃ en : DictEntry, es[i]? = some en ∧ en.key = .ref x.2.1 := by
  obtain ⟨hd, hx⟩ := (show ObjOk X.prog X.w H s.heap d (.frz o (dtO d kbs)) from I.hok d _ h)
  obtain ⟨a1, a2, a3, xs, o', es, ep, px, ho, hc, hdt, he⟩ := dtO_get (P := X.prog) (w := X.w) hx
  rw [hd] at ho
  cases ho
  have l1 : es.size = xs.length := size_of_entries he
  have l2 : kbs.length = xs.length := Paired.length px
  refine ⟨a2, hd, hc, es, ep, hdt, by omega, fun i x e => ?_⟩
  obtain ⟨y, hy, e1, e2, _⟩ := px_get px e
  have q := entry_at he i
  rw [hy] at q
  exact ⟨_, q, by rw [e2]; rfl⟩
end
def keyST (x : Sl) (q : List (List Int) → Prop) : Prop := match x with
  | .ext (.dt ks _) => q ks
  | _ => False
theorem keyST_dt (ks : List (List Int)) (ds : List D) (q : List (List Int) → Prop) : keyST (.ext (.dt ks ds)) q = q ks := rfl
def dKeysT (t : DT) : DTI := fun Ex env Q => t Ex env fun x env1 => keyST x fun ks => Q (ks.map kT) (fun _ => True) env1
end HD
namespace HD
open PySem PyProof.Rows L2
open PySem.W (dataLt keyToks keyToksAll dataLe EachIs AllAlike Sortable list_sort_data KdlSrc kdl_extend kdl_hint_dict alike alikeAll)
theorem toks_ints : ∀ ns ms : List Int, PyProof.Rows.lexLt itemOrd (keyToksAll (ns.map PyData.int)) (keyToksAll (ms.map PyData.int)) = HT.lexLt ns ms
  | [], [] => by
    show PyProof.Rows.lexLt itemOrd [Sum.inl 0] [Sum.inl 0] = false
    decide
  | [], m :: ms => by
    show PyProof.Rows.lexLt itemOrd [Sum.inl 0] (Sum.inl 1 :: _) = true
    rw [lex_cons]
    show (decide ((0 : Int) < 1) || _) = true
    rfl
  | n :: ns, [] => by
    show PyProof.Rows.lexLt itemOrd (Sum.inl 1 :: _) [Sum.inl 0] = false
    rw [lex_cons]
    show (decide ((1 : Int) < 0) || (!decide ((0 : Int) < 1) && _)) = false
    rfl
  | n :: ns, m :: ms => by
    show PyProof.Rows.lexLt itemOrd (Sum.inl 1 :: Sum.inl n :: keyToksAll (ns.map PyData.int)) (Sum.inl 1 :: Sum.inl m :: keyToksAll (ms.map PyData.int)) = _
    rw [lex_cons, lex_cons, toks_ints ns ms, HT.lexLt_cons]
    show (decide ((1 : Int) < 1) || (!decide ((1 : Int) < 1) && (decide (n < m) || (!decide (m < n) && HT.lexLt ns ms)))) = _
    have e1 : decide ((1 : Int) < 1) = false := by decide
    rw [e1, Bool.false_or, Bool.not_false, Bool.true_and]
    by_cases e : n = m
    · subst e
      rw [if_pos rfl, decide_eq_false (Int.lt_irrefl n), Bool.false_or, Bool.not_false, Bool.true_and]
    · rw [if_neg e]
      by_cases h : n < m
      · rw [decide_eq_true h, Bool.true_or]
      · rw [decide_eq_false h, decide_eq_true (show m < n by omega)]
        rfl
abbrev tI (k : List Int) : PyData := .tuple (k.map PyData.int)
theorem le_ints {β : Type} (f : β → List Int) (a b : β) : dataLe false (fun x => tI (f x)) a b = !HT.lexLt (f b) (f a) := by
  show (!PyProof.Rows.lexLt itemOrd (keyToksAll ((f b).map PyData.int)) (keyToksAll ((f a).map PyData.int))) = _
  rw [toks_ints]
theorem alike_ints : ∀ ns ms : List Int, alikeAll (ns.map PyData.int) (ms.map PyData.int) = true
  | [], _ => rfl
  | _ :: _, [] => rfl
  | n :: ns, m :: ms => by
    show (alike (.int n) (.int m) && alikeAll (ns.map PyData.int) (ms.map PyData.int)) = true
    rw [alike_ints ns ms]
    rfl
theorem each_map {α β : Type} {R : α → β → Prop} (g : β → α) (hR : ∀ a b, R a b → a = g b) : ∀ {l : List α} {m : List β}, EachIs R l m → l = m.map g
  | _, _, .nil => rfl
  | _, _, .cons h t => by rw [List.map_cons, ← each_map g hR t, hR _ _ h]
theorem each_of {α β : Type} {R : α → β → Prop} (g : β → α) : ∀ {m : List β}, (∀ b ∈ m, R (g b) b) → EachIs R (m.map g) m
  | [], _ => .nil
  | b :: m, h => .cons (h b List.mem_cons_self) (each_of g fun c hc => h c (List.mem_cons_of_mem _ hc))
abbrev AK := Addr × List Int
def LxS (bs : List AK) : Prop := bs.Pairwise fun a b => HT.lexLt b.2 a.2 = false
section
variable {prog : Program} {w : World} {A : Around} {E : Value → Shared → Prop} {s : Shared}
theorem reads_int0 {h : Heap} : ∀ {k : List Int} {vs : List Value} {as : List Addr}, ReadsAll h vs (k.map PyData.int) as → as = []
  | [], _, _, r => by
    cases r
    rfl
  | n :: k, _, _, r => by
    cases r with
    | cons h1 h2 =>
      cases h1
      exact reads_int0 h2
theorem reads_ints {h : Heap} {k : List Int} {v : Value} {as : List Addr} (r : Reads h v (tI k) as) : as = [] := by
  cases r with
  | tuple h1 h2 h3 h4 => exact reads_int0 h4
theorem depth_all : ∀ k : List Int, PyData.depthAll (k.map PyData.int) = 0
  | [] => rfl
  | n :: k => by
    show max 0 (PyData.depthAll (k.map PyData.int)) = 0
    rw [depth_all k]
    rfl
theorem depth_ints (k : List Int) : (tI k).depth ≤ 1 := by
  show PyData.depthAll (k.map PyData.int) + 1 ≤ 1
  rw [depth_all]
  exact Nat.le_refl _
theorem swo_none : SrtO.Swo (fun _ _ : Value => false) := ⟨fun _ _ h => rfl, fun _ _ _ _ _ => rfl⟩
theorem perm_small {α : Type} {l m : List α} (h : l.Perm m) (hl : m.length ≤ 1) : l = m := by
  cases m with
  | nil => exact List.perm_nil.1 h
  | cons x m =>
    have e : m = [] := List.length_eq_zero_iff.1 (by simpa using hl)
    subst e
    exact List.perm_singleton.1 h
theorem sorted_bs {r : Addr} {bs : List AK} {Q : Value → Shared → Prop} (hz : bs.length ≤ sizeLine) (hne : bs.length ≤ 1 ∨ ∀ b ∈ bs, b.2 ≠ []) (hu : A.units + 10 < cLine)
    (hcol : ∀ (R : List Value → Shared → Prop) (E' : Value → Shared → Prop), (∀ h' tk, (∀ b o, s.heap.get? b = some o → h'.get? b = some o) → s.heap.objs.size ≤ h'.objs.size → R (bs.map fun b => Value.ref b.1) { s with heap := h', toks := tk }) → wpAny (model prog w) A.in1 (collect (.ref r)) R E' s)
    (er : ∀ b ∈ bs, ∃ as, Reads s.heap (.ref b.1) (tI b.2) as)
    (h : ∀ h' tk c p bs', (∀ b o, s.heap.get? b = some o → h'.get? b = some o) → s.heap.objs.size ≤ p → h'.get? p = some (seqObj "list" (bs'.map fun b => Value.ref b.1).toArray c) → bs'.Perm bs → LxS bs' → Q (.ref p) { s with heap := h', toks := tk }) :
    wpAny (model prog w) A (call (.builtin "sorted") [.ref r]) Q E s := by
  refine Calls.call_function_entry kind_sorted plain_sorted entry_sorted (args_sorted1 _) ?_
  unfold Builtin.«sorted»
  refine wpAny_bind (m := checkCount "sorted" 1 1 _) (wpAny_pure ?_)
  refine wpAny_bind (hcol _ _ fun h1 tk k1 hp => ?_)
  have hL : (bs.map fun b => Value.ref b.1).length ≤ sizeLine := by rw [List.length_map]; exact hz
  refine wpAny_bind (wpAny_newList ?_ hL)
  have hoL : (h1.push (seqObj "list" (bs.map fun b => Value.ref b.1).toArray 0)).get? h1.objs.size = some (seqObj "list" (bs.map fun b => Value.ref b.1).toArray 0) := Heap.get?_push_size _ rfl
  have fin : ∀ (out : List Value) (bs' : List AK), out = bs'.map (fun b => Value.ref b.1) → bs'.Perm bs → LxS bs' → Q (.ref h1.objs.size) { s with heap := sortedHeap (h1.push (seqObj "list" (bs.map fun b => Value.ref b.1).toArray 0)) h1.objs.size (bs.map fun b => Value.ref b.1) out.toArray, toks := tk } := fun out bs' e hpm hsr => by
    subst e
    obtain ⟨ep, he'⟩ := sortedHeap_at (vs := bs.map fun b => Value.ref b.1) (out := (bs'.map fun b => Value.ref b.1).toArray) hoL
    refine h _ tk ep _ bs' (fun b o e => ?_) hp he' hpm hsr
    have hlt := Heap.lt_size (k1 b o e)
    rw [sortedHeap_old (Nat.ne_of_lt hlt) (by
      rw [size_push']
      exact Nat.lt_succ_of_lt hlt)]
    exact Heap.get?_push_of_some _ (k1 b o e)
  by_cases h1l : bs.length ≤ 1
  · refine wpAny_bind (wpAny_holding (wpAny_call_entry slot_list_sort ⟨_, hoL, rfl⟩ entry_list_sort (SrtO.list_sort_ord swo_none hoL hL (fun h2 => absurd h2 (by rw [List.length_map]; omega)) fun out hs hb => ⟨_, rfl, ?_⟩) (args_list_sort _)))
    have e : out = bs.map fun b => Value.ref b.1 := perm_small hb.perm (by rw [List.length_map]; exact h1l)
    refine wpAny_pure ⟨_, rfl, fin out bs e (List.Perm.refl _) ?_⟩
    cases bs with
    | nil => exact List.Pairwise.nil
    | cons x m =>
      have e : m = [] := List.length_eq_zero_iff.1 (by simpa using h1l)
      subst e
      exact List.pairwise_singleton _ _
  · have hne' := hne.resolve_left h1l
    have kp : ∀ b o, s.heap.get? b = some o → (h1.push (seqObj "list" (bs.map fun b => Value.ref b.1).toArray 0)).get? b = some o := fun b o e => Heap.get?_push_of_some _ (k1 b o e)
    refine wpAny_bind (wpAny_holding (list_sort_data (R := fun v (b : AK) => v = .ref b.1) (enc := fun b : AK => tI b.2) (bs := bs) hoL (each_of (fun b : AK => Value.ref b.1) fun b _ => rfl) (each_of (fun b : AK => Value.ref b.1) fun b hb => ?_) ?_ ?_ hz (fun b hb => ?_) fun out hlen he => ?_))
    · obtain ⟨as, ra⟩ := er b hb
      have e := reads_ints ra
      subst e
      exact ⟨[], PyProof.Rows.Reads.keeps kp ra, by simp⟩
    · intro d hd d' hd'
      obtain ⟨x, _, rfl⟩ := List.mem_map.1 hd
      obtain ⟨y, _, rfl⟩ := List.mem_map.1 hd'
      exact alike_ints x.2 y.2
    · refine .inl fun d hd => ?_
      obtain ⟨x, hx, rfl⟩ := List.mem_map.1 hd
      cases e : x.2 with
      | nil => exact absurd e (hne' x hx)
      | cons y ys => exact ⟨.int y, ys.map PyData.int, rfl⟩
    · show A.in1.in1.units + _ < _
      have := depth_ints b.2
      show A.units + 1 + 1 + (tI b.2).depth < cLine
      omega
    · have e := each_map (fun b : AK => Value.ref b.1) (fun _ _ h => h) he
      refine wpAny_pure ⟨_, rfl, fin out _ e (List.mergeSort_perm ..) ?_⟩
      have := List.pairwise_mergeSort (le := dataLe false fun b : AK => tI b.2) (fun a b c => (PySem.W.sortLe_total _ _ _).trans a b c) (fun a b => Bool.or_eq_true_iff.2 ((PySem.W.sortLe_total _ _ _).total a b)) bs
      refine this.imp fun {a b} hab => ?_
      rw [le_ints (fun b : AK => b.2)] at hab
      simpa using hab
end
section
variable {prog : Program} {w : World} {A : Around} {d : Addr} {od : Obj} {es : Array DictEntry} {ep : Nat}
theorem walks_raw (hh : A.handled = none) (I d : Addr) (hne : d ≠ I) (hdd : od.data = .dict es ep) :
    Walks prog w A I [I, d] [I] es.size (fun i v => ∃ en, es[i]? = some en ∧ en.key = v) (fun i h => h.IsKeyIter I d i es.size ep ∧ h.get? d = some od) where
  sub := fun b hb => by simp at hb; simp [hb]
  frame := fun _ _ _ st hk => ⟨st.1.at fun o e => hk I (by simp) o e, hk d (by simp) _ st.2⟩
  item := fun i s Q E hi st hQ => by
    obtain ⟨en, hx⟩ : ∃ p, es[i]? = some p := ⟨es[i], by simp [hi]⟩
    refine next_key_item st.1 st.2 hdd rfl hx fun h' hit' hs' => ?_
    exact hQ en.key h' s.toks ⟨en, hx, rfl⟩ ⟨hit', (hs'.2 d hne).trans st.2⟩ fun b o hb e => (hs'.2 b (fun h => hb (by simp [h]))).trans e
  done := fun s Q E st hQ => next_key_end hh st.1 st.2 hdd rfl (Nat.le_refl _) fun h' he' => hQ h' s.toks fun b o hb e => he' b o (fun h => hb (by simp [h])) e
  self := fun _ _ _ _ st hQ => by
    refine wpAny_pyIter_slot st.1.typeIs F.slot_dict_keyiterator_iter (wpAny_call_entry F.slot_dict_keyiterator_iter st.1.typeIs F.entry_dict_keyiterator_iter ?_ (F.args_dict_keyiterator_iter_1 _))
    show wpAny _ _ (ret (.ref I)) _ _ _
    exact wpAny_pure ⟨_, rfl, "dict_keyiterator", _, st.1.typeIs, F.slot_dict_keyiterator_next.lookup, hQ⟩
theorem kdl_raw (lo : (d == sysModules) = false) (hc : od.ExactDict) (hdd : od.data = .dict es ep) : KdlSrc prog w "dict" d d es.size (fun i v => ∃ en, es[i]? = some en ∧ en.key = v) (fun h => h.get? d = some od) where
  type := fun _ hm => ⟨od, hm, hc.1⟩
  there := fun _ hm => ⟨Heap.lt_size hm, Heap.lt_size hm⟩
  keep := fun _ _ hm hk => hk d (.inl rfl) _ hm
  notList := by decide
  notTuple := by decide
  hint := fun _ _ s _ hm hq => kdl_hint_dict (s := s) ⟨od, hm, hc.1⟩ hq
  iter := fun _ s hh hm => ⟨_, _, (fun _ _ hq => iter_keys lo hm hc hdd hq), walks_raw hh _ d (Nat.ne_of_lt (Heap.lt_size hm)) hdd, ⟨⟨_, Heap.get?_push_size _ rfl, rfl, rfl⟩, Heap.get?_push_of_some _ hm⟩⟩
end
def rSortO (K : PySem.W.Frag) : List V → Hp → VK → Prop := fun vs H Q => ∃ (d : Addr) (o : Obj) (kbs : KB), vs = [V.ref d] ∧ H d = some (.frz o (dtO d kbs)) ∧ KeysOk K H kbs ∧ (kbs.length ≤ 1 ∨ ∀ x ∈ kbs, x.1 ≠ []) ∧
  ∀ (bs : List AK) (p : Addr), bs.Perm (kbs.map fun x => (x.2.1, x.1)) → LxS bs → H p = none → Q (.ref p) (upd H p (.lst (bs.map fun b => V.ref b.1)))
theorem vals_refs : ∀ bs : List AK, Vals (bs.map fun b => V.ref b.1) (bs.map fun b => Value.ref b.1)
  | [] => .nil
  | b :: bs => .cons rfl (vals_refs bs)
theorem tup_reads {X : Cx} {pins : List (Addr × Obj)} {σ : L2.St} {H : Hp} {s : Shared} {b : Addr} {ks : List Int} (I : Inv X pins σ H s) (h : TupD X.K H b (ks.map V.int)) : ∃ as, Reads s.heap (.ref b) (tI ks) as := by
  refine Dp.reads I _ (.ref b) (.ref b) (.tup h.sq ?_) rfl
  clear h
  induction ks with
  | nil => exact .nil
  | cons k ks ih => exact .cons (.int k) ih
theorem collect_src {prog : Program} {w : World} {A : Around} {E : Value → Shared → Prop} {s : Shared} {T : String} {r d : Addr} {n : Nat} {P : Nat → Value → Prop} {OK : Heap → Prop} {R : List Value → Shared → Prop} (K : KdlSrc prog w T r d n P OK) (hh : A.handled = none) (hok : OK s.heap) (hn : n ≤ sizeLine)
    (h : ∀ (h' : Heap) (tk : Nat) (acc : Array Value), (∀ b o, s.heap.get? b = some o → h'.get? b = some o) → s.heap.objs.size ≤ h'.objs.size → ItemsOf P acc n → R acc.toList { s with heap := h', toks := tk }) :
    wpAny (model prog w) A (collect (.ref r)) R E s := by
  have hlt := K.there _ hok
  unfold collect
  refine wpAny_bind (wpAny_runValue (codeAny_builtin entry_proto_collect' ?_))
  rw [Around.under_plainId PySem.F.plain_proto_collect _]
  refine wpAny_bind (wpAny_newObj_type ?_)
  refine wpAny_pure ⟨plainId_quiet PySem.F.plain_list_iadd _, codeAny_builtin entry_list_iadd' ?_⟩
  rw [Around.under_plainId PySem.F.plain_list_iadd _]
  have hS : (s.heap.push { cls := .type "list", data := .seq ([] : List Value).toArray }).get? s.heap.objs.size = some { cls := .type "list", data := .seq #[] } := Heap.get?_push_size _ rfl
  have key := kdl_extend (A := A) (s := { s with heap := s.heap.push { cls := .type "list", data := .seq ([] : List Value).toArray } })
    (R := fun (q : Result) (s' : Shared) => ∃ (h' : Heap) (tk : Nat) (acc' : Array Value) (c' : Nat), q = .ok (.ret (.ref s.heap.objs.size)) ∧ s' = { s with heap := h', toks := tk } ∧
      (∀ b o, s.heap.get? b = some o → h'.get? b = some o) ∧ h'.get? s.heap.objs.size = some { cls := .type "list", dict := none, data := .seq acc' c', slots := #[] } ∧ ItemsOf P acc' n)
    K hh (K.keep _ _ hok fun b _ o e => Heap.get?_push_of_some _ e) s.heap.objs.size (Nat.ne_of_gt hlt.1) (Nat.ne_of_gt hlt.2) (.ref s.heap.objs.size) 0 hS
    (fun h' tk acc' c' hk hS' hacc => ⟨h', tk, acc', c', rfl, rfl, fun b o e => hk b o (Nat.ne_of_lt (Heap.lt_size e)) (Heap.get?_push_of_some _ e), hS', hacc⟩) hn
  have fin : ∀ (h' : Heap) (tk : Nat) (acc' : Array Value) (c' : Nat), (∀ b o, s.heap.get? b = some o → h'.get? b = some o) → h'.get? s.heap.objs.size = some { cls := .type "list", dict := none, data := .seq acc' c', slots := #[] } → ItemsOf P acc' n → wpAny (model prog w) A (do
      let o ← load s.heap.objs.size
      match o.data with
      | .seq xs _ => pure xs.toList
      | _ => unsupported "internal:collect") R E { s with heap := h', toks := tk } := fun h' tk acc' c' hk hS' hacc =>
    wpAny_bind (wpAny_load hS' (wpAny_pure (h h' tk acc' hk (Nat.le_of_lt (Heap.lt_size hS')) hacc)))
  refine wpAny_mono key (fun f s' x => ?_) fun e s' x => ?_
  · cases f with
    | done f =>
      obtain ⟨h', tk, acc', c', e, rfl, hk, hS', hacc⟩ := x
      cases e
      exact fin h' tk acc' c' hk hS' hacc
    | again c₁ =>
      refine ⟨x.1, codeAny_mono x.2 fun q s₂ y => ?_⟩
      obtain ⟨h', tk, acc', c', rfl, rfl, hk, hS', hacc⟩ := y
      exact fin h' tk acc' c' hk hS' hacc
  · obtain ⟨_, _, _, _, e', _⟩ := x
    cases e'
theorem cr_sortO {X : Cx} (hc : X.calm = true) (hu : X.A.units + 64 < cLine) : CallR X (.builtin "sorted") (rSortO X.K) := by
  intro pins s σ H vs us Q I r h
  obtain ⟨d, o, kbs, rfl, hd, hk, hne, q⟩ := h
  rw [Vals.ref1 r]
  obtain ⟨hs, hgd, hx, es, ep, hdt, hsz, ent⟩ := frzO I hd
  have hzk : kbs.length ≤ sizeLine := (dtO_get (P := X.prog) (w := X.w) (I.hok d _ hd).2).1
  refine sorted_bs (bs := kbs.map fun x => (x.2.1, x.1)) (by rw [List.length_map]; exact hzk) (by
    rw [List.length_map]
    refine hne.imp id fun h b hb => ?_
    obtain ⟨x, hx, rfl⟩ := List.mem_map.1 hb
    exact h x hx) (by omega) (fun R E' hR => ?_) (fun b hb => ?_) fun h' tk c p bs' k1 hp hl hpm hsr => ?_
  · refine collect_src (kdl_raw hs hx hdt) (I.ok.hd hc) hgd (by rw [hsz]; exact hzk) fun h1 tk acc k1 ksz hacc => ?_
    have e : acc.toList = (kbs.map fun x => (x.2.1, x.1)).map fun b : AK => Value.ref b.1 := by
      rw [List.map_map]
      refine List.ext_getElem? fun i => ?_
      rw [List.getElem?_map]
      cases hk : kbs[i]? with
      | none =>
        have : kbs.length ≤ i := List.getElem?_eq_none_iff.1 hk
        rw [List.getElem?_eq_none (by rw [Array.length_toList, hacc.1]; omega)]
        rfl
      | some y =>
        obtain ⟨en, hen, hkey⟩ := ent i y hk
        have hi : i < kbs.length := (List.getElem?_eq_some_iff.1 hk).1
        have hia : i < acc.size := by rw [hacc.1]; omega
        have hget : acc[i]? = some acc[i] := by simp [hia]
        obtain ⟨en', hen', hv⟩ := hacc.2 i acc[i] hget
        rw [hen] at hen'
        cases hen'
        rw [Array.getElem?_toList, hget, ← hv, hkey]
        rfl
    rw [e]
    exact hR h1 tk k1 ksz
  · obtain ⟨x, hx, rfl⟩ := List.mem_map.1 hb
    exact tup_reads I (hk x hx)
  · have hlen : (bs'.map fun b => V.ref b.1).length ≤ sizeLine := by
      rw [List.length_map, hpm.length_eq, List.length_map]; exact hzk
    exact ⟨.ref p, upd H p (.lst (bs'.map fun b => V.ref b.1)), I.laid (t' := tk) k1 hp ⟨hlen, _, c, vals_refs bs', hl⟩, rfl, q bs' p hpm hsr (I.hok.fresh hp)⟩
theorem reps_keys {K : PySem.W.Frag} {F : Hp} : ∀ {bs : List AK}, (∀ b ∈ bs, TupD K F b.1 (b.2.map V.int)) → Reps K F (bs.map fun b => kT b.2) (bs.map fun b => V.ref b.1)
  | [], _ => rfl
  | b :: bs, h => .cons ⟨b.1, _, rfl, h b List.mem_cons_self, Reps.of_ints _⟩ (reps_keys fun c hc => h c (List.mem_cons_of_mem _ hc))
def LxK (ks : List (List Int)) : Prop := ks.Pairwise fun a b => HT.lexLt b a = false
def fSortK : List D → (Sl → Prop) → Prop
  | [.dt ks _], Q => (ks.length ≤ 1 ∨ ∀ k ∈ ks, k ≠ []) ∧ ∀ (ks' : List (List Int)) (a : Addr), ks'.Perm ks → LxK ks' → Q (.lst a (ks'.map kT))
  | _, _ => False
theorem b_sortK : BR "sorted" fSortK := ⟨fun _ _ K => rSortO K, fun _ _ K F H vs ds Q R fh hr hf ha => by
    unfold fSortK at hf
    split at hf
    · rename_i ks ds'
      obtain ⟨v, rfl, r⟩ := hr.one
      obtain ⟨hne, q⟩ := hf
      rcases r with ⟨d, od, kbs, rfl, hF, hk, hT, hr⟩ | ⟨_, _, _, z, _⟩
      · refine ⟨d, od, kbs, rfl, fh _ _ hF, fun x hx => TupD.same fh (hT x hx), ?_, fun bs p hpm hsr hp => ?_⟩
        · rw [← hk, List.length_map] at hne
          exact hne.imp id fun h x hx => h x.1 (List.mem_map.2 ⟨x, hx, rfl⟩)
        · have hb : ∀ b ∈ bs, TupD K F b.1 (b.2.map V.int) := fun b hb => by
            obtain ⟨x, hx, rfl⟩ := List.mem_map.1 (hpm.mem_iff.1 hb)
            exact hT x hx
          have := ha.lst fh hp (reps_keys hb) (by
            have := q (bs.map fun b => b.2) p (by
              have := hpm.map fun b : AK => b.2
              rw [List.map_map] at this
              rw [← hk]
              exact this) (by
              unfold LxK
              rw [List.pairwise_map]
              exact hsr)
            rw [List.map_map] at this
            exact this)
          exact this
      · cases z
    · exact hf.elim, fun X hc hu => cr_sortO hc hu⟩
theorem seq_putDT (i : Nat) (tk tv : DT) (u : DTS) (Ex : DX) (E : DEnds) (env : Env') : sSeq (sPutDT i tk tv) u Ex E env = sPutDT i tk tv Ex { E with nx := fun env1 => u Ex E env1 } env := rfl
theorem seq_sealDT (i : Nat) (t u : DTS) (Ex : DX) (E : DEnds) (env : Env') : sSeq (sSealDT i t) u Ex E env = sSealDT i t Ex { E with nx := fun env1 => u Ex E env1 } env := rfl
end HD
namespace LS
namespace K30
open PM
def wof (ns : List Nat) (x : Nat) (f : List Nat) : List Nat := ((ns.zip f).filter fun p => decide (p.1 ≠ x)).map (·.2)
def insA : List Nat → Nat → Nat → List Nat → List Nat
  | [], _, _, _ => []
  | n :: ns, x, v, k => if n = x then v :: k else match k with
    | [] => []
    | a :: k => a :: insA ns x v k
theorem wof_no {ns : List Nat} {x : Nat} (h : x ∉ ns) : ∀ {f : List Nat}, f.length = ns.length → wof ns x f = f := by
  induction ns with
  | nil =>
    intro f hf
    rw [List.length_eq_zero_iff.1 hf]
    rfl
  | cons n ns ih =>
    intro f hf
    cases f with
    | nil => cases hf
    | cons a f =>
      have hn : n ≠ x := fun e => h (by rw [e]; exact List.mem_cons_self)
      show (((n, a) :: ns.zip f).filter fun p => decide (p.1 ≠ x)).map (·.2) = a :: f
      rw [List.filter_cons, if_pos (decide_eq_true hn), List.map_cons]
      congr 1
      exact ih (fun z => h (List.mem_cons_of_mem _ z)) (by simpa using hf)
theorem filt_one {α : Type} [DecidableEq α] {l : List α} {k : α} (nd : l.Nodup) (h : k ∈ l) : l.filter (fun f => decide (f = k)) = [k] := by
  induction l with
  | nil => cases h
  | cons a l ih =>
    obtain ⟨n1, n2⟩ := List.nodup_cons.1 nd
    by_cases e : a = k
    · subst e
      have e0 : l.filter (fun f => decide (f = a)) = [] := List.filter_eq_nil_iff.2 fun b hb z => by
        have z := of_decide_eq_true z
        rw [z] at hb
        exact n1 hb
      rw [List.filter_cons, if_pos (decide_eq_true rfl), e0]
    · rw [List.filter_cons, if_neg fun z => e (of_decide_eq_true z)]
      exact ih n2 ((List.mem_cons.1 h).resolve_left fun z => e z.symm)
theorem flat_one {β : Type} (X : List β) {a : Nat} : ∀ {l : List Nat}, l.Nodup → a ∈ l → l.flatMap (fun v => if v = a then X else []) = X
  | [], _, h => by cases h
  | b :: l, nd, h => by
    obtain ⟨n1, n2⟩ := List.nodup_cons.1 nd
    rw [List.flatMap_cons]
    by_cases e : b = a
    · subst e
      rw [if_pos rfl]
      have : l.flatMap (fun v => if v = b then X else []) = [] := List.flatMap_eq_nil_iff.2 fun v hv => if_neg fun z => n1 (by rw [← z]; exact hv)
      rw [this, List.append_nil]
    · rw [if_neg e, List.nil_append]
      exact flat_one X n2 ((List.mem_cons.1 h).resolve_left fun z => e z.symm)
theorem fills_wof {S : List Nat} {x : Nat} : ∀ {ns : List Nat}, x ∈ ns → ns.Nodup → ∀ {k : List Nat}, k ∈ fills S (wo ns x) → (fills S ns).filter (fun f => decide (wof ns x f = k)) = (List.range (sz S x)).map fun v => insA ns x v k := by
  intro ns
  induction ns with
  | nil => intro h; cases h
  | cons n ns ih =>
    intro hx nd k hk
    obtain ⟨n1, n2⟩ := List.nodup_cons.1 nd
    show ((List.range (sz S n)).flatMap fun w => (fills S ns).map (w :: ·)).filter _ = _
    rw [List.filter_flatMap]
    by_cases e : n = x
    · subst e
      have hw : wo (n :: ns) n = ns := by
        unfold wo
        rw [List.filter_cons, if_neg (by simp)]
        exact List.filter_eq_self.2 fun m hm => decide_eq_true fun z => n1 (z ▸ hm)
      rw [hw] at hk
      have hb : ∀ v, ((fills S ns).map (v :: ·)).filter (fun f => decide (wof (n :: ns) n f = k)) = [v :: k] := fun v => by
        rw [List.filter_map]
        have : (fills S ns).filter ((fun f => decide (wof (n :: ns) n f = k)) ∘ (v :: ·)) = (fills S ns).filter fun f => decide (f = k) := List.filter_congr fun f hf => by
          show decide (wof (n :: ns) n (v :: f) = k) = decide (f = k)
          have ew : wof (n :: ns) n (v :: f) = f := by
            show (((n, v) :: ns.zip f).filter fun p => decide (p.1 ≠ n)).map (·.2) = f
            rw [List.filter_cons, if_neg (by simp)]
            exact wof_no n1 (mem_fills.1 hf).len
          rw [ew]
        rw [this, filt_one (fills_nd S ns) hk]
        rfl
      simp only [hb]
      rw [show (List.range (sz S n)).flatMap (fun a => [a :: k]) = (List.range (sz S n)).map (fun a => a :: k) from (List.map_eq_flatMap ..).symm]
      refine List.map_congr_left fun v _ => ?_
      show v :: k = if n = n then v :: k else _
      rw [if_pos rfl]
    · have hxs : x ∈ ns := (List.mem_cons.1 hx).resolve_left fun z => e z.symm
      have hw : wo (n :: ns) x = n :: wo ns x := by
        unfold wo
        rw [List.filter_cons, if_pos (decide_eq_true e)]
      rw [hw] at hk
      obtain ⟨a, ha, hk⟩ := List.mem_flatMap.1 hk
      obtain ⟨k', hk', rfl⟩ := List.mem_map.1 hk
      have hb : ∀ v, ((fills S ns).map (v :: ·)).filter (fun f => decide (wof (n :: ns) x f = a :: k')) = if v = a then ((List.range (sz S x)).map fun u => a :: insA ns x u k') else [] := fun v => by
        rw [List.filter_map]
        have ew : ∀ f, wof (n :: ns) x (v :: f) = v :: wof ns x f := fun f => by
          show (((n, v) :: ns.zip f).filter fun p => decide (p.1 ≠ x)).map (·.2) = _
          rw [List.filter_cons, if_pos (decide_eq_true e)]
          rfl
        by_cases c : v = a
        · subst c
          rw [if_pos rfl]
          have : (fills S ns).filter ((fun f => decide (wof (n :: ns) x f = v :: k')) ∘ (v :: ·)) = (fills S ns).filter fun f => decide (wof ns x f = k') := List.filter_congr fun f hf => by
            show decide (wof (n :: ns) x (v :: f) = v :: k') = decide (wof ns x f = k')
            rw [ew]
            simp
          rw [this, ih hxs n2 hk', List.map_map]
          rfl
        · rw [if_neg c]
          have : (fills S ns).filter ((fun f => decide (wof (n :: ns) x f = a :: k')) ∘ (v :: ·)) = [] := List.filter_eq_nil_iff.2 fun f hf z => by
            have z := of_decide_eq_true z
            rw [ew] at z
            exact c (List.cons.inj z).1
          rw [this]
          rfl
      simp only [hb]
      rw [flat_one _ List.nodup_range ha]
      refine List.map_congr_left fun u _ => ?_
      show a :: insA ns x u k' = if n = x then _ else _
      rw [if_neg e]
def foundsOf (ns : List Nat) (x : Nat) (F : List Nat → Int) (l : List (List Nat)) (k : List Nat) : List Int := (l.filter fun f => decide (wof ns x f = k)).map F
theorem founds_snoc (ns : List Nat) (x : Nat) (F : List Nat → Int) (l : List (List Nat)) (f k : List Nat) : foundsOf ns x F (l ++ [f]) k = foundsOf ns x F l k ++ if wof ns x f = k then [F f] else [] := by
  unfold foundsOf
  rw [List.filter_append, List.map_append]
  congr 1
  by_cases h : wof ns x f = k
  · rw [if_pos h, List.filter_cons, if_pos (decide_eq_true h)]
    rfl
  · rw [if_neg h, List.filter_cons, if_neg fun z => h (of_decide_eq_true z)]
    rfl
theorem founds_all {S ns : List Nat} {x : Nat} (F : List Nat → Int) (hx : x ∈ ns) (nd : ns.Nodup) {k : List Nat} (hk : k ∈ fills S (wo ns x)) : foundsOf ns x F (fills S ns) k = (List.range (sz S x)).map fun v => F (insA ns x v k) := by
  unfold foundsOf
  rw [fills_wof hx nd hk, List.map_map]
  rfl
theorem ats_cons (n a : Nat) (ns f : List Nat) (m : Nat) : ats (n :: ns) (a :: f) m = if m = n then a else ats ns f m := by
  unfold ats
  rw [List.idxOf_cons]
  by_cases h : m = n
  · subst h
    rw [if_pos rfl, beq_self_eq_true]
    rfl
  · rw [if_neg h, show (n == m) = false from beq_eq_false_iff_ne.2 fun z => h z.symm]
    rfl
theorem ats_ins {x v : Nat} : ∀ {ns : List Nat}, x ∈ ns → ns.Nodup → ∀ {k : List Nat}, k.length = (wo ns x).length → ∀ m ∈ ns, ats ns (insA ns x v k) m = put (ats (wo ns x) k) x v m := by
  intro ns
  induction ns with
  | nil => intro h; cases h
  | cons n ns ih =>
    intro hx nd k hl m hm
    obtain ⟨n1, n2⟩ := List.nodup_cons.1 nd
    by_cases e : n = x
    · subst e
      have hw : wo (n :: ns) n = ns := by
        unfold wo
        rw [List.filter_cons, if_neg (by simp)]
        exact List.filter_eq_self.2 fun m hm => decide_eq_true fun z => n1 (z ▸ hm)
      rw [hw]
      have ei : insA (n :: ns) n v k = v :: k := by
        show (if n = n then v :: k else _) = _
        rw [if_pos rfl]
      rw [ei, ats_cons]
      rfl
    · have hxs : x ∈ ns := (List.mem_cons.1 hx).resolve_left fun z => e z.symm
      have hw : wo (n :: ns) x = n :: wo ns x := by
        unfold wo
        rw [List.filter_cons, if_pos (decide_eq_true e)]
      rw [hw] at hl ⊢
      cases k with
      | nil => cases hl
      | cons a k =>
        have ei : insA (n :: ns) x v (a :: k) = a :: insA ns x v k := by
          show (if n = x then _ else _) = _
          rw [if_neg e]
        rw [ei, ats_cons]
        by_cases hmn : m = n
        · rw [if_pos hmn]
          show a = if m = x then v else ats (n :: wo ns x) (a :: k) m
          rw [if_neg (by rw [hmn]; exact e), ats_cons, if_pos hmn]
        · rw [if_neg hmn, ih hxs n2 (by simpa using hl) m ((List.mem_cons.1 hm).resolve_left hmn)]
          show (if m = x then v else ats (wo ns x) k m) = if m = x then v else ats (n :: wo ns x) (a :: k) m
          rw [ats_cons, if_neg hmn]
theorem gath_founds {w : Wd} {S : List Nat} {p : Part} {x : Nat} {F : List Nat → Int} (hp : p.Ok S) (hx : x ∈ p.ns) (hF : ∀ f ∈ fills S p.ns, F f = val S p (ats p.ns f)) : gathP S w p x = ⟨wo p.ns x, (fills S (wo p.ns x)).map fun k => gt w (foundsOf p.ns x F (fills S p.ns) k)⟩ := by
  have nd : p.ns.Nodup := hp.rise.imp Nat.ne_of_lt
  unfold gathP mkP
  congr 1
  refine List.map_congr_left fun k hk => ?_
  rw [founds_all F hx nd hk]
  show gt w ((List.range (sz S x)).map fun v => val S p (put (ats (wo p.ns x) k) x v)) = _
  congr 1
  refine List.map_congr_left fun v hv => ?_
  have hm : insA p.ns x v k ∈ fills S p.ns := by
    have h1 : insA p.ns x v k ∈ (List.range (sz S x)).map fun v => insA p.ns x v k := List.mem_map.2 ⟨v, hv, rfl⟩
    rw [← fills_wof hx nd hk] at h1
    exact (List.mem_filter.1 h1).1
  rw [hF _ hm]
  refine (val_congr fun m hm => ?_).symm
  exact ats_ins hx nd (mem_fills.1 hk).len m hm
def nzL (L : List Part) : Nat := (L.filter fun p => !p.ns.isEmpty).length
theorem nz_app (a b : List Part) : nzL (a ++ b) = nzL a + nzL b := by
  unfold nzL
  rw [List.filter_append, List.length_append]
theorem nz_split (P : Part → Bool) (L : List Part) : nzL (L.filter P) + nzL (L.filter fun p => !P p) = nzL L := by
  induction L with
  | nil => rfl
  | cons p L ih =>
    have e : nzL (p :: L) = nzL [p] + nzL L := nz_app [p] L
    cases h : P p with
    | true =>
      rw [List.filter_cons, if_pos h, List.filter_cons, if_neg (by rw [h]; decide), e, ← ih]
      have := nz_app [p] (L.filter P)
      rw [List.singleton_append] at this
      omega
    | false =>
      rw [List.filter_cons, if_neg (by rw [h]; decide), List.filter_cons, if_pos (by rw [h]; rfl), e, ← ih]
      have := nz_app [p] (L.filter fun p => !P p)
      rw [List.singleton_append] at this
      omega
theorem nz_take {w : Wd} {S : List Nat} {L : List Part} {x : Nat} (hok : ∀ p ∈ L, p.Ok S) (hx : x < S.length) : nzL (takeL w S L x) ≤ nzL L := by
  have hU := takeW_uni (w := w) hok hx
  unfold takeL
  rw [nz_app, ← nz_split (hasP x) L]
  by_cases h : L.filter (hasP x) = []
  · have e : (gathP S w (takeW w S L x) x).ns = [] := by
      show wo (takeW w S L x).ns x = []
      refine List.filter_eq_nil_iff.2 fun m hm z => of_decide_eq_true z ?_
      rcases (hU.2 m).1 hm with h1 | h1
      · rw [h] at h1
        cases h1
      · exact List.mem_singleton.1 h1
    have : nzL [gathP S w (takeW w S L x) x] = 0 := by
      unfold nzL
      rw [List.filter_cons, if_neg (by rw [e]; decide)]
      rfl
    omega
  · obtain ⟨p, hp⟩ := List.exists_mem_of_ne_nil _ h
    have h1 : 0 < nzL (L.filter (hasP x)) := by
      refine List.length_pos_of_mem (List.mem_filter.2 ⟨hp, ?_⟩)
      have hxp : x ∈ p.ns := of_decide_eq_true (List.mem_filter.1 hp).2
      cases hn : p.ns with
      | nil => rw [hn] at hxp; cases hxp
      | cons a b => rfl
    have h2 : nzL [gathP S w (takeW w S L x) x] ≤ 1 := List.length_filter_le _ _
    omega
theorem flat_le {c : Nat} {L : List Part} (h : ∀ p ∈ L, p.ns.length ≤ c) : (L.flatMap fun p => p.ns).length ≤ nzL L * c := by
  induction L with
  | nil => exact Nat.zero_le _
  | cons p L ih =>
    have ih := ih fun q hq => h q (List.mem_cons_of_mem _ hq)
    have hp := h p List.mem_cons_self
    rw [List.flatMap_cons, List.length_append]
    have e : nzL (p :: L) = nzL [p] + nzL L := nz_app [p] L
    rw [e, Nat.add_mul]
    refine Nat.add_le_add ?_ ih
    cases hn : p.ns with
    | nil => exact Nat.zero_le _
    | cons a b =>
      have : nzL [p] = 1 := by
        unfold nzL
        rw [List.filter_cons, if_pos (by rw [hn]; rfl)]
        rfl
      rw [this, Nat.one_mul, ← hn]
      exact hp
end K30
end LS
namespace LS
open PySem L2 HD PM
def at' (ns f : List Nat) : List Nat := ns.map fun n => f.getD n 0
end LS
namespace LS
open PySem L2 HD PM
namespace K20
open K02 (sp_law_sheet)
theorem lex_tri : ∀ {a b : List Int}, HT.lexLt a b = false → HT.lexLt b a = false → a = b
  | [], [], _, _ => rfl
  | [], _ :: _, h, _ => by cases h
  | _ :: _, [], _, h => by cases h
  | x :: a, y :: b, h1, h2 => by
    rw [HT.lexLt_cons] at h1 h2
    by_cases e : x = y
    · rw [if_pos e] at h1
      rw [if_pos e.symm] at h2
      rw [e, lex_tri h1 h2]
    · rw [if_neg e] at h1
      rw [if_neg (fun z => e z.symm)] at h2
      have := of_decide_eq_false h1
      have := of_decide_eq_false h2
      omega
theorem cI_inj {a b : List Nat} (h : cI a = cI b) : a = b := (List.map_inj_right (fun x y hxy => by omega)).1 h
theorem sorted_fills {S ns : List Nat} {ks : List (List Int)} (hp : ks.Perm ((fills S ns).map cI)) (hs : LxK ks) : ks = (fills S ns).map cI :=
  List.Perm.eq_of_pairwise (fun a b _ _ h1 h2 => lex_tri h2 h1) hs (List.pairwise_map.2 ((fills_lex S ns).imp fun {f g} h => lexN_asym h)) hp
end K20
end LS
namespace HD
open PySem PyProof.Rows L2
section
variable {G : GG} {N : List Str} {sc : SC} {k : Nat} {a : Expr} {ta : DT} {p p2 pos pos2 : Pos}
def dSortSetB (t : DT) : DT := fun Ex env Q => t Ex env fun x env1 => wd env1 x fun d => match d with
  | .lst ds => ∃ ns : List Int, ds = ns.map D.int ∧ ns.length < 3000 ∧ (∀ n ∈ ns, 0 ≤ n ∧ n < 60) ∧ ∀ (ns' : List Int) (b : Addr), ns'.Pairwise (· < ·) → (∀ n : Int, n ∈ ns' ↔ n ∈ ns) → Q (.lst b (ns'.map D.int)) env1
  | _ => False
end
end HD
namespace HD
open PySem L2
abbrev Cells := List (Addr × OC)
def putC (cs : Cells) (b : Addr) (oc : OC) : Cells := cs.map fun p => if p.1 = b then (b, oc) else p
theorem putC_keys (cs : Cells) (b : Addr) (oc : OC) : (putC cs b oc).map (·.1) = cs.map (·.1) := by
  unfold putC
  rw [List.map_map]
  refine List.map_congr_left fun p _ => ?_
  show (if p.1 = b then (b, oc) else p).1 = p.1
  split
  · rename_i h
    exact h.symm
  · rfl
section
variable {K : PySem.W.Frag} {e : Ent} {env env' : Env'} {T T' : Tmp} {F : Hp} {σ : L2.St} {H : Hp}
theorem cells_write {v : V} {d : D} {cs : Cells} {b : Addr} {oc : OC} {o : HO} (h : SlOk K F H v (.reg d cs)) (ok : OC.ok K F b oc o) : SlOk K F (upd H b o) v (.reg d (putC cs b oc)) := by
  obtain ⟨h1, h2, h3⟩ := h
  refine ⟨h1, by rw [putC_keys]; exact h2, fun p hp => ?_⟩
  obtain ⟨q, hq, rfl⟩ := List.mem_map.1 hp
  obtain ⟨n, o', ho, okc⟩ := h3 q hq
  show F (if q.1 = b then (b, oc) else q).1 = none ∧ ∃ o1, upd H b o (if q.1 = b then (b, oc) else q).1 = some o1 ∧ OC.ok K F (if q.1 = b then (b, oc) else q).1 (if q.1 = b then (b, oc) else q).2 o1
  split
  · rename_i z
    exact ⟨by rw [← z]; exact n, o, upd_same, ok⟩
  · rename_i z
    exact ⟨n, o', by rw [upd_ne z]; exact ho, okc⟩
theorem Holds.cellW {i : Nat} {d : D} {cs : Cells} {b : Addr} {oc : OC} {o : HO} (h : Holds K e env T F σ H) (hi : env[i]? = some (.reg d cs)) (hb : b ∈ cs.map (·.1)) (ok : OC.ok K F b oc o) : Holds K e (env.set i (.reg d (putC cs b oc))) T F σ (upd H b o) :=
  h.writeR hi hb (putC_keys cs b oc) (fun v z => cells_write z ok) (fun z => nomatch z)
theorem cellOf_key {cs : Cells} {b : Addr} {oc : OC} (h : cellOf cs b = some oc) : b ∈ cs.map (·.1) := List.mem_map.2 ⟨(b, oc), cellOf_mem h, rfl⟩
theorem Holds.regroup (h : Holds K e env T F σ H) (len : env'.length = σ.length) (slots : ∀ (i : Nat) sl, env'[i]? = some sl → sl = .un ∨ ∃ v, σ[i]? = some (some v) ∧ SlOk K F H v sl) (temps : ∀ p ∈ T', SlOk K F H p.1 p.2)
    (nd : (ownedE env' ++ ownedT T').Nodup) (sub : ∀ a ∈ ownedE env' ++ ownedT T', a ∈ ownedE env ++ ownedT T) : Holds K e env' T' F σ H :=
  ⟨h.fh, len, slots, temps, nd, h.s1, h.s2, fun a ha => h.s3 a (sub a ha)⟩
theorem Holds.retemp {v : V} {sl sl' : Sl} (h : Holds K e env ((v, sl) :: T) F σ H) (ok : SlOk K F H v sl') (nd : sl'.owned.Nodup) (sub : ∀ a ∈ sl'.owned, a ∈ sl.owned) : Holds K e env ((v, sl') :: T) F σ H := by
  have h1 : (ownedE env ++ (sl.owned ++ ownedT T)).Nodup := h.nd
  obtain ⟨n1, n2, n3⟩ := List.nodup_append.mp h1
  obtain ⟨n4, n5, n6⟩ := List.nodup_append.mp n2
  refine h.regroup h.len h.slots (fun p hp => ?_) ?_ (fun a ha => ?_)
  · rcases List.mem_cons.mp hp with rfl | hp
    · exact ok
    · exact h.temps p (List.mem_cons_of_mem _ hp)
  · show (ownedE env ++ (sl'.owned ++ ownedT T)).Nodup
    refine List.nodup_append.mpr ⟨n1, List.nodup_append.mpr ⟨nd, n5, fun a ha b hb => n6 a (sub a ha) b hb⟩, fun a ha b hb => ?_⟩
    rcases List.mem_append.mp hb with hb | hb
    · exact n3 a ha b (List.mem_append_left _ (sub b hb))
    · exact n3 a ha b (List.mem_append_right _ hb)
  · have ha' : a ∈ ownedE env ++ (sl'.owned ++ ownedT T) := ha
    show a ∈ ownedE env ++ (sl.owned ++ ownedT T)
    rcases List.mem_append.mp ha' with hb | hb
    · exact List.mem_append_left _ hb
    · rcases List.mem_append.mp hb with hb | hb
      · exact List.mem_append_right _ (List.mem_append_left _ (sub a hb))
      · exact List.mem_append_right _ (List.mem_append_right _ hb)
def stoS (fz : Bool) (env : Env') (x : Sl) (k : D → Cells → Env' → Prop) : Prop := match x with
  | .ext d => k d [] env
  | .lst p ds => if fz = true then k (.lst ds) [] env else k (.val (.ref p)) [(p, .lst ds)] env
  | .reg d cs => k d cs env
  | .al i a => match env[i]? with
    | some (.lst b ds) => b = a ∧ k (.lst ds) [] (env.set i (.ext (.lst ds)))
    | _ => False
  | .ar _ _ => False
  | .un => False
end
end HD
namespace HD
open PySem L2
def cellS (env : Env') (x : Sl) (k : Nat → Addr → D → Cells → OC → Prop) : Prop := match x with
  | .ar i b => match env[i]? with
    | some (.reg d cs) => match cellOf cs b with
      | some oc => k i b d cs oc
      | none => False
    | _ => False
  | _ => False
def ptrD (i : Nat) : D → Sl
  | .val (.ref q) => .ar i q
  | d => .ext d
def lstO (oc : OC) (k : List D → Prop) : Prop := match oc with
  | .lst ds => k ds
  | _ => False
def insO (oc : OC) (k : Str → Addr → List (Str × D) → Prop) : Prop := match oc with
  | .ins c dx fs => k c dx fs
  | _ => False
section
variable {K : PySem.W.Frag} {e : Ent} {env : Env'} {T : Tmp} {F : Hp} {σ : L2.St} {H : Hp}
theorem Holds.cellS {v : V} {x : Sl} {k : Nat → Addr → D → Cells → OC → Prop} (h : Holds K e env T F σ H) (m : (v, x) ∈ T) (w : HD.cellS env x k) :
    ∃ i b d cs oc, x = .ar i b ∧ v = .ref b ∧ env[i]? = some (.reg d cs) ∧ cellOf cs b = some oc ∧ (F b = none ∧ ∃ o, H b = some o ∧ OC.ok K F b oc o) ∧ k i b d cs oc := by
  cases x with
  | ar i b =>
    have ev : v = .ref b := h.temps _ m
    have w' : (match env[i]? with | some (.reg d cs) => (match cellOf cs b with | some oc => k i b d cs oc | none => False) | _ => False) := w
    split at w'
    · rename_i d cs hi
      split at w'
      · rename_i oc hc
        exact ⟨i, b, d, cs, oc, rfl, ev, hi, hc, h.cell hi hc, w'⟩
      · exact w'.elim
    · exact w'.elim
  | _ => exact w.elim
def putFD (f : Str) (d : D) : List (Str × D) → List (Str × D)
  | [] => [(f, d)]
  | (g, x) :: r => if g = f then (g, d) :: r else (g, x) :: putFD f d r
end
section
variable {G : GG} {N : List Str} {sc : SC} {k : Nat} {a b : Expr} {ta tb tc : DT} {apos cpos p p2 pos pos2 py spos : Pos} {x : Str}
def dVarR (i : Nat) : DT := fun _ env Q => match env[i]? with
  | some (.reg d _) => ∃ q, rootOf d = some q ∧ Q (.ar i q) env
  | some (.ar j q) => Q (.ar j q) env
  | _ => False
def dPtr (i j : Nat) : DT := fun _ env Q => match env[i]? with
  | some (.ext (.val (.ref q))) => Q (.ar j q) env
  | _ => False
def dAttr (c0 f : Str) (t : DT) : DT := fun Ex env Q => t Ex env fun x env1 => cellS env1 x fun i _ _ _ oc => insO oc fun c _ fs => c = c0 ∧ ∃ d, luK fs f = some d ∧ Q (ptrD i d) env1
def sAttr (c0 f : Str) (fz : Bool) (t te : DT) : DTS := fun Ex E env => te Ex env fun y env1 => stoS fz env1 y fun d2 cs2 env2 => t Ex env2 fun x env3 => cellS env3 x fun i b r cs oc => insO oc fun c dx fs =>
  c = c0 ∧ fs.length < 1000 ∧ ((∀ a ∈ cs.map (·.1), a ∉ cs2.map (·.1)) → E.nx (env3.set i (.reg r (putC cs b (.ins c dx (putFD f d2 fs)) ++ cs2))))
def lstK (_ : Nat) (_ : Addr) (_ : D) (_ : Cells) (oc : OC) : Prop := lstO oc fun _ => True
def dAppR (fz : Bool) (t te : DT) : DT := fun Ex env Q => t Ex env fun x env1 => cellS env1 x lstK ∧ te Ex env1 fun y env2 => stoS fz env2 y fun d2 cs2 env3 => cellS env3 x fun i b r cs oc => lstO oc fun ds =>
  ds.length < sizeLine ∧ ((∀ a ∈ cs.map (·.1), a ∉ cs2.map (·.1)) → Q (.ext .non) (env3.set i (.reg r (putC cs b (.lst (ds ++ [d2])) ++ cs2))))
def dExtR (t te : DT) : DT := fun Ex env Q => t Ex env fun x env1 => cellS env1 x lstK ∧ te Ex env1 fun y env2 => wd env2 y fun d2 => match d2 with
  | .lst es => cellS env2 x fun i b r cs oc => lstO oc fun ds => ds.length + es.length ≤ sizeLine ∧ Q (.ext .non) (env2.set i (.reg r (putC cs b (.lst (ds ++ es)))))
  | _ => False
def dClrR (t : DT) : DT := fun Ex env Q => t Ex env fun x env1 => cellS env1 x fun i b r cs oc => lstO oc fun _ => Q (.ext .non) (env1.set i (.reg r (putC cs b (.lst []))))
theorem de_clrR (ha : DE G N sc k a ta) (hbase : ∀ env, attributeBase a "clear" env (eval a env) = eval a env := by intro _; rfl) (hline : (apos.endLine == cpos.line) = true := by rfl) :
    DE G N sc k (.Call (.Attribute a "clear" apos) [] [] cpos) (dClrR ta) := ⟨fun W => by
  obtain ⟨te, p1, i1⟩ := ha.ex W
  refine ⟨tBM0 G.K "list" rClear te, fun X S => ?_, fun e Ex hl env T F σ H Q R hh ht hR => ?_⟩
  · rw [← S.K]
    exact pe_bm0 PySem.F.plainAttrs_list PySem.F.slot_list_clear PySem.F.type_list_clear mt_clear (p1 X S) (hbase _) hline
  · refine i1 e Ex hl env T F σ H _ _ hh ht fun w H1 F1 env1 x hh1 q1 => ?_
    obtain ⟨i, b, d, cs, oc, rfl, rfl, hi, hcell, ⟨_, o, ho, okc⟩, q⟩ := hh1.cellS List.mem_cons_self q1
    cases oc with
    | lst ds =>
      obtain ⟨us, rfl, rr⟩ := okc
      have hh4 := hh1.cellW (oc := .lst []) (o := .lst []) hi (cellOf_key hcell) ⟨_, rfl, Reps.nil⟩
      exact ⟨.inl ⟨rfl, us, SqL.of ho⟩, b, us, rfl, rfl, ho, hR .non _ F1 _ (.ext .non) (hh4.pop.pushE rfl) q⟩
    | _ => exact q.elim⟩
def dPopR (t : DT) : DT := fun Ex env Q => t Ex env fun x env1 => cellS env1 x fun i b r cs oc => lstO oc fun ds => ∃ d, ds[ds.length - 1]? = some d ∧ Q (ptrD i d) (env1.set i (.reg r (putC cs b (.lst ds.dropLast))))
def dIxR (t te : DT) : DT := fun Ex env Q => t Ex env fun x env1 => te Ex env1 fun y env2 => match y with
  | .ext (.int n) => cellS env2 x fun i _ _ _ oc => lstO oc fun ds => ∃ d, atI ds n = some d ∧ Q (ptrD i d) env2
  | _ => False
end
end HD
namespace HD
open PySem L2
def dkO (oc : OC) (k : List (Key × D) → Prop) : Prop := match oc with
  | .dk kvs => k kvs
  | .lkK _ _ kvs => k kvs
  | _ => False
def dtO' (oc : OC) (k : List (List Int × D) → Prop) : Prop := match oc with
  | .dt kvs => k kvs
  | .lkT _ _ kvs => k kvs
  | _ => False
def dkW (oc : OC) (k : List (Key × D) → Prop) : Prop := match oc with
  | .dk kvs => k kvs
  | _ => False
def dtW (oc : OC) (k : List (List Int × D) → Prop) : Prop := match oc with
  | .dt kvs => k kvs
  | _ => False
section
variable {G : GG} {N : List Str} {sc : SC} {k : Nat} {a b c : Expr} {ta tb tc : DT} {apos cpos p p2 pos pos2 py spos : Pos} {x : Str}
def sSetR (fz : Bool) (t tI te : DT) : DTS := fun Ex E env => te Ex env fun y env0 => stoS fz env0 y fun d2 cs2 env1 => t Ex env1 fun x env2 => tI Ex env2 fun z env3 => match z with
  | .ext (.int n) => cellS env3 x fun i b r cs oc => lstO oc fun ds => ∃ j, ixN ds.length n = some j ∧ ((∀ a ∈ cs.map (·.1), a ∉ cs2.map (·.1)) → E.nx (env3.set i (.reg r (putC cs b (.lst (ds.set j d2)) ++ cs2))))
  | _ => False
def dDGetR (t te : DT) : DT := fun Ex env Q => t Ex env fun x env1 => te Ex env1 fun y env2 => cellS env2 x fun i _ _ _ oc => dkO oc fun kvs => ∃ key d, y = .ext (kD key) ∧ luK kvs key = some d ∧ Q (ptrD i d) env2
def dDInR (neg : Bool) (te t : DT) : DT := fun Ex env Q => te Ex env fun y env1 => t Ex env1 fun x env2 => cellS env2 x fun _ _ _ _ oc => dkO oc fun kvs => ∃ key, y = .ext (kD key) ∧ Q (.ext (.bl (neg != (luK kvs key).isSome))) env2
def sPutR (fz : Bool) (t tk tv : DT) : DTS := fun Ex E env => tv Ex env fun y env0 => stoS fz env0 y fun d2 cs2 env1 => t Ex env1 fun x env2 => tk Ex env2 fun z env3 => cellS env3 x fun i b r cs oc => dkW oc fun kvs => ∃ key, z = .ext (kD key) ∧ kvs.length < sizeLine ∧
  ((∀ a ∈ cs.map (·.1), a ∉ cs2.map (·.1)) → E.nx (env3.set i (.reg r (putC cs b (.dk (ptK kvs key d2)) ++ cs2))))
def dkK (_ : Nat) (_ : Addr) (_ : D) (_ : Cells) (oc : OC) : Prop := dkO oc fun _ => True
def dGet2R (t te tf : DT) : DT := fun Ex env Q => t Ex env fun x env1 => cellS env1 x dkK ∧ te Ex env1 fun y env2 => tf Ex env2 fun z env3 => frzD env3 z fun d3 env4 => cellS env4 x fun i _ _ _ oc => dkO oc fun kvs => ∃ key, y = .ext (kD key) ∧ Q (ptrD i ((luK kvs key).getD d3)) env4
def dPop1R (t te : DT) : DT := fun Ex env Q => t Ex env fun x env1 => cellS env1 x dkK ∧ te Ex env1 fun y env2 => cellS env2 x fun i b r cs oc => dkW oc fun kvs => ∃ key d, y = .ext (kD key) ∧ luK kvs key = some d ∧ Q (ptrD i d) (env2.set i (.reg r (putC cs b (.dk (drK kvs key)))))
def dPop2R (t te tf : DT) : DT := fun Ex env Q => t Ex env fun x env1 => cellS env1 x dkK ∧ te Ex env1 fun y env2 => tf Ex env2 fun z env3 => frzD env3 z fun d3 env4 => cellS env4 x fun i b r cs oc => dkW oc fun kvs => ∃ key, y = .ext (kD key) ∧
  Q (ptrD i ((luK kvs key).getD d3)) (env4.set i (.reg r (putC cs b (.dk (drK kvs key)))))
end
end HD
namespace HD
open PySem PySem.Spec PyProof.Rows L2
section
variable {G : GG} {N : List Str} {sc : SC} {k : Nat} {a b c : Expr} {ta tb tc : DT} {apos cpos p p2 pos pos2 py spos : Pos} {x : Str}
def dDGetTR (t te : DT) : DT := fun Ex env Q => t Ex env fun x env1 => te Ex env1 fun y env2 => cellS env2 x fun i _ _ _ oc => dtO' oc fun kvs => ∃ key d, y = .ext (kT key) ∧ luK kvs key = some d ∧ Q (ptrD i d) env2
def dDInTR (neg : Bool) (te t : DT) : DT := fun Ex env Q => te Ex env fun y env1 => t Ex env1 fun x env2 => cellS env2 x fun _ _ _ _ oc => dtO' oc fun kvs => ∃ key, y = .ext (kT key) ∧ Q (.ext (.bl (neg != (luK kvs key).isSome))) env2
def sPutTR (fz : Bool) (t tk tv : DT) : DTS := fun Ex E env => tv Ex env fun y env0 => stoS fz env0 y fun d2 cs2 env1 => t Ex env1 fun x env2 => tk Ex env2 fun z env3 => cellS env3 x fun i b r cs oc => dtW oc fun kvs => ∃ key, z = .ext (kT key) ∧ kvs.length < sizeLine ∧
  ((∀ a ∈ cs.map (·.1), a ∉ cs2.map (·.1)) → E.nx (env3.set i (.reg r (putC cs b (.dt (ptK kvs key d2)) ++ cs2))))
def dtK (_ : Nat) (_ : Addr) (_ : D) (_ : Cells) (oc : OC) : Prop := dtO' oc fun _ => True
def dPop1TR (t te : DT) : DT := fun Ex env Q => t Ex env fun x env1 => cellS env1 x dtK ∧ te Ex env1 fun y env2 => cellS env2 x fun i b r cs oc => dtW oc fun kvs => ∃ key d, y = .ext (kT key) ∧ luK kvs key = some d ∧ Q (ptrD i d) (env2.set i (.reg r (putC cs b (.dt (drK kvs key)))))
end
end HD
namespace HD
open PySem PyProof.Rows L2
inductive Bk where
  | no
  | slot (i : Nat)
  | part (i : Nat)
def lend1 (m : Nat) (env : Env') (x : Sl) (k : Sl → Bk → Env' → Prop) : Prop := match m with
  | 0 => froz env x fun d => k (.ext d) .no env
  | 1 => match x with
    | .al i a => match env[i]? with
      | some (.lst b ds) => b = a ∧ k (.lst a ds) (.slot i) (env.set i .un)
      | _ => False
    | .ar i b => match env[i]? with
      | some (.reg d cs) => rootOf d = some b ∧ k (.reg (.val (.ref b)) cs) (.slot i) (env.set i .un)
      | _ => False
    | .lst a ds => k (.lst a ds) .no env
    | .reg d cs => k (.reg d cs) .no env
    | .ext d => k (.ext d) .no env
    | .un => False
  | _ => match x with
    | .ar i b => match env[i]? with
      | some (.reg d cs) => ∃ sub rest, cs.Perm (sub ++ rest) ∧ k (.reg (.val (.ref b)) sub) (.part i) (env.set i (.reg d rest))
      | _ => False
    | _ => False
def lendM : List Nat → Env' → List Sl → (List Sl → List Bk → Env' → Prop) → Prop
  | [], env, [], k => k [] [] env
  | m :: ms, env, x :: xs, k => lend1 m env x fun s bk env1 => lendM ms env1 xs fun ss bks env2 => k (s :: ss) (bk :: bks) env2
  | _, _, _, _ => False
def give1 (b : Bk) (env : Env') (s : Sl) (k : Env' → Prop) : Prop := match b with
  | .no => k env
  | .slot i => s.plain ∧ k (env.set i s)
  | .part i => match s with
    | .reg _ sub => match env[i]? with
      | some (.reg d rest) => (∀ a ∈ rest.map (·.1), a ∉ sub.map (·.1)) → k (env.set i (.reg d (rest ++ sub)))
      | _ => False
    | _ => False
def giveM : List Bk → Env' → List Sl → (Env' → Prop) → Prop
  | [], env, _, k => k env
  | b :: bs, env, s :: ss, k => give1 b env s fun env1 => giveM bs env1 ss k
  | _ :: _, _, [], _ => False
section
variable {K : PySem.W.Frag} {e : Ent} {σ : L2.St} {H : Hp}
def callM (spec : DSpec) (ms : List Nat) (Ex : DX) (env : Env') (xs : List Sl) (Q : Sl → Env' → Prop) : Prop := lendM ms env xs fun ss bks env1 => spec ss (fun r fin => r.plain ∧ giveM bks env1 fin fun env2 => Q r env2) (fun c fin => giveM bks env1 fin fun env2 => Ex c env2)
end
def dCallM (spec : DSpec) (ms : List Nat) (ta : DTA) : DT := fun Ex env Q => ta Ex env fun xs env1 => callM spec ms Ex env1 xs Q
section
variable {G : GG} {N : List Str} {sc : SC} {k kf n : Nat} {x : Str} {spec : DSpec} {e o : Expr} {es : List Expr} {p pos apos : Pos}
def insK (c m : Str) (_ : Nat) (_ : Addr) (_ : D) (_ : Cells) (oc : OC) : Prop := insO oc fun c' _ fs => c' = c ∧ luK fs m = none
def objS (c m : Str) (env : Env') (x : Sl) : Prop := match x with
  | .reg (.val (.ref a)) cs => match cellOf cs a with
    | some (.ins c' _ fs) => c' = c ∧ luK fs m = none
    | _ => False
  | x => cellS env x (insK c m)
def dMethO (c m : Str) (spec : DSpec) (ms : List Nat) (to : DT) (ta : DTA) : DT := fun Ex env Q => to Ex env fun x env1 => objS c m env1 x ∧ ta Ex env1 fun xs env2 => callM spec ms Ex env2 (x :: xs) Q
end
end HD
namespace HD
open PySem PyProof.Rows L2
abbrev newS (c : Str) (a dx : Addr) : Sl := .reg (.val (.ref a)) [(a, .ins c dx []), (dx, .own a)]
def makeM (c : Str) (spec : DSpec) (ms : List Nat) (Ex : DX) (env : Env') (xs : List Sl) (Q : Sl → Env' → Prop) : Prop := lendM ms env xs fun ss bks env1 => ∀ a dx, a ≠ dx → spec (newS c a dx :: ss)
  (fun r fin => r = .ext .non ∧ match fin with | s0 :: fr => giveM bks env1 fr fun env2 => s0.plain ∧ Q s0 env2 | [] => False)
  (fun c fin => match fin with | _ :: fr => giveM bks env1 fr fun env2 => Ex c env2 | [] => False)
def dMake (c : Str) (spec : DSpec) (ms : List Nat) (ta : DTA) : DT := fun Ex env Q => ta Ex env fun xs env1 => makeM c spec ms Ex env1 xs Q
section
variable {G : GG} {N : List Str} {sc : SC} {k kf n : Nat} {spec : DSpec} {e o a : Expr} {es : List Expr} {p pos apos : Pos} {st : Stmt} {t : DTS} {ta : DT}
def sSetA (i : Nat) (t : DT) : DTS := fun Ex E env => t Ex env fun x env1 => match x with
  | .ar j b => E.nx (env1.set i (.ar j b))
  | .ext d => E.nx (env1.set i (.ext d))
  | _ => False
def dMoveR (i : Nat) : DT := fun _ env Q => match env[i]? with
  | some (.reg d cs) => Q (.reg d cs) (env.set i .un)
  | _ => False
end
end HD
namespace HD
open PySem PyProof.Rows L2
section
variable {G : GG} {N : List Str} {sc : SC} {k kf n : Nat} {e o a : Expr} {es : List Expr} {p pos apos : Pos} {st : Stmt} {t : DTS} {ta : DT}
def sSetG (i : Nat) (t : DT) : DTS := fun Ex E env => t Ex env fun x env1 => match x with
  | .lst a ds => E.nx (env1.set i (.reg (.val (.ref a)) [(a, .lst ds)]))
  | .reg d cs => E.nx (env1.set i (.reg d cs))
  | _ => False
def dExtTR (t te : DT) : DT := fun Ex env Q => t Ex env fun x env1 => cellS env1 x lstK ∧ te Ex env1 fun y env2 => match y with
  | .ext (.tup es) => cellS env2 x fun i b r cs oc => lstO oc fun ds => ds.length + es.length ≤ sizeLine ∧ Q (.ext .non) (env2.set i (.reg r (putC cs b (.lst (ds ++ es)))))
  | _ => False
end
theorem seq_setG (i : Nat) (t : DT) (u : DTS) (Ex : DX) (E : DEnds) (env : Env') : sSeq (sSetG i t) u Ex E env = sSetG i t Ex { E with nx := fun env1 => u Ex E env1 } env := rfl
theorem seq_setA (i : Nat) (t : DT) (u : DTS) (Ex : DX) (E : DEnds) (env : Env') : sSeq (sSetA i t) u Ex E env = sSetA i t Ex { E with nx := fun env1 => u Ex E env1 } env := rfl
theorem seq_attr (c f : Str) (fz : Bool) (t te : DT) (u : DTS) (Ex : DX) (E : DEnds) (env : Env') : sSeq (sAttr c f fz t te) u Ex E env = sAttr c f fz t te Ex { E with nx := fun env1 => u Ex E env1 } env := rfl
theorem seq_setR (fz : Bool) (t tI te : DT) (u : DTS) (Ex : DX) (E : DEnds) (env : Env') : sSeq (sSetR fz t tI te) u Ex E env = sSetR fz t tI te Ex { E with nx := fun env1 => u Ex E env1 } env := rfl
theorem seq_putR (fz : Bool) (t tI te : DT) (u : DTS) (Ex : DX) (E : DEnds) (env : Env') : sSeq (sPutR fz t tI te) u Ex E env = sPutR fz t tI te Ex { E with nx := fun env1 => u Ex E env1 } env := rfl
theorem seq_putTR (fz : Bool) (t tI te : DT) (u : DTS) (Ex : DX) (E : DEnds) (env : Env') : sSeq (sPutTR fz t tI te) u Ex E env = sPutTR fz t tI te Ex { E with nx := fun env1 => u Ex E env1 } env := rfl
end HD
namespace HD
open PySem L2
def RegS (o : Option Sl) (k : D → Cells → Prop) (_ : Tok k) : Prop := match o with
  | some (.reg d cs) => k d cs
  | _ => False
def CellS (o : Option OC) (k : OC → Prop) (_ : Tok k) : Prop := match o with
  | some oc => k oc
  | none => False
def RefS (o : Option Sl) (k1 : Addr → Prop) (k2 : Nat → Addr → Prop) (_ : Tok k1) (_ : Tok k2) : Prop := match o with
  | some (.reg d _) => ∃ q, rootOf d = some q ∧ k1 q
  | some (.ar j q) => k2 j q
  | _ => False
theorem RegS_reg (d : D) (cs : Cells) (k : D → Cells → Prop) (t : Tok k) : RegS (some (.reg d cs)) k t = k d cs := rfl
theorem CellS_some (oc : OC) (k : OC → Prop) (t : Tok k) : CellS (some oc) k t = k oc := rfl
theorem RefS_reg (a : Addr) (cs : Cells) (k1 : Addr → Prop) (k2 : Nat → Addr → Prop) (t : Tok k1) (u : Tok k2) : RefS (some (.reg (.val (.ref a)) cs)) k1 k2 t u = k1 a :=
  propext ⟨fun ⟨q, e, h⟩ => by cases e; exact h, fun h => ⟨a, rfl, h⟩⟩
theorem RefS_ar (j : Nat) (a : Addr) (k1 : Addr → Prop) (k2 : Nat → Addr → Prop) (t : Tok k1) (u : Tok k2) : RefS (some (.ar j a)) k1 k2 t u = k2 j a := rfl
theorem dVarR_w (i : Nat) (Ex : DX) (env : Env') (Q : Sl → Env' → Prop) : dVarR i Ex env Q = RefS env[i]? (fun q => Q (.ar i q) env) (fun j q => Q (.ar j q) env) .mk .mk := rfl
theorem cellS_ar (env : Env') (i : Nat) (b : Addr) (k : Nat → Addr → D → Cells → OC → Prop) : cellS env (.ar i b) k = RegS env[i]? (fun d cs => CellS (cellOf cs b) (fun oc => k i b d cs oc) .mk) .mk := by
  unfold RegS CellS cellS
  dsimp only <;> (rcases env[i]? with _ | s <;> first | rfl | (cases s <;> rfl))
theorem wd_ar (env : Env') (i : Nat) (b : Addr) (k : D → Prop) : wd env (.ar i b) k = RegS env[i]? (fun _ cs => CellS (cellOf cs b) (fun oc => lstO oc fun ds => k (.lst ds)) .mk) .mk := by
  unfold RegS CellS lstO wd
  dsimp only <;> (rcases env[i]? with _ | s <;> first | rfl | (cases s <;> first | rfl | (rename_i d cs; dsimp only <;> (rcases cellOf cs b with _ | oc <;> first | rfl | (cases oc <;> rfl)))))
theorem seqD_ar (env : Env') (i : Nat) (b : Addr) (q : List D → (Env' → Prop) → Prop) : seqD env (.ar i b) q = RegS env[i]? (fun _ cs => CellS (cellOf cs b) (fun oc => lstO oc fun ds => q ds (atC i b ds)) .mk) .mk := by
  unfold RegS CellS lstO seqD iterD
  dsimp only <;> (rcases env[i]? with _ | s <;> first | rfl | (cases s <;> first | rfl | (rename_i d cs; dsimp only <;> (rcases cellOf cs b with _ | oc <;> first | rfl | (cases oc <;> rfl)))))
theorem lstO_lst (ds : List D) (k : List D → Prop) : lstO (.lst ds) k = k ds := rfl
theorem insO_ins (c : Str) (dx : Addr) (fs : List (Str × D)) (k : Str → Addr → List (Str × D) → Prop) : insO (.ins c dx fs) k = k c dx fs := rfl
theorem dkO_dk (kvs : List (Key × D)) (k : List (Key × D) → Prop) : dkO (.dk kvs) k = k kvs := rfl
theorem dkO_lk (od : Obj) (vs : List (Key × V)) (kvs : List (Key × D)) (k : List (Key × D) → Prop) : dkO (.lkK od vs kvs) k = k kvs := rfl
theorem dtO_dt (kvs : List (List Int × D)) (k : List (List Int × D) → Prop) : dtO' (.dt kvs) k = k kvs := rfl
theorem dtO_lk (od : Obj) (kbs : List (List Int × Addr × V)) (kvs : List (List Int × D)) (k : List (List Int × D) → Prop) : dtO' (.lkT od kbs kvs) k = k kvs := rfl
theorem dkW_dk (kvs : List (Key × D)) (k : List (Key × D) → Prop) : dkW (.dk kvs) k = k kvs := rfl
theorem dtW_dt (kvs : List (List Int × D)) (k : List (List Int × D) → Prop) : dtW (.dt kvs) k = k kvs := rfl
theorem stoS_ext (fz : Bool) (env : Env') (d : D) (k : D → Cells → Env' → Prop) : stoS fz env (.ext d) k = k d [] env := rfl
theorem stoS_reg (fz : Bool) (env : Env') (d : D) (cs : Cells) (k : D → Cells → Env' → Prop) : stoS fz env (.reg d cs) k = k d cs env := rfl
theorem stoS_lstT (env : Env') (p : Addr) (ds : List D) (k : D → Cells → Env' → Prop) : stoS true env (.lst p ds) k = k (.lst ds) [] env := by
  simp [stoS]
theorem stoS_lstF (env : Env') (p : Addr) (ds : List D) (k : D → Cells → Env' → Prop) : stoS false env (.lst p ds) k = k (.val (.ref p)) [(p, .lst ds)] env := by
  simp [stoS]
theorem stoS_al (fz : Bool) (env : Env') (i : Nat) (a : Addr) (k : D → Cells → Env' → Prop) : stoS fz env (.al i a) k = AtL env[i]? fun b ds => b = a ∧ k (.lst ds) [] (env.set i (.ext (.lst ds))) := by
  simp only [AtL, ← AtL_eq] <;> rfl
theorem ptrD_ref (i : Nat) (q : Addr) : ptrD i (.val (.ref q)) = .ar i q := rfl
theorem ptrD_int (i : Nat) (n : Int) : ptrD i (.int n) = .ext (.int n) := rfl
theorem ptrD_str (i : Nat) (n : Str) : ptrD i (.str n) = .ext (.str n) := rfl
theorem ptrD_bl (i : Nat) (n : Bool) : ptrD i (.bl n) = .ext (.bl n) := rfl
theorem ptrD_non (i : Nat) : ptrD i .non = .ext .non := rfl
theorem ptrD_tup (i : Nat) (ds : List D) : ptrD i (.tup ds) = .ext (.tup ds) := rfl
theorem ptrD_tk (i : Nat) (ds : List D) : ptrD i (.tk ds) = .ext (.tk ds) := rfl
theorem ptrD_lst (i : Nat) (ds : List D) : ptrD i (.lst ds) = .ext (.lst ds) := rfl
theorem ptrD_fz (i : Nat) (ds : List D) : ptrD i (.fz ds) = .ext (.fz ds) := rfl
def setGS (i : Nat) (x : Sl) (env1 : Env') (k : Env' → Prop) : Prop := match x with
  | .lst a ds => k (env1.set i (.reg (.val (.ref a)) [(a, .lst ds)]))
  | .reg d cs => k (env1.set i (.reg d cs))
  | _ => False
theorem sSetG_w (i : Nat) (t : DT) (Ex : DX) (E : DEnds) (env : Env') : sSetG i t Ex E env = t Ex env fun x env1 => setGS i x env1 E.nx := rfl
theorem setGS_lst (i : Nat) (a : Addr) (ds : List D) (env1 : Env') (k : Env' → Prop) : setGS i (.lst a ds) env1 k = k (env1.set i (.reg (.val (.ref a)) [(a, .lst ds)])) := rfl
theorem setGS_reg (i : Nat) (d : D) (cs : Cells) (env1 : Env') (k : Env' → Prop) : setGS i (.reg d cs) env1 k = k (env1.set i (.reg d cs)) := rfl
def setAS (i : Nat) (x : Sl) (env1 : Env') (k : Env' → Prop) : Prop := match x with
  | .ar j b => k (env1.set i (.ar j b))
  | .ext d => k (env1.set i (.ext d))
  | _ => False
theorem sSetA_w (i : Nat) (t : DT) (Ex : DX) (E : DEnds) (env : Env') : sSetA i t Ex E env = t Ex env fun x env1 => setAS i x env1 E.nx := rfl
theorem setAS_ar (i j : Nat) (b : Addr) (env1 : Env') (k : Env' → Prop) : setAS i (.ar j b) env1 k = k (env1.set i (.ar j b)) := rfl
theorem setAS_ext (i : Nat) (d : D) (env1 : Env') (k : Env' → Prop) : setAS i (.ext d) env1 k = k (env1.set i (.ext d)) := rfl
def intS (y : Sl) (k : Int → Prop) : Prop := match y with
  | .ext (.int n) => k n
  | _ => False
theorem intS_int (n : Int) (k : Int → Prop) : intS (.ext (.int n)) k = k n := rfl
theorem dIxR_w (t te : DT) (Ex : DX) (env : Env') (Q : Sl → Env' → Prop) : dIxR t te Ex env Q = t Ex env fun x env1 => te Ex env1 fun y env2 => intS y fun n => cellS env2 x fun i _ _ _ oc => lstO oc fun ds => GetS (atI ds n) (fun d => Q (ptrD i d) env2) .mk := rfl
def tupS (y : Sl) (k : List D → Prop) : Prop := match y with
  | .ext (.tup es) => k es
  | _ => False
theorem tupS_tup (es : List D) (k : List D → Prop) : tupS (.ext (.tup es)) k = k es := rfl
theorem dExtTR_w (t te : DT) (Ex : DX) (env : Env') (Q : Sl → Env' → Prop) : dExtTR t te Ex env Q = t Ex env fun x env1 => cellS env1 x lstK ∧ te Ex env1 fun y env2 => tupS y fun es => cellS env2 x fun i b r cs oc => lstO oc fun ds => ds.length + es.length ≤ sizeLine ∧ Q (.ext .non) (env2.set i (.reg r (putC cs b (.lst (ds ++ es))))) := rfl
def lstS (d : D) (k : List D → Prop) : Prop := match d with
  | .lst es => k es
  | _ => False
theorem lstS_lst (es : List D) (k : List D → Prop) : lstS (.lst es) k = k es := rfl
theorem dExtR_w (t te : DT) (Ex : DX) (env : Env') (Q : Sl → Env' → Prop) : dExtR t te Ex env Q = t Ex env fun x env1 => cellS env1 x lstK ∧ te Ex env1 fun y env2 => wd env2 y fun d2 => lstS d2 fun es => cellS env2 x fun i b r cs oc => lstO oc fun ds => ds.length + es.length ≤ sizeLine ∧ Q (.ext .non) (env2.set i (.reg r (putC cs b (.lst (ds ++ es))))) := rfl
theorem dPopR_w (t : DT) (Ex : DX) (env : Env') (Q : Sl → Env' → Prop) : dPopR t Ex env Q = t Ex env fun x env1 => cellS env1 x fun i b r cs oc => lstO oc fun ds => GetS ds[ds.length - 1]? (fun d => Q (ptrD i d) (env1.set i (.reg r (putC cs b (.lst ds.dropLast))))) .mk := rfl
end HD
namespace HD
open PySem PyProof.Rows L2
open PySem.W (dataLt dataLe EachIs AllAlike Sortable list_sort_data sorted_data)
def SrtD (ds : List D) : Prop := D.noVals ds = true ∧ (∀ d ∈ ds, ∃ x r, d.py = .tuple (x :: r)) ∧ AllAlike (D.pys ds) ∧ ∀ d ∈ ds, d.py.depth ≤ 50
def fSortD : List D → (Sl → Prop) → Prop
  | [.lst ds], Q => SrtD ds ∧ ∀ (ds' : List D) (a : Addr), ds'.Perm ds → ds'.Pairwise (fun x y => dataLt y.py x.py = false) → Q (.lst a ds')
  | [.tup ds], Q => SrtD ds ∧ ∀ (ds' : List D) (a : Addr), ds'.Perm ds → ds'.Pairwise (fun x y => dataLt y.py x.py = false) → Q (.lst a ds')
  | _, _ => False
end HD
namespace HD
open PySem PyProof.Rows L2
def deepD (cs : Cells) : Nat → D → D
  | 0, d => d
  | n + 1, .val (.ref b) => match cellOf cs b with
    | some (.lst ds) => .lst (ds.map (deepD cs n))
    | _ => .val (.ref b)
  | n + 1, .lst ds => .lst (ds.map (deepD cs n))
  | n + 1, .tup ds => .tup (ds.map (deepD cs n))
  | _ + 1, d => d
section
variable {K : PySem.W.Frag} {F Fc H : Hp}
theorem reps_map {g : D → D} (h : ∀ d v, Rep K F d v → Rep K Fc (g d) v) : ∀ {ds : List D} {vs : List V}, Reps K F ds vs → Reps K Fc (ds.map g) vs
  | [], _, r => r
  | d :: ds, _, r => by
    obtain ⟨v, t, rfl, h1, h2⟩ := r
    exact ⟨v, t, rfl, h _ _ h1, reps_map h h2⟩
theorem deep_rep {cs : Cells} (hc : ∀ p ∈ cs, ∃ o, H p.1 = some o ∧ OC.ok K F p.1 p.2 o) (sm : Same F Fc) (sk : ∀ b ∈ cs.map (·.1), Fc b = H b) : ∀ (n : Nat) (d : D) (v : V), Rep K F d v → Rep K Fc (deepD cs n d) v
  | 0, d, v, r => Rep.same sm r
  | n + 1, .val u, v, r => by
    have e : v = u := r
    subst e
    cases v with
    | ref b =>
      unfold deepD
      split
      · rename_i ds hcell
        have hm := cellOf_mem hcell
        obtain ⟨o, ho, vs, eo, hr⟩ := hc _ hm
        refine ⟨b, vs, rfl, ?_, reps_map (deep_rep hc sm sk n) hr⟩
        rw [sk b (List.mem_map.2 ⟨_, hm, rfl⟩), ho, eo]
      · exact rfl
    | _ => exact rfl
  | n + 1, .lst ds, v, ⟨a, xs, e, h1, h2⟩ => ⟨a, xs, e, sm _ _ h1, reps_map (deep_rep hc sm sk n) h2⟩
  | n + 1, .tup ds, v, ⟨a, xs, e, h1, h2⟩ => ⟨a, xs, e, TupD.same sm h1, reps_map (deep_rep hc sm sk n) h2⟩
  | n + 1, .non, v, r => r
  | n + 1, .bl _, v, r => r
  | n + 1, .int _, v, r => r
  | n + 1, .str _, v, r => r
  | n + 1, .fz ds, v, r => Rep.same (d := .fz ds) sm r
  | n + 1, .tk ds, v, r => Rep.same (d := .tk ds) sm r
  | n + 1, .glo _, v, r => r
  | n + 1, .exc c, v, r => Rep.same (d := .exc c) sm r
  | n + 1, .dk ks ds, v, r => Rep.same (d := .dk ks ds) sm r
  | n + 1, .dt ks ds, v, r => Rep.same (d := .dt ks ds) sm r
end
def regC (env : Env') (i : Nat) (k : Cells → Prop) : Prop := match env[i]? with
  | some (.reg _ cs) => k cs
  | _ => False
def dCallD (i n : Nat) (spec : DSpec) (ta : DTA) : DT := fun Ex env Q => ta Ex env fun xs env1 => wds env1 xs fun ds => regC env1 i fun cs =>
  spec ((ds.map (deepD cs n)).map .ext) (fun r _ => r.imm = true ∧ r.plain ∧ Q r env1) (fun c _ => Ex c env1)
theorem im_callD {K : PySem.W.Frag} {W : WX} {spec : DSpec} {m i n : Nat} {ta : TA} {t : DTA} (h : ImA K W ta t) (hn : ∀ ds Q X, spec ds Q X → ds.length = m) : Im K W (tCallS (toSp K m spec) (WE W) ta) (dCallD i n spec t) := fun e Ex hl env T F σ H Q R hh ht hR => by
  refine h e Ex hl env T F σ H _ _ hh ht fun vs H1 F1 env1 xs le hh1 q1 => ?_
  obtain ⟨ds, F2, Fc0, q2, hh2, sm1, sm2, rr0, fh0, nw0, na⟩ := hh1.lend le q1
  unfold regC at q2
  split at q2
  · rename_i dr cs hi
    have hcell : ∀ p ∈ cs, F2 p.1 = none ∧ ∃ o, H1 p.1 = some o ∧ OC.ok K F2 p.1 p.2 o := by
      rcases hh2.slots i _ hi with z | ⟨w, hw, o1, o2, o3⟩
      · cases z
      · exact o3
    have hown : ∀ b ∈ cs.map (·.1), b ∈ ownedE env1 := fun b hb => mem_ownedE hi hb
    let Fc : Hp := fun b => if b ∈ cs.map (·.1) then H1 b else Fc0 b
    have eFc : ∀ b, Fc b = if b ∈ cs.map (·.1) then H1 b else Fc0 b := fun b => rfl
    have sm3 : Same Fc0 Fc := fun b o q => by
      rw [eFc]
      split
      · exact fh0 _ _ q
      · exact q
    have s2 : Same F2 Fc := sm2.trans sm3
    have fh : Same Fc H1 := fun b o q => by
      rw [eFc] at q
      split at q
      · exact q
      · exact fh0 _ _ q
    have nw : ∀ b, Fc b ≠ none → F2 b ≠ none ∨ b ∈ ownedE env1 := fun b q => by
      rw [eFc] at q
      split at q
      · rename_i hb
        exact .inr (hown b hb)
      · exact nw0 b q
    have rr : Reps K Fc (ds.map (deepD cs n)) vs := reps_map (deep_rep (H := H1) (fun p hp => by
      obtain ⟨_, o, ho, ok⟩ := hcell p hp
      exact ⟨o, ho, ok.same sm2⟩) sm3 (fun b hb => by rw [eFc, if_pos hb]) n) rr0
    have back : ∀ (H' F' : Hp), Same Fc F' → Same F' H' → (∀ a o, H1 a = some o → a ∉ ownedE ((ds.map (deepD cs n)).map Sl.ext) → H' a = some o ∧ (Fc a = none → F' a = none)) → Left [] Fc H1 F' H' := fun H' F' a b c => ⟨a, b, fun x o q _ => c x o q (by rw [ownedE_ext]; exact fun z => nomatch z)⟩
    refine ⟨Fc, (ds.map (deepD cs n)).map .ext, _, _, ?_, argsE fh rr, q2, fun v H' F' r fin hf hq => ?_, fun c H' F' fin hf hq => ?_⟩
    · rw [← hn _ _ _ q2, List.length_map, rr.length]
    · obtain ⟨im, qp, q3⟩ := hq
      have l := back H' F' hf.s1 hf.fh hf.s2
      have own : ∀ a ∈ r.owned, H1 a = none := fun a ha => by
        have m : a ∈ ownedE fin ++ ownedT [(v, r)] := List.mem_append_right _ (by
          show a ∈ r.owned ++ []
          rw [List.append_nil]
          exact ha)
        rcases hf.s3 a m with z | z
        · have z' : a ∈ ownedE ((ds.map (deepD cs n)).map Sl.ext) := z
          rw [ownedE_ext] at z'
          cases z'
        · exact z
      have ok := hf.temps (v, r) List.mem_cons_self
      obtain ⟨F3, l3, t1, t2, t3⟩ := hh2.thaw s2 nw l
      refine hR v H' F3 env1 r (hh2.left0 l3 ?_ own) q3
      cases r with
      | un => exact nomatch im
      | al i a => exact nomatch im
      | reg _ _ => exact nomatch im
      | ar _ _ => exact nomatch im
      | ext d => exact t1 d v im ok
      | lst a es =>
        obtain ⟨e1, e2, us, hu, hr⟩ := ok
        exact ⟨e1, t3 _ e2, us, hu, t2 es us im hr⟩
    · have l := back H' F' hf.s1 hf.fh hf.s2
      obtain ⟨F3, l3, _, _, _⟩ := hh2.thaw s2 nw l
      have h4 := hh2.left0 (v := .non) (r := .ext .non) l3 rfl (fun a z => nomatch z)
      exact hl c env1 F3 σ H' h4.bare hq
  · exact q2.elim
section
variable {G : GG} {N : List Str} {sc : SC} {k kf n : Nat} {x : Str} {spec : DSpec} {e o : Expr} {es : List Expr} {p pos apos : Pos}
theorem de_callD {ta : DTA} (i m : Nat) (d : Def G kf x n spec) (ha : DAs G N sc k (e :: es) ta) (hk : kf ≤ k := by decide) (hg : GlS sc x := by rfl) (hdb : (x == ("__debug__" : Str)) = false := by decide) (he : NoStar e es := by intro _; rfl) (hpl : ∀ env, (backTo pos (starEach es env)).any (·.1) = false := by intro _; rfl) :
    DE G N sc k (.Call (.Name x p) (e :: es) [] pos) (dCallD i m spec ta) := ⟨fun W => by
  obtain ⟨te, p1, i1⟩ := ha.ex W
  exact ⟨tCallS (toSp G.K n spec) (WE W) te, fun X S => d.pe S hk hg (p1 X S) hdb he hpl, im_callD i1 d.len⟩⟩
end
theorem regC_reg (env : Env') (i : Nat) (k : Cells → Prop) : regC env i k = RegS env[i]? (fun _ cs => k cs) .mk := by
  first | rfl | (unfold regC RegS <;> rfl)
theorem dMoveR_w (i : Nat) (Ex : DX) (env : Env') (Q : Sl → Env' → Prop) : dMoveR i Ex env Q = RegS env[i]? (fun d cs => Q (.reg d cs) (env.set i .un)) .mk := by
  first | rfl | (unfold dMoveR RegS <;> rfl)
theorem froz_lst (env : Env') (a : Addr) (ds : List D) (q : D → Prop) : froz env (.lst a ds) q = q (.lst ds) := rfl
theorem froz_ext (env : Env') (d : D) (q : D → Prop) : froz env (.ext d) q = q d := rfl
def dMoveL (i : Nat) : DT := fun _ env Q => AtL env[i]? fun a ds => Q (.lst a ds) (env.set i .un)
theorem de_moveL {G : GG} {N : List Str} {sc : SC} {k : Nat} (i : Nat) {x : Str} {pos : Pos} (hN : N[i]? = some x := by rfl) (hv : Vis sc.sc x := by first | exact Or.inl rfl | exact Or.inr (Or.inl rfl) | exact Or.inr (Or.inr rfl))
    (hd : (x == ("__debug__" : Str)) = false := by decide) (hcd : (x == ("__classdict__" : Str)) = false := by decide) : DE G N sc k (.Name x pos) (dMoveL i) :=
  ⟨fun W => ⟨tVar i, fun X S => pe_var (by rw [S.nms]; exact hN) (S.vis hv) hd hcd, fun e Ex _ env T F σ H Q R hh ht hR => by
    unfold dMoveL at ht
    cases q : env[i]? with
    | none => rw [q] at ht; exact ht.elim
    | some sl =>
      rw [q] at ht
      cases sl with
      | lst a ds =>
        rcases hh.slots i _ q with z | ⟨v, hv, ok⟩
        · cases z
        obtain ⟨rfl, _⟩ := id ok
        exact ⟨_, hv, hR _ H F _ (.lst a ds) (hh.take q hv) ht⟩
      | _ => exact ht.elim⟩⟩
section
variable {G : GG} {N : List Str} {sc : SC} {k : Nat} {a b : Expr} {ta tb : DT} {p p2 pos pos2 apos cpos : Pos}
def dDictP (ta : DT) : DT := fun Ex env Q => ta Ex env fun x env1 => froz env1 x fun d => match d with
  | .lst xs => ∃ kvs : List (List Int × D), xs = kvs.map (fun p => D.tup [kT p.1, p.2]) ∧ (kvs.map (·.1)).Nodup ∧ ∀ a, Q (dtS a kvs) env1
  | _ => False
end
def upK (kvs more : List (List Int × D)) : List (List Int × D) := more.foldl (fun acc p => ptK acc p.1 p.2) kvs
section
variable {G : GG} {N : List Str} {sc : SC} {k : Nat} {a b : Expr} {ta tb : DT} {apos cpos : Pos}
def dUpdTR (t te : DT) : DT := fun Ex env Q => t Ex env fun x env1 => cellS env1 x dtK ∧ te Ex env1 fun y env2 => cellS env2 x fun i b r cs oc => dtW oc fun kvs => ∃ b2 more, y = dtS b2 more ∧ (kvs ≠ [] ∨ (more.map fun p => hT p.1).Nodup) ∧ kvs.length + more.length ≤ sizeLine ∧
  Q (.ext .non) (env2.set i (.reg r (putC cs b (.dt (upK kvs more)))))
end
end HD
namespace HD
open PySem PyProof.Rows L2
def mgK (kvs more : List (Key × D)) : List (Key × D) := more.foldl (fun acc p => ptK acc p.1 p.2) kvs
section
variable {G : GG} {N : List Str} {sc : SC} {k : Nat} {a b : Expr} {ta tb : DT} {apos cpos : Pos}
def dUpdKR (t te : DT) : DT := fun Ex env Q => t Ex env fun x env1 => cellS env1 x dkK ∧ te Ex env1 fun y env2 => cellS env2 x fun i b r cs oc => dkW oc fun kvs => ∃ b2 more, y = .reg (.val (.ref b2)) [(b2, .dk more)] ∧ kvs.length + more.length ≤ sizeLine ∧
  Q (.ext .non) (env2.set i (.reg r (putC cs b (.dk (mgK kvs more)))))
end
section
variable {G : GG} {N : List Str} {sc : SC} {k : Nat} {a b : Expr} {ta tb : DT} {p p2 pos pos2 : Pos}
def dDictZipK (ta tb : DT) : DT := fun Ex env Q => ta Ex env fun x env1 => tb Ex env1 fun y env2 => seqD env2 x fun xs _ => seqD env2 y fun ys _ => ∃ kvs : List (Key × D), xs = kvs.map (fun p => kD p.1) ∧ ys = kvs.map (·.2) ∧ ∀ a, Q (dkS a (mgK [] kvs)) env2
end
section
variable {G : GG} {N : List Str} {sc : SC} {k : Nat} {a : Expr} {ta : DT} {p pos : Pos}
def dDictC (ta : DT) : DT := fun Ex env Q => ta Ex env fun x env1 => cellS env1 x fun _ _ _ _ oc => dkO oc fun kvs => ∀ a, Q (dkS a kvs) env1
end
end HD
namespace HD
open PySem PyProof.Rows L2
section
variable {G : GG} {N : List Str} {sc : SC} {k : Nat}
def lcR (g : DTG) (te : DT) (vs : List Nat) (keep : Env' → Prop) (Q : Sl → Env' → Prop) (A : Addr) : List D → List D → Cells → Env' → Prop
  | [], acc, cs, env => keep env ∧ Q (.reg (.val (.ref A)) ((A, .lst acc) :: cs)) env
  | d :: ds, acc, cs, env => keep env ∧ acc.length < sizeLine ∧ g d env fun env1 => te noX env1 fun x env3 => stoS false env3 x fun d' cs' env4 => (∀ a ∈ A :: cs.map (·.1), a ∉ cs'.map (·.1)) → lcR g te vs keep Q A ds (acc ++ [d']) (cs ++ cs') (wipeE env4 vs)
def dLcR (ti : DTI) (g : DTG) (te : DT) (vs : List Nat) : DT := fun Ex env Q => ti Ex env fun items keep env1 => ∀ A, lcR g te vs keep Q A items [] [] (wipeE env1 vs)
variable {elt tg iter : Expr} {scope : Scope} {own : List (Str × Nat)} {pos : Pos} {ti : DTI} {g : DTG} {te : DT}
end
end HD
namespace HD
open PySem L2
section
variable {G : GG} {N : List Str} {sc : SC} {k : Nat} {a : Expr} {ta : DT} {p pos pl : Pos}
def dSumL (t : DT) : DT := fun Ex env Q => t Ex env fun x env1 => wd env1 x fun d => match d with
  | .lst ds => ∃ lss : List (List D), ds = lss.map D.lst ∧ lss.flatten.length ≤ sizeLine ∧ ∀ c, Q (.lst c lss.flatten) env1
  | _ => False
end
end HD
namespace HD
open PySem PyProof.Rows L2
section
variable {K : PySem.W.Frag} {e : Ent} {env : Env'} {T : Tmp} {F : Hp} {σ : L2.St} {H : Hp}
theorem SlOk.freezeR {F1 : Hp} {v : V} {ks : List Addr} (sm : Same F F1) (nw : ∀ b, b ∉ ks → F1 b = F b) : ∀ {sl : Sl}, (∀ a ∈ sl.owned, a ∉ ks) → SlOk K F H v sl → SlOk K F1 H v sl
  | .un, _, _ => trivial
  | .ext _, _, h => Rep.same sm h
  | .al _ _, _, h => h
  | .ar _ _, _, h => h
  | .lst b ds, n, h => by
    obtain ⟨rfl, q, us, hv, hr⟩ := h
    exact ⟨rfl, by rw [nw b (n b (List.mem_singleton.mpr rfl))]; exact q, us, hv, hr.same sm⟩
  | .reg b cs, n, h => by
    obtain ⟨rd, nd, hc⟩ := h
    refine ⟨Rep.same sm rd, nd, fun p hp => ?_⟩
    obtain ⟨q, o', ho, ok⟩ := hc p hp
    exact ⟨by rw [nw p.1 (n p.1 (List.mem_map.mpr ⟨p, hp, rfl⟩))]; exact q, o', ho, ok.same sm⟩
def frzH (cs : Cells) (F H : Hp) : Hp := fun b => if b ∈ cs.map (·.1) then H b else F b
theorem frzH_eq (cs : Cells) (F H : Hp) (b : Addr) : frzH cs F H b = if b ∈ cs.map (·.1) then H b else F b := rfl
end
section
variable {G : GG} {N : List Str} {sc : SC} {k : Nat} {st : Stmt} {t : DTS}
def sFzR (i n : Nat) (t : DTS) : DTS := fun Ex E env => RegS env[i]? (fun d cs => t Ex E (env.set i (.ext (deepD cs n d)))) .mk
end
end HD
namespace HD
open PySem PyProof.Rows L2
def regOf : Sl → Option (D × Cells)
  | .ext d => some (d, [])
  | .lst p ds => some (.val (.ref p), [(p, .lst ds)])
  | .reg d cs => some (d, cs)
  | _ => none
def regsOf : List Sl → Option (List D × Cells)
  | [] => some ([], [])
  | x :: xs => match regOf x, regsOf xs with
    | some (d, cs), some (ds, es) => some (d :: ds, cs ++ es)
    | _, _ => none
section
variable {K : PySem.W.Frag} {e : Ent} {env : Env'} {T : Tmp} {F : Hp} {σ : L2.St} {H : Hp}
theorem regOf_ok {v : V} {x : Sl} {d : D} {cs : Cells} (h : SlOk K F H v x) (e : regOf x = some (d, cs)) : SlOk K F H v (.reg d cs) ∧ cs.map (·.1) = x.owned := by
  cases x with
  | un => cases e
  | al _ _ => cases e
  | ar _ _ => cases e
  | ext d' =>
    cases e
    exact ⟨⟨h, List.nodup_nil, fun p hp => nomatch hp⟩, rfl⟩
  | lst p ds =>
    cases e
    obtain ⟨rfl, q, us, hv, hr⟩ := h
    refine ⟨⟨rfl, List.pairwise_singleton _ _, fun p hp => ?_⟩, rfl⟩
    rw [List.mem_singleton.mp hp]
    exact ⟨q, _, hv, us, rfl, hr⟩
  | reg d' cs' =>
    cases e
    exact ⟨h, rfl⟩
theorem regsOf_ok : ∀ {vs : List V} {xs : List Sl} {ds : List D} {cs : Cells}, vs.length = xs.length → (∀ p ∈ vs.zip xs, SlOk K F H p.1 p.2) → regsOf xs = some (ds, cs) → Reps K F ds vs ∧ cs.map (·.1) = ownedT (vs.zip xs) ∧ ∀ p ∈ cs, F p.1 = none ∧ ∃ o, H p.1 = some o ∧ OC.ok K F p.1 p.2 o
  | [], [], ds, cs, _, _, e => by
    cases e
    exact ⟨rfl, rfl, fun p hp => nomatch hp⟩
  | [], _ :: _, _, _, l, _, _ => by cases l
  | _ :: _, [], _, _, l, _, _ => by cases l
  | v :: vs, x :: xs, ds, cs, l, h, e => by
    unfold regsOf at e
    split at e
    · rename_i d1 c1 d2 c2 e1 e2
      cases e
      obtain ⟨h1, h2⟩ := regOf_ok (h (v, x) List.mem_cons_self) e1
      obtain ⟨r1, r2, r3⟩ := regsOf_ok (by simpa using l) (fun p hp => h p (List.mem_cons_of_mem _ hp)) e2
      refine ⟨⟨v, vs, rfl, h1.1, r1⟩, by rw [List.map_append, h2, r2]; rfl, fun p hp => ?_⟩
      rcases List.mem_append.mp hp with hp | hp
      · exact h1.2.2 p hp
      · exact r3 p hp
    · cases e
theorem Holds.tupR {vs : List V} {xs : List Sl} {ds : List D} {cs : Cells} {p : Addr} {o : Obj} (h : Holds K e env (vs.zip xs ++ T) F σ H) (l : vs.length = xs.length) (q : regsOf xs = some (ds, cs)) (hp : H p = none) (od : o.dict = none) :
    ∃ F1, Same F F1 ∧ Holds K e env ((V.ref p, .reg (.tup ds) cs) :: T) F1 σ (upd H p (.frz o (.tup vs))) := by
  have g := Grow.frozen (o := .frz o (.tup vs)) h.fh hp
  have h1 := h.grow g
  refine ⟨_, g.ff, ?_⟩
  obtain ⟨r1, r2, r3⟩ := regsOf_ok (K := K) l (fun q hq => h1.temps q (List.mem_append_left _ hq)) q
  have nd : (ownedE env ++ ownedT (vs.zip xs ++ T)).Nodup := h1.nd
  have eT : ownedT (vs.zip xs ++ T) = ownedT (vs.zip xs) ++ ownedT T := by unfold ownedT; rw [List.flatMap_append]
  have eo : ownedE env ++ ownedT ((V.ref p, Sl.reg (.tup ds) cs) :: T) = ownedE env ++ ownedT (vs.zip xs ++ T) := by
    rw [eT, ← r2]
    rfl
  refine h1.regroup h1.len h1.slots (fun q hq => ?_) (by rw [eo]; exact nd) (fun a ha => by rw [← eo]; exact ha)
  rcases List.mem_cons.mp hq with rfl | hq
  · refine ⟨⟨p, vs, rfl, .inl ⟨o, upd_same, od⟩, r1⟩, ?_, r3⟩
    rw [r2]
    rw [eT] at nd
    exact (List.nodup_append.mp (List.nodup_append.mp nd).2.1).1
  · exact h1.temps q (List.mem_append_right _ hq)
theorem Holds.freezeRT {v : V} {n : Nat} {d : D} {cs : Cells} (h : Holds K e env ((v, .reg d cs) :: T) F σ H) : ∃ F1, Same F F1 ∧ Holds K e env ((v, .ext (deepD cs n d)) :: T) F1 σ H := by
  obtain ⟨o1, o2, o3⟩ := h.temps (v, .reg d cs) List.mem_cons_self
  have Fn : ∀ b ∈ cs.map (·.1), F b = none := fun b hb => by
    obtain ⟨p, hp, rfl⟩ := List.mem_map.1 hb
    exact (o3 p hp).1
  have eF := frzH_eq cs F H
  have sm : Same F (frzH cs F H) := fun b o q => by
    rw [eF, if_neg fun hb => by rw [Fn b hb] at q; cases q]
    exact q
  have nw : ∀ b, b ∉ cs.map (·.1) → (frzH cs F H) b = F b := fun b hb => if_neg hb
  have nd : (ownedE env ++ (cs.map (·.1) ++ ownedT T)).Nodup := h.nd
  obtain ⟨n1, n2, n3⟩ := List.nodup_append.mp nd
  obtain ⟨m1, m2, m3⟩ := List.nodup_append.mp n2
  have sub : (ownedE env ++ ownedT ((v, Sl.ext (deepD cs n d)) :: T)).Sublist (ownedE env ++ ownedT ((v, Sl.reg d cs) :: T)) := (List.Sublist.refl _).append (List.sublist_append_right _ _)
  have rd : Rep K (frzH cs F H) (deepD cs n d) v := deep_rep (H := H) (fun p hp => by
    obtain ⟨_, o, ho, ok⟩ := o3 p hp
    exact ⟨o, ho, ok⟩) sm (fun b hb => by rw [eF, if_pos hb]) n d v o1
  refine ⟨frzH cs F H, sm, ⟨fun b o q => ?_, h.len, fun j sl q => ?_, fun p hp => ?_, nd.sublist sub, h.s1.trans sm, fun b o q hb => ?_, fun b hb => h.s3 b (sub.subset hb)⟩⟩
  · rw [eF] at q
    split at q
    · exact q
    · exact h.fh _ _ q
  · rcases h.slots j sl q with z | ⟨w, hw, ok⟩
    · exact .inl z
    · exact .inr ⟨w, hw, ok.freezeR sm nw fun a ha hb => n3 a (mem_ownedE q ha) a (List.mem_append_left _ hb) rfl⟩
  · rcases List.mem_cons.mp hp with rfl | hp
    · exact rd
    · exact (h.temps p (List.mem_cons_of_mem _ hp)).freezeR sm nw fun a ha hb => m3 a hb a (List.mem_flatMap.mpr ⟨p, hp, ha⟩) rfl
  · obtain ⟨r1, r2⟩ := h.s2 b o q hb
    refine ⟨r1, fun z => ?_⟩
    rw [eF, if_neg fun hk => ?_]
    · exact r2 z
    · rcases h.s3 b (List.mem_append_right _ (List.mem_append_left _ hk)) with y | y
      · exact hb y
      · rw [q] at y
        cases y
end
section
variable {G : GG} {N : List Str} {sc : SC} {k : Nat} {a : Expr} {es : List Expr} {t : DT} {tA : DTA} {pos : Pos}
def dTupM (t : DTA) : DT := fun Ex env Q => t Ex env fun xs env1 => xs.length ≤ sizeLine ∧ ∃ ds cs, regsOf xs = some (ds, cs) ∧ ((cs.map (·.1)).Nodup → Q (.reg (.tup ds) cs) env1)
theorem de_tupM {x1} (h : DAs G N sc k es tA) : DE G N sc k (.Tuple es x1 pos) (dTupM tA) := ⟨fun W => by
  obtain ⟨te, p1, i1⟩ := h.ex W
  refine ⟨tTupF te, fun X S => pe_tupF (p1 X S), fun e Ex hl env T F σ H Q R hh ht hR => ?_⟩
  refine i1 e Ex hl env T F σ H _ _ hh ht fun vs H1 F1 env1 xs le hh1 q1 => ⟨by rw [le]; exact q1.1, fun p o hp od => ?_⟩
  obtain ⟨ds, cs, q2, q3⟩ := q1.2
  obtain ⟨F2, _, hh2⟩ := hh1.tupR le q2 hp od
  exact hR _ _ F2 env1 _ hh2 (q3 (hh2.temps _ List.mem_cons_self).2.1)⟩
def dVarG (i : Nat) : DT := fun _ env Q => RegS env[i]? (fun d _ => Q (.ext d) env) .mk
theorem de_varG (i : Nat) {x : Str} {pos : Pos} (hN : N[i]? = some x := by rfl) (hv : Vis sc.sc x := by first | exact Or.inl rfl | exact Or.inr (Or.inl rfl) | exact Or.inr (Or.inr rfl))
    (hd : (x == ("__debug__" : Str)) = false := by decide) (hcd : (x == ("__classdict__" : Str)) = false := by decide) : DE G N sc k (.Name x pos) (dVarG i) :=
  ⟨fun W => ⟨tVar i, fun X S => pe_var (by rw [S.nms]; exact hN) (S.vis hv) hd hcd, fun e Ex _ env T F σ H Q R hh ht hR => by
    have ht' : RegS env[i]? (fun d _ => Q (.ext d) env) .mk := ht
    unfold RegS at ht'
    split at ht'
    · rename_i d cs q
      rcases hh.slots i _ q with z | ⟨v, hv, ok⟩
      · cases z
      exact ⟨v, hv, hR v H F env (.ext d) (hh.pushE ok.1) ht'⟩
    · exact ht'.elim⟩⟩
def asP (i : Nat) (x : Sl) (q : Sl → Prop) : Prop := match x with
  | .ext (.val (.ref b)) => q (.ar i b)
  | _ => False
def dAsP (i : Nat) (t : DT) : DT := fun Ex env Q => t Ex env fun x env1 => asP i x fun y => Q y env1
theorem de_asP (i : Nat) (h : DE G N sc k a t) : DE G N sc k a (dAsP i t) := ⟨fun W => by
  obtain ⟨te, p1, i1⟩ := h.ex W
  refine ⟨te, p1, fun e Ex hl env T F σ H Q R hh ht hR => ?_⟩
  refine i1 e Ex hl env T F σ H _ _ hh ht fun v H1 F1 env1 x hh1 q1 => ?_
  have q1' : asP i x fun y => Q y env1 := q1
  unfold asP at q1'
  split at q1'
  · rename_i b
    exact hR v H1 F1 env1 (.ar i b) (hh1.retemp (hh1.temps (v, .ext (.val (.ref b))) List.mem_cons_self) List.nodup_nil fun a ha => nomatch ha) q1'
  · exact q1'.elim⟩
theorem asP_ref (i : Nat) (b : Addr) (q : Sl → Prop) : asP i (.ext (.val (.ref b))) q = q (.ar i b) := rfl
def frzT (n : Nat) (x : Sl) (q : Sl → Prop) : Prop := match x with
  | .reg d cs => q (.ext (deepD cs n d))
  | _ => False
def dFrzT (n : Nat) (t : DT) : DT := fun Ex env Q => t Ex env fun x env1 => frzT n x fun y => Q y env1
theorem frzT_reg (n : Nat) (d : D) (cs : Cells) (q : Sl → Prop) : frzT n (.reg d cs) q = q (.ext (deepD cs n d)) := rfl
theorem de_frzT (n : Nat) (h : DE G N sc k a t) : DE G N sc k a (dFrzT n t) := ⟨fun W => by
  obtain ⟨te, p1, i1⟩ := h.ex W
  refine ⟨te, p1, fun e Ex hl env T F σ H Q R hh ht hR => ?_⟩
  refine i1 e Ex hl env T F σ H _ _ hh ht fun v H1 F1 env1 x hh1 q1 => ?_
  have q1' : frzT n x fun y => Q y env1 := q1
  unfold frzT at q1'
  split at q1'
  · rename_i d cs
    obtain ⟨F2, _, hh2⟩ := hh1.freezeRT (n := n)
    exact hR v H1 F2 env1 _ hh2 q1'
  · exact q1'.elim⟩
end
end HD
namespace HD
open PySem PyProof.Rows L2
section
variable {G : GG} {N : List Str} {sc : SC} {k : Nat} {x : Str} {py apos cpos : Pos}
def dClear (i : Nat) : DT := fun _ env Q => AtL env[i]? fun a _ => mutD env i a (fun _ q => q .non []) Q
end
end HD
namespace HD
open PySem PySem.Spec PyProof.Rows L2
section
variable {G : GG} {N : List Str} {sc : SC} {k : Nat} {a : Expr} {ta : DT} {p apos cpos pos : Pos}
def dListItems (ta : DT) : DT := fun Ex env Q => ta Ex env fun x env1 => ∃ b kvs, x = dkS b kvs ∧ ∀ a, Q (.lst a (kvs.map fun q => D.tup [kD q.1, q.2])) env1
end
end HD
namespace HD
open PySem PySem.Spec PyProof.Rows L2
section
variable {G : GG} {N : List Str} {sc : SC} {k : Nat} {a : Expr} {ta : DT} {p pos : Pos}
def dLenK (ta : DT) : DT := fun Ex env Q => ta Ex env fun x env1 => cellS env1 x fun _ _ _ _ oc => dkO oc fun kvs => Q (.ext (.int kvs.length)) env1
def dSortKI (ta : DT) : DT := fun Ex env Q => ta Ex env fun x env1 => cellS env1 x fun _ _ _ _ oc => dkO oc fun kvs => ∃ ks : List Int, kvs.map (·.1) = ks.map Sum.inl ∧ ks.length < 64 ∧ ∀ (ys : List Int) (b : Addr), ys.Perm ks → ys.Pairwise (· ≤ ·) → Q (.lst b (ys.map D.int)) env1
end
end HD
namespace HD
open PySem PySem.Spec PyProof.Rows L2
section
variable {G : GG} {N : List Str} {sc : SC} {k : Nat} {a : Expr} {ta : DT} {p pos : Pos} {y : Str} {cs : List Str}
def dInC (neg : Bool) (cs : List Str) (ta : DT) : DT := fun Ex env Q => ta Ex env fun x env1 => wd env1 x fun d => match d with
  | .str z => Q (.ext (.bl (if neg then !decide (z ∈ cs) else decide (z ∈ cs)))) env1
  | _ => False
end
end HD
namespace HD
open PySem PySem.Spec PySem.Calls PyProof.Rows L2
def fMinT : List D → (Sl → Prop) → Prop
  | [.tup ds], Q => ∃ ns : List Int, ds = ns.map D.int ∧ ns ≠ [] ∧ ∀ m, m ∈ ns → (∀ y, y ∈ ns → m ≤ y) → Q (.ext (.int m))
  | _, _ => False
def fMaxT : List D → (Sl → Prop) → Prop
  | [.tup ds], Q => ∃ ns : List Int, ds = ns.map D.int ∧ ns ≠ [] ∧ ∀ m, m ∈ ns → (∀ y, y ∈ ns → y ≤ m) → Q (.ext (.int m))
  | _, _ => False
end HD
namespace HD
open PySem PySem.Spec PyProof.Rows L2
section
variable {G : GG} {N : List Str} {sc : SC} {k : Nat} {a : Expr} {ta : DT} {p pos : Pos}
def dListKT (ta : DT) : DT := fun Ex env Q => ta Ex env fun x env1 => cellS env1 x fun _ _ _ _ oc => dtO' oc fun kvs => ∀ a, Q (.lst a (kvs.map fun q => kT q.1)) env1
end
end HD
namespace HD
open PySem PySem.Spec PyProof.Rows L2
section
variable {G : GG} {N : List Str} {sc : SC} {k : Nat} {a e : Expr} {es : List Expr} {ta : DT} {tA : DTA} {p pos : Pos}
def dListR (ta : DT) : DT := fun Ex env Q => ta Ex env fun x env1 => cellS env1 x fun _ _ _ _ oc => lstO oc fun ds => ∀ a, Q (.lst a ds) env1
def isLR (env : Env') : List Sl → (Sl → Env' → Prop) → Prop
  | [x, .ext (.val (.ty T))], Q => cellS env x fun _ _ _ _ oc => lstO oc fun _ => ∃ b, kitB "list" T = some b ∧ Q (.ext (.bl b)) env
  | _, _ => False
def dIsLR (tA : DTA) : DT := fun Ex env Q => tA Ex env fun xs env1 => isLR env1 xs Q
end
def fIsiT : List D → (Sl → Prop) → Prop
  | [.tup _, .val (.ty T)], Q => ∃ b, kitB "tuple" T = some b ∧ Q (.ext (.bl b))
  | _, _ => False
end HD
namespace LS
namespace K30
open PySem L2 HD PM
open K02 (sp_law_sheet)
local macro_rules | `(tactic| trivial) => `(tactic| try simp -dsimp only [↓sIf, ↓sRet, ↓retD_ext, ↓retD_lst, ↓retD_al, ↓sSet, ↓sSetE, ↓sAsg, ↓sDrop, ↓sNext, ↓sFor, ↓sRetN, ↓sCont, ↓sBreak, ↓dTest, ↓dOp, ↓dVar_w, ↓dC, ↓dCons, ↓dNil, ↓dTup, ↓dLst, ↓frzDs, ↓frzD_ext, ↓frzD_lst, ↓frzD_al, ↓wd_ext, ↓wd_lst, ↓wd_al, ↓wds, ↓AtS_ext, ↓AtS_lst, ↓AtL, ↓fAdd, ↓fSub, ↓fMul, ↓fDiv, ↓fMod, ↓fPow, ↓fCmp, ↓fIn, ↓fEq_ii, ↓fEq_ss, ↓fEq_bb, ↓fEq_tt, ↓fEq_ll, ↓fNe_ii, ↓fNe_ss, ↓fNe_bb, ↓fNe_tt, ↓fNe_ll, ↓fIx_l, ↓fIx_t, ↓fIx_k, ↓fIx_f, ↓GetS_some, ↓NatS_some, ↓fSl, ↓fIsN, ↓fNotN, ↓D.knN, ↓dNot, ↓dAnd, ↓dOr, ↓dAndV_w, ↓dOrV_w, ↓dNotV, ↓dIf, ↓dNeg, ↓dChain_w, ↓BlS_bl, ↓dCall_w, ↓dCallJ_w, ↓anyAl, ↓frozs, ↓froz, ↓gSet, ↓gTupD, ↓gsCons, ↓gsNil, ↓dSeq, ↓seqD_tup, ↓seqD_elst, ↓seqD_lst, ↓seqD_al, ↓dRange1, ↓dRange2, ↓dZip, ↓dCB, ↓dLc, ↓dYes, ↓dNoPart, ↓dPart, ↓dSl, ↓fLen, ↓fMin, ↓fMax, ↓fSum, ↓fAll, ↓fAny, ↓fSorted, ↓fTuple, ↓fList, ↓dRg1, ↓dRg2, ↓dLstRg, ↓dTupRg, ↓dIndex, ↓fIdx, ↓dAppend_w, ↓dExtend_w, ↓extD_lst, ↓dPopAt_w, ↓popD_int, ↓dPop_w, ↓mutD_w, ↓sSetItem_w, ↓setD_int, ↓dSortSet, ↓dTable_w, ↓wipeE, finals1, finals2, finals3, finals4, finals5, finals6, fin1_ext, fin1_lst, List.getElem?_cons_zero, List.getElem?_cons_succ, List.getElem?_nil, List.set_cons_zero, List.set_cons_succ, List.cons_append, List.nil_append, List.append_nil, List.replicate_succ, List.replicate_zero, List.map_cons, List.map_nil, List.length_cons, List.length_nil, true_and, and_true, ite_true, ite_false, if_true, if_false, Bool.false_eq_true, decide_eq_true_eq, Sl.plain, D.isSq, eq_self_iff_true, forall_const, reduceIte, true_or, or_true, atI_0, atI_1, atI_2, atI_3, ixN_0, ixN_1, ixN_2, AtS_ext, AtS_lst, FzS_lst, FzS_ext, GetS_some, NatS_some, ↓fIsi1, ↓fIsi2, BoolS_some, HD.kb_non_tuple, HD.kb_non_list, HD.kb_non_bool, HD.kb_non_int, HD.kb_non_str, HD.kb_bl_tuple, HD.kb_bl_list, HD.kb_bl_bool, HD.kb_bl_int, HD.kb_bl_str, HD.kb_int_tuple, HD.kb_int_list, HD.kb_int_bool, HD.kb_int_int, HD.kb_int_str, HD.kb_str_tuple, HD.kb_str_list, HD.kb_str_bool, HD.kb_str_int, HD.kb_str_str, HD.kb_lst_tuple, HD.kb_lst_list, HD.kb_lst_bool, HD.kb_lst_int, HD.kb_lst_str, HD.kb_tup_tuple, HD.kb_tup_list, HD.kb_tup_bool, HD.kb_tup_int, HD.kb_tup_str, ↓sFz_w, ↓FzS_lst, ↓FzS_ext, ↓dSortSetL, ↓fAbs, ↓fInt, ↓fRepr, ↓fLtT, ↓sRaise, ↓sTryKeep, ↓dCallV_w, ↓dMeth, ↓fCount, ↓fSplit, ↓seq_setE, ↓seq_set, ↓seq_drop, ↓seq_asg, ↓seq_if, ↓seq_for, ↓dStep, ↓fStep, ↓fMulT, ↓fIsB, ↓fNotB, ↓sPar, ↓dEnum, ↓dListZip, ↓dNest, ↓sSeal, ↓dNApp, ↓retD_reg, ↓dLenSet, ↓fSum2, ↓seq_putD, ↓seq_sealD, ↓dDIn, ↓dDGet, ↓sPutD, ↓dDNew, ↓dDOne, ↓sSealD, ↓dKeys, ↓keyS_dk, ↓dExtT, ↓fSortT, ↓fMinP, ↓dRemove, ↓dDInT, ↓dDGetT, ↓sPutDT, ↓dDNewT, ↓sSealDT, ↓dKeysT, ↓keyST_dt, ↓fSortK, ↓seq_putDT, ↓seq_sealDT, ↓dVarR_w, ↓dAttr, ↓dAppR, ↓dExtR_w, ↓dExtTR_w, ↓dClrR, ↓dPopR_w, ↓dIxR_w, ↓dDGetR, ↓dDInR, ↓dGet2R, ↓dPop1R, ↓dPop2R, ↓dDGetTR, ↓dDInTR, ↓dPop1TR, ↓dCallM, ↓dMethO, ↓dMake, ↓dMoveR, ↓dPtr, ↓sAttr, ↓sSetR, ↓sPutR, ↓sPutTR, ↓sSetA_w, ↓sSetG_w, ↓seq_setG, ↓seq_setA, ↓seq_attr, ↓seq_setR, ↓seq_putR, ↓seq_putTR, ↓RegS_reg, ↓CellS_some, ↓RefS_reg, ↓RefS_ar, ↓cellS_ar, ↓wd_ar, ↓seqD_ar, ↓lstO_lst, ↓insO_ins, ↓dkO_dk, ↓dkO_lk, ↓dtO_dt, ↓dtO_lk, ↓dkW_dk, ↓dtW_dt, ↓stoS_ext, ↓stoS_reg, ↓stoS_lstT, ↓stoS_lstF, ↓stoS_al, ↓ptrD_ref, ↓ptrD_int, ↓ptrD_str, ↓ptrD_bl, ↓ptrD_non, ↓ptrD_tup, ↓ptrD_tk, ↓ptrD_lst, ↓ptrD_fz, ↓setGS_lst, ↓setGS_reg, ↓setAS_ar, ↓setAS_ext, ↓intS_int, ↓tupS_tup, ↓lstS_lst, ↓lstK, ↓dkK, ↓dtK, ↓retD_reg, ↓dSortSetB, ↓fSortD, ↓dCallD, ↓regC_reg, ↓dMoveL, ↓dMoveR_w, ↓dDictP, ↓froz_lst, ↓froz_ext, ↓dUpdTR, ↓dUpdKR, ↓dDictZipK, ↓dDictC, ↓dClear, ↓fStr, ↓dListItems, ↓dLenK, ↓dSortKI, ↓dInC, ↓fMinT, ↓fMaxT, ↓dListKT, ↓dLcR, ↓dSumL, ↓sFzR, ↓dVarG, ↓dAsP, ↓asP_ref, ↓dTupM, ↓regsOf, ↓regOf, ↓dFrzT, ↓frzT_reg, ↓dListR, ↓dIsLR, ↓isLR, ↓fIsiT])
local macro_rules | `(tactic| and_intros) => `(tactic| try simp -dsimp only [↓sIf, ↓sRet, ↓retD_ext, ↓retD_lst, ↓retD_al, ↓sSet, ↓sSetE, ↓sAsg, ↓sDrop, ↓sNext, ↓sFor, ↓sRetN, ↓sCont, ↓sBreak, ↓dTest, ↓dOp, ↓dC, ↓dCons, ↓dNil, ↓dTup, ↓dLst, ↓frzDs, ↓frzD_ext, ↓frzD_lst, ↓frzD_al, ↓wd_ext, ↓wd_lst, ↓wd_al, ↓wds, ↓AtS_ext, ↓AtS_lst, ↓AtL, ↓fAdd, ↓fSub, ↓fMul, ↓fDiv, ↓fMod, ↓fPow, ↓fCmp, ↓fIn, ↓fEq_ii, ↓fEq_ss, ↓fEq_bb, ↓fEq_tt, ↓fEq_ll, ↓fNe_ii, ↓fNe_ss, ↓fNe_bb, ↓fNe_tt, ↓fNe_ll, ↓fIx_l, ↓fIx_t, ↓fIx_k, ↓fIx_f, ↓GetS_some, ↓NatS_some, ↓fSl, ↓fIsN, ↓fNotN, ↓D.knN, ↓dNot, ↓dAnd, ↓dOr, ↓dAndV_w, ↓dOrV_w, ↓dNotV, ↓dIf, ↓dNeg, ↓dChain_w, ↓BlS_bl, ↓dCall_w, ↓dCallJ_w, ↓anyAl, ↓frozs, ↓froz, ↓gSet, ↓gTupD, ↓gsCons, ↓gsNil, ↓dSeq, ↓seqD_tup, ↓seqD_elst, ↓seqD_lst, ↓seqD_al, ↓dRange1, ↓dRange2, ↓dZip, ↓dCB, ↓dLc, ↓dYes, ↓dNoPart, ↓dPart, ↓dSl, ↓fLen, ↓fMin, ↓fMax, ↓fSum, ↓fAll, ↓fAny, ↓fSorted, ↓fTuple, ↓fList, ↓dRg1, ↓dRg2, ↓dLstRg, ↓dTupRg, ↓dIndex, ↓fIdx, ↓dAppend_w, ↓dExtend_w, ↓extD_lst, ↓dPopAt_w, ↓popD_int, ↓dPop_w, ↓mutD_w, ↓sSetItem_w, ↓setD_int, ↓dSortSet, ↓dTable_w, ↓wipeE, finals1, finals2, finals3, finals4, finals5, finals6, fin1_ext, fin1_lst, List.getElem?_cons_zero, List.getElem?_cons_succ, List.getElem?_nil, List.set_cons_zero, List.set_cons_succ, List.cons_append, List.nil_append, List.append_nil, List.replicate_succ, List.replicate_zero, List.map_cons, List.map_nil, List.length_cons, List.length_nil, true_and, and_true, ite_true, ite_false, if_true, if_false, Bool.false_eq_true, decide_eq_true_eq, Sl.plain, D.isSq, eq_self_iff_true, forall_const, reduceIte, true_or, or_true, atI_0, atI_1, atI_2, atI_3, ixN_0, ixN_1, ixN_2, AtS_ext, AtS_lst, FzS_lst, FzS_ext, GetS_some, NatS_some, ↓fIsi1, ↓fIsi2, BoolS_some, HD.kb_non_tuple, HD.kb_non_list, HD.kb_non_bool, HD.kb_non_int, HD.kb_non_str, HD.kb_bl_tuple, HD.kb_bl_list, HD.kb_bl_bool, HD.kb_bl_int, HD.kb_bl_str, HD.kb_int_tuple, HD.kb_int_list, HD.kb_int_bool, HD.kb_int_int, HD.kb_int_str, HD.kb_str_tuple, HD.kb_str_list, HD.kb_str_bool, HD.kb_str_int, HD.kb_str_str, HD.kb_lst_tuple, HD.kb_lst_list, HD.kb_lst_bool, HD.kb_lst_int, HD.kb_lst_str, HD.kb_tup_tuple, HD.kb_tup_list, HD.kb_tup_bool, HD.kb_tup_int, HD.kb_tup_str, ↓sFz_w, ↓FzS_lst, ↓FzS_ext, ↓dSortSetL, ↓fAbs, ↓fInt, ↓fRepr, ↓fLtT, ↓sRaise, ↓sTryKeep, ↓dCallV_w, ↓dMeth, ↓fCount, ↓fSplit, ↓seq_setE, ↓seq_set, ↓seq_drop, ↓seq_asg, ↓seq_if, ↓seq_for, ↓dStep, ↓fStep, ↓fMulT, ↓fIsB, ↓fNotB, ↓sPar, ↓dEnum, ↓dListZip, ↓dNest, ↓sSeal, ↓dNApp, ↓retD_reg, ↓dLenSet, ↓fSum2, ↓seq_putD, ↓seq_sealD, ↓dDIn, ↓dDGet, ↓sPutD, ↓dDNew, ↓dDOne, ↓sSealD, ↓dKeys, ↓keyS_dk, ↓dExtT, ↓fSortT, ↓fMinP, ↓dRemove, ↓dDInT, ↓dDGetT, ↓sPutDT, ↓dDNewT, ↓sSealDT, ↓dKeysT, ↓keyST_dt, ↓fSortK, ↓seq_putDT, ↓seq_sealDT, ↓dVarR_w, ↓dAttr, ↓dAppR, ↓dExtR_w, ↓dExtTR_w, ↓dClrR, ↓dPopR_w, ↓dIxR_w, ↓dDGetR, ↓dDInR, ↓dGet2R, ↓dPop1R, ↓dPop2R, ↓dDGetTR, ↓dDInTR, ↓dPop1TR, ↓dCallM, ↓dMethO, ↓dMake, ↓dMoveR, ↓dPtr, ↓sAttr, ↓sSetR, ↓sPutR, ↓sPutTR, ↓sSetA_w, ↓sSetG_w, ↓seq_setG, ↓seq_setA, ↓seq_attr, ↓seq_setR, ↓seq_putR, ↓seq_putTR, ↓RegS_reg, ↓CellS_some, ↓RefS_reg, ↓RefS_ar, ↓cellS_ar, ↓wd_ar, ↓seqD_ar, ↓lstO_lst, ↓insO_ins, ↓dkO_dk, ↓dkO_lk, ↓dtO_dt, ↓dtO_lk, ↓dkW_dk, ↓dtW_dt, ↓stoS_ext, ↓stoS_reg, ↓stoS_lstT, ↓stoS_lstF, ↓stoS_al, ↓ptrD_ref, ↓ptrD_int, ↓ptrD_str, ↓ptrD_bl, ↓ptrD_non, ↓ptrD_tup, ↓ptrD_tk, ↓ptrD_lst, ↓ptrD_fz, ↓setGS_lst, ↓setGS_reg, ↓setAS_ar, ↓setAS_ext, ↓intS_int, ↓tupS_tup, ↓lstS_lst, ↓lstK, ↓dkK, ↓dtK, ↓retD_reg, ↓dSortSetB, ↓fSortD, ↓dCallD, ↓regC_reg, ↓dMoveL, ↓dMoveR_w, ↓dDictP, ↓froz_lst, ↓froz_ext, ↓dUpdTR, ↓dUpdKR, ↓dDictZipK, ↓dDictC, ↓dClear, ↓fStr, ↓dListItems, ↓dLenK, ↓dSortKI, ↓dInC, ↓fMinT, ↓fMaxT, ↓dListKT, ↓dLcR, ↓dSumL, ↓sFzR, ↓dVarG, ↓dAsP, ↓asP_ref, ↓dTupM, ↓regsOf, ↓regOf, ↓dFrzT, ↓frzT_reg, ↓dListR, ↓dIsLR, ↓isLR, ↓fIsiT, ↓dv0, ↓dw0, ↓dv1, ↓dw1, ↓dv2, ↓dw2, ↓dv3, ↓dw3, ↓dv4, ↓dw4, ↓dv5, ↓dw5, ↓dv6, ↓dw6, ↓dv7, ↓dw7, ↓dv8, ↓dw8, ↓dv9, ↓dw9, ↓dv10, ↓dw10, ↓dv11, ↓dw11, ↓dv12, ↓dw12, ↓dv13, ↓dw13, ↓dv14, ↓dw14, ↓dv15, ↓dw15, ↓dv16, ↓dw16, ↓dv17, ↓dw17, ↓dv18, ↓dw18, ↓dv19, ↓dw19])
def sp_taken_out : DSpec := fun args Q X => ∃ (w : Wd) (S : List Nat) (ps : List Part) (d : D) (k B : Nat), args = [dW w, .ext (dSh S ps), .ext d] ∧ SzOk S ∧ (∀ p ∈ ps, p.Ok S) ∧ ps.length ≤ 1000 ∧ BdS B ps ∧ B ≤ 100000 ∧ D.pl k d = true ∧ ShortT d ∧
  (∀ o : List Nat, d = .tup (nD o) → o.Nodup → (∀ m ∈ o, m < S.length) → ∀ a b fin, a ≠ b → Q (.reg (.tup [.val (.ref a), .val (.ref b)]) [(a, .lst ((takes w S ps o).map dP)), (b, .lst (fD (takeB w S ps o)))]) fin) ∧ (¬ OrderD S.length d → ∀ fin, X "NoName" fin)
def e1_taken_out : DT :=
    (dVar 9)
def e2_taken_out : DT :=
    (dVar 9)
def b3_taken_out : DTS :=
    (sSeq (sSetE 8 (dCall sp_widened (dCons (dVar 3) (dCons (dCall sp_all_joined (dCons (dVar 0) (dCons (dVar 3) (dCons (dLc (dSeq (dVar 5)) (gSet 9) (dTest (dOp (fIn false) (dVar 7) (dOp fIx (dVar 9) (dC (.int 0))))) e1_taken_out [9]) dNil)))) (dCons (dTup (dCons (dVar 7) dNil)) dNil)))))
    (sSeq (sDrop (dAppend 6 (dOp fIx (dVar 8) (dC (.int 0)))))
    (sSet 5 (dOp fAdd (dLc (dSeq (dVar 5)) (gSet 9) (dTest (dOp (fIn true) (dVar 7) (dOp fIx (dVar 9) (dC (.int 0))))) e2_taken_out [9]) (dLst (dCons (dCall sp_gathered (dCons (dVar 0) (dCons (dVar 3) (dCons (dVar 8) (dCons (dVar 7) dNil))))) dNil))))))
def k4_taken_out : DTS :=
    (sRet (dTupM (dCons (dMoveL 5) (dCons (dMoveL 6) dNil))))
def t_taken_out : DTS :=
    (sSeq (sAsg (dVar 1) (gTupD 2 (gsCons (gSet 3) (gsCons (gSet 4) gsNil))))
    (sSeq (sDrop (dCall sp_need_order (dCons (dCB fLen (dCons (dVar 3) dNil)) (dCons (dVar 2) dNil))))
    (sSeq (sSet 5 (dCB fList (dCons (dVar 4) dNil)))
    (sSeq (sSet 6 (dLst dNil))
    (sSeq (sFor (dSeq (dVar 2)) (gSet 7) b3_taken_out)
    k4_taken_out)))))
theorem m_taken_out : Meets t_taken_out 3 7 sp_taken_out := by
  rintro args Qd Xd ⟨w, S, ps, d, k, B, rfl, hS, hok, hpl, hB, hB1, hk, hsh, hQ, hX⟩
  show t_taken_out _ _ [_, _, _, .un, .un, .un, .un, .un, .un, .un]
  unfold t_taken_out
  and_intros
  rw [nD_len]
  refine ⟨_, d, k, rfl, hk, hsh, fun hn fin => ?_, fun hn fin => hX hn _⟩
  obtain ⟨o, rfl, nd, hl⟩ := hn
  have hl : ∀ m ∈ o, m < S.length := fun m hm => by have := hl m hm; omega
  have h24 := hS.few
  have hol := nodup_le nd hl
  trivial
  intro a50
  refine ⟨Nat.zero_le _, fun a6 => ?_⟩
  refine for_ind (fun x : Nat => D.int (x : Nat)) (fun xs env => ∃ (pre : List Nat) (a5 : Addr) (u7 u8 : Sl), env = [dW w, .ext (dSh S ps), .ext (.tup (nD o)), dSz S, .ext (dPs ps), .lst a5 ((takes w S ps pre).map dP), .lst a6 (fD (takeB w S ps pre)), u7, u8, .un] ∧ o = pre ++ xs) ?_ ?_ o _ ⟨[], _, _, _, rfl, rfl⟩
  · rintro env ⟨pre, a5, u7, u8, rfl, e⟩
    rw [List.append_nil] at e
    subst e
    refine ⟨True.intro, ?_⟩
    unfold k4_taken_out
    and_intros
    exact ⟨by decide, _, _, rfl, fun nd2 => hQ o rfl nd hl a5 a6 _ fun e => by rw [e] at nd2; exact (List.nodup_cons.1 nd2).1 List.mem_cons_self⟩
  rintro x xs env N ⟨pre, a5, u7, u8, rfl, e⟩ hN
  have hx : x < S.length := hl x (by rw [e]; simp)
  have hpre : ∀ m ∈ pre, m < S.length := fun m hm => hl m (by rw [e]; exact List.mem_append_left _ hm)
  have hlen := congrArg List.length e
  rw [List.length_append, List.length_cons] at hlen
  have hLok := takes_ok (w := w) hok hpre
  have hLlen := takes_len (w := w) (S := S) (o := pre) (ps := ps)
  have hLbd := takes_bd (w := w) hS.small hok hpre hB
  have hBl := takeB_len (w := w) (S := S) (o := pre) (ps := ps)
  have hnx : takes w S ps (pre ++ [x]) = takeL w S (takes w S ps pre) x := takes_snoc ..
  have hnb : takeB w S ps (pre ++ [x]) = takeB w S ps pre ++ [(takeW w S (takes w S ps pre) x).ns] := takeB_snoc ..
  have goN : ∀ a5 u7 u8, N [dW w, .ext (dSh S ps), .ext (.tup (nD o)), dSz S, .ext (dPs ps), .lst a5 ((takes w S ps (pre ++ [x])).map dP), .lst a6 (fD (takeB w S ps (pre ++ [x]))), u7, u8, .un] := fun a5 u7 u8 => hN _ ⟨pre ++ [x], a5, u7, u8, rfl, by rw [e]; simp⟩
  rw [hnx, hnb] at goN
  clear hN hnx hnb
  generalize takes w S ps pre = L at hLok hLlen hLbd goN ⊢
  generalize takeB w S ps pre = Bs at hBl goN ⊢
  refine ⟨True.intro, ?_⟩
  unfold b3_taken_out
  and_intros
  refine lc_filter dP dP (hasP x) (by rfl) L (Nat.le_trans (by omega : _ ≤ 2000) (by decide)) (fun p hp R hR => ?_) fun b => ?_
  · unfold e1_taken_out
    trivial
    rw [isIn_nat]
    exact ⟨rfl, flat_nD _, R_if rfl hR⟩
  trivial
  obtain ⟨C, E, hC, hE, hCE⟩ := hLbd.part (hasP x)
  refine ⟨w, S, L.filter (hasP x), C, rfl, hS, filt_ok hLok _, hC, by omega, fun fin => ?_⟩
  trivial
  have hU := takeW_uni (w := w) hLok hx
  refine ⟨by decide, .inl ⟨S, joinA w S (L.filter (hasP x)), [x], rfl, hS, joinA_ok (filt_ok hLok _), by simp [Rising], fun n hn => by rw [List.mem_singleton.1 hn]; exact hx, fun U fin hU' => ?_⟩⟩
  have eU := hU'.eq hU
  subst eU
  trivial
  have hfB : (fD Bs).length = Bs.length := List.length_map _
  refine ⟨Nat.lt_of_lt_of_le (by omega : (fD Bs).length < 100) (by decide), ?_⟩
  refine lc_filter dP dP (fun p => !hasP x p) (by rfl) L (Nat.le_trans (by omega : _ ≤ 2000) (by decide)) (fun p hp R hR => ?_) fun b => ?_
  · unfold e2_taken_out
    trivial
    rw [isIn_nat]
    exact ⟨rfl, flat_nD _, R_if rfl hR⟩
  trivial
  have hW := takeW_ok (w := w) hLok hx
  refine .inl ⟨w, S, takeW w S L x, x, rfl, hS, hW, (hU.2 x).2 (.inr (List.mem_singleton.2 rfl)), fun fin => ?_⟩
  trivial
  have hfl := List.length_filter_le (fun p => !hasP x p) L
  refine ⟨by decide, by rw [List.length_map]; exact Nat.le_trans (by omega : _ ≤ 2000) (by decide), ?_⟩
  intro a51
  have := goN a51 (.ext (D.int (x : Nat))) (.ext (dP (takeW w S L x)))
  unfold takeL at this
  rw [List.map_append, fD, List.map_append] at this
  exact this
def sp_law_made : DSpec := fun args Q _ => ∃ (w : Wd) (S : List Nat) (ps : List Part) (x B : Nat), args = [dW w, dSz S, .ext (.lst (ps.map dP)), dI (x : Nat)] ∧ SzOk S ∧ (∀ p ∈ ps, p.Ok S ∧ hasP x p = true) ∧ ps.length ≤ 60 ∧ (ps.flatMap fun p => p.ns).length ≤ 60 ∧ BdS B ps ∧ B ≤ 400000 ∧ x < S.length ∧ ∀ fin, Q (.ext (.tup [.tup (nD (takeW w S ps x).ns), dP (gathP S w (takeW w S ps x) x)])) fin
def b1_law_made : DTS :=
    (sSetE 4 (dOp fAdd (dVar 4) (dOp fIx (dVar 5) (dC (.int 0)))))
def b2_law_made : DTS :=
    (sSetItem 8 (dVar 9) (dVar 10))
def b3_law_made : DTS :=
    (sSetE 11 (dCall sp_law_join (dCons (dVar 0) (dCons (dVar 11) (dCons (dCall sp_law_look (dCons (dVar 1) (dCons (dVar 5) (dCons (dVar 8) dNil)))) dNil)))))
def e4_law_made : DT :=
    (dVar 10)
def k5_law_made : DTS :=
    (sSeq (sSetE 12 (dCB fTuple (dCons (dLc (dZip (dVar 4) (dVar 7)) (gTupD 2 (gsCons (gSet 9) (gsCons (gSet 10) gsNil))) (dTest (dOp fNe (dVar 9) (dVar 3))) e4_law_made [9, 10]) dNil)))
    (sPutDT 6 (dVar 12) (dIf (dTest (dDInT true 6 (dVar 12))) (dVar 11) (dCall sp_law_gather (dCons (dVar 0) (dCons (dLst (dCons (dDGetT 6 (dVar 12)) (dCons (dVar 11) dNil))) dNil))))))
def k6_law_made : DTS :=
    (sSeq (sSetE 11 (dCall sp_law_nothing (dCons (dVar 0) dNil)))
    (sSeq (sFor (dSeq (dVar 2)) (gSet 5) b3_law_made)
    k5_law_made))
def b7_law_made : DTS :=
    (sSeq (sSet 8 (dOp fMul (dLst (dCons (dC (.int 0)) dNil)) (dCB fLen (dCons (dVar 1) dNil))))
    (sSeq (sFor (dZip (dVar 4) (dVar 7)) (gTupD 2 (gsCons (gSet 9) (gsCons (gSet 10) gsNil))) b2_law_made)
    k6_law_made))
def e8_law_made : DT :=
    (dVar 9)
def e9_law_made : DT :=
    (dDGetT 6 (dVar 12))
def k10_law_made : DTS :=
    (sSeq (sSetE 13 (dCB fTuple (dCons (dLc (dSeq (dVar 4)) (gSet 9) (dTest (dOp fNe (dVar 9) (dVar 3))) e8_law_made [9]) dNil)))
    (sSealDT 6 (sRet (dTup (dCons (dVar 4) (dCons (dTup (dCons (dVar 13) (dCons (dCB fTuple (dCons (dLc (dSeq (dCB fSortK (dCons (dVar 6) dNil))) (gSet 12) dYes e9_law_made [12]) dNil)) dNil))) dNil))))))
def k11_law_made : DTS :=
    (sSeq (sSetE 4 (dCB fTuple (dCons (dSortSet (dVar 4)) dNil)))
    (sSeq (sSet 6 dDNewT)
    (sSeq (sFor (dSeq (dCall sp_law_fillings (dCons (dVar 1) (dCons (dVar 4) dNil)))) (gSet 7) b7_law_made)
    k10_law_made)))
def t_law_made : DTS :=
    (sSeq (sSetE 4 (dTup (dCons (dVar 3) dNil)))
    (sSeq (sFor (dSeq (dVar 2)) (gSet 5) b1_law_made)
    k11_law_made))
def wkK (w : Wd) (ns : List Nat) (x : Nat) (F : List Nat → Int) (gs l : List (List Nat)) : List (List Int × D) := gs.map fun g => (cI g, D.int (gt w (foundsOf ns x F l g)))
theorem wkK_lu {w : Wd} {ns : List Nat} {x : Nat} {F : List Nat → Int} {l : List (List Nat)} (g : List Nat) : ∀ gs : List (List Nat), luK (wkK w ns x F gs l) (cI g) = if g ∈ gs then some (D.int (gt w (foundsOf ns x F l g))) else none
  | [] => rfl
  | y :: gs => by
    show luK ((cI y, _) :: wkK w ns x F gs l) (cI g) = _
    rw [luK_cons, wkK_lu g gs]
    by_cases e : y = g
    · subst e
      rw [if_pos rfl, if_pos List.mem_cons_self]
    · rw [if_neg (fun z => e (K20.cI_inj z))]
      have : g ∈ y :: gs ↔ g ∈ gs := by rw [List.mem_cons]; exact ⟨fun h => h.resolve_left fun z => e z.symm, .inr⟩
      simp only [this]
theorem wkK_put {w : Wd} {ns : List Nat} {x : Nat} {F : List Nat → Int} {l : List (List Nat)} {f : List Nat} {gs : List (List Nat)} (hg : ∀ g, g ∈ gs ↔ ∃ f ∈ l, wof ns x f = g) :
    ptK (wkK w ns x F gs l) (cI (wof ns x f)) (.int (if wof ns x f ∈ gs then gt w [gt w (foundsOf ns x F l (wof ns x f)), F f] else F f)) = wkK w ns x F (if wof ns x f ∈ gs then gs else gs ++ [wof ns x f]) (l ++ [f]) := by
  by_cases h : wof ns x f ∈ gs
  · rw [if_pos h, if_pos h]
    unfold ptK
    rw [any_keys, wkK_lu, if_pos h]
    show (wkK w ns x F gs l).map _ = _
    unfold wkK
    rw [List.map_map]
    refine List.map_congr_left fun g hgm => ?_
    show (if cI g = cI (wof ns x f) then _ else _) = _
    by_cases e : g = wof ns x f
    · subst e
      rw [if_pos rfl, founds_snoc, if_pos rfl]
      obtain ⟨f', hf', ef⟩ := (hg _).1 h
      have hne : foundsOf ns x F l (wof ns x f) ≠ [] := fun z => by
        have : F f' ∈ foundsOf ns x F l (wof ns x f) := List.mem_map.2 ⟨f', List.mem_filter.2 ⟨hf', decide_eq_true ef⟩, rfl⟩
        rw [z] at this
        simp at this
      have e2 : gt w (foundsOf ns x F l (wof ns x f) ++ [F f]) = gt w [gt w (foundsOf ns x F l (wof ns x f)), F f] := by
        rw [show gt w (foundsOf ns x F l (wof ns x f) ++ [F f]) = _ from fold1_app (gop_ca w) hne (by simp)]
        rfl
      rw [e2]
    · rw [if_neg (fun z => e (K20.cI_inj z)), founds_snoc, if_neg (fun z => e z.symm), List.append_nil]
  · rw [if_neg h, if_neg h, ptK_new (by rw [wkK_lu, if_neg h])]
    unfold wkK
    rw [List.map_append]
    congr 1
    · refine List.map_congr_left fun g hgm => ?_
      rw [founds_snoc, if_neg (fun z => h (by rw [z]; exact hgm)), List.append_nil]
    · show [(cI (wof ns x f), D.int (F f))] = [(cI (wof ns x f), D.int (gt w (foundsOf ns x F (l ++ [f]) (wof ns x f))))]
      have e0 : foundsOf ns x F l (wof ns x f) = [] := by
        unfold foundsOf
        rw [List.map_eq_nil_iff, List.filter_eq_nil_iff]
        intro f' hf' z
        exact h ((hg _).2 ⟨f', hf', of_decide_eq_true z⟩)
      rw [founds_snoc, if_pos rfl, e0]
      rfl
theorem made_val {w : Wd} {S : List Nat} {ps : List Part} {x : Nat} (hok : ∀ p ∈ ps, p.Ok S ∧ hasP x p = true) (hx : x < S.length) {f : List Nat} {g : Nat → Nat} (hg : ∀ n, n < S.length → g n < sz S n) (ha : ∀ m ∈ (takeW w S ps x).ns, g m = ats (takeW w S ps x).ns f m) : val S (takeW w S ps x) (ats (takeW w S ps x).ns f) = jAll w S ps g := by
  have hok1 : ∀ p ∈ ps, p.Ok S := fun p hp => (hok p hp).1
  rw [← val_congr ha]
  have hU := takeW_uni (w := w) hok1 hx
  have hW := takeW_ok (w := w) hok1 hx
  have e : ps.filter (hasP x) = ps := List.filter_eq_self.2 fun p hp => (hok p hp).2
  have h1 : val S (takeW w S ps x) g = val S (joinA w S (ps.filter (hasP x))) g := val_widP (fun m hm => (hU.2 m).2 (.inl hm)) fun n hn => hg n (hW.lt n hn)
  rw [h1, e]
  exact joinA_val hok1 hg
theorem wof_mem {S : List Nat} {x : Nat} : ∀ {ns f : List Nat}, f ∈ fills S ns → wof ns x f ∈ fills S (wo ns x) := by
  have key : ∀ {ns f : List Nat}, Good S ns f → Good S (wo ns x) (wof ns x f) := by
    intro ns
    induction ns with
    | nil => intro f h; rw [show f = [] from h]; rfl
    | cons n ns ih =>
      rintro f ⟨w, r, rfl, hw, hr⟩
      by_cases e : n = x
      · have e1 : wo (n :: ns) x = wo ns x := by
          unfold wo
          rw [List.filter_cons, if_neg (by simp [e])]
        have e2 : wof (n :: ns) x (w :: r) = wof ns x r := by
          show (((n, w) :: ns.zip r).filter fun p => decide (p.1 ≠ x)).map (·.2) = _
          rw [List.filter_cons, if_neg (by simp [e])]
          rfl
        rw [e1, e2]
        exact ih hr
      · have e1 : wo (n :: ns) x = n :: wo ns x := by
          unfold wo
          rw [List.filter_cons, if_pos (decide_eq_true e)]
        have e2 : wof (n :: ns) x (w :: r) = w :: wof ns x r := by
          show (((n, w) :: ns.zip r).filter fun p => decide (p.1 ≠ x)).map (·.2) = _
          rw [List.filter_cons, if_pos (decide_eq_true e)]
          rfl
        rw [e1, e2]
        exact ⟨w, _, rfl, hw, ih hr⟩
  intro ns f h
  exact mem_fills.2 (key (mem_fills.1 h))
theorem wof_onto {S ns : List Nat} {x : Nat} (hx : x ∈ ns) (nd : ns.Nodup) (hz : 0 < sz S x) {k : List Nat} (hk : k ∈ fills S (wo ns x)) : ∃ f ∈ fills S ns, wof ns x f = k := by
  have h1 : insA ns x 0 k ∈ (List.range (sz S x)).map fun v => insA ns x v k := List.mem_map.2 ⟨0, List.mem_range.2 hz, rfl⟩
  rw [← fills_wof hx nd hk] at h1
  obtain ⟨h2, h3⟩ := List.mem_filter.1 h1
  exact ⟨_, h2, of_decide_eq_true h3⟩
theorem m_law_made : Meets t_law_made 4 10 sp_law_made := by
  rintro args Qd Xd ⟨w, S, ps, x, B, rfl, hS, hok, hpl, hps, hB, hB1, hx, hQ⟩
  show t_law_made _ _ [_, _, _, _, .un, .un, .un, .un, .un, .un, .un, .un, .un, .un]
  unfold t_law_made
  and_intros
  refine ⟨by decide, ?_⟩
  refine for_ind dP (fun qs env => ∃ (u5 : Sl) (bag : List Nat) (pre : List Part), env = [dW w, dSz S, .ext (.lst (ps.map dP)), dI (x : Nat), .ext (.tup (nD bag)), u5, .un, .un, .un, .un, .un, .un, .un, .un] ∧ ps = pre ++ qs ∧ bag = x :: pre.flatMap fun p => p.ns) ?_ ?_ ps _ ⟨_, [x], [], rfl, rfl, rfl⟩
  · rintro env ⟨u5, bag, pre, rfl, he, hb⟩
    rw [List.append_nil] at he
    subst he
    refine ⟨True.intro, ?_⟩
    unfold k11_law_made
    and_intros
    have hbl : bag.length ≤ 61 := by rw [hb, List.length_cons]; omega
    refine ⟨bag.map fun n : Nat => (n : Int), by rw [nD, List.map_map]; rfl, by rw [List.length_map]; omega, fun ns' hs hm a6 => ?_⟩
    obtain ⟨C, rfl, hr, hC⟩ := nat_of_set hs hm
    have hok1 : ∀ p ∈ ps, p.Ok S := fun p hp => (hok p hp).1
    have hW := takeW_ok (w := w) hok1 hx
    have eC : C = (takeW w S ps x).ns := rising_ext hr hW.rise fun n => by
      rw [hC, takeW_mem hok1 hx, hb, List.mem_cons, List.mem_flatMap]
      exact or_congr Iff.rfl ⟨fun ⟨p, h1, h2⟩ => ⟨p, h1, of_decide_eq_true (hok p h1).2, h2⟩, fun ⟨p, h1, _, h2⟩ => ⟨p, h1, h2⟩⟩
    subst eC
    have hxW : x ∈ (takeW w S ps x).ns := (takeW_mem hok1 hx x).2 (.inl rfl)
    have hmv : ∀ {f : List Nat} {g : Nat → Nat}, (∀ n, n < S.length → g n < sz S n) → (∀ m ∈ (takeW w S ps x).ns, g m = ats (takeW w S ps x).ns f m) → val S (takeW w S ps x) (ats (takeW w S ps x).ns f) = jAll w S ps g := fun hg ha => made_val hok hx hg ha
    have hQ : ∀ fin, Qd (.ext (.tup [.tup (nD (takeW w S ps x).ns), dP (gathP S w (takeW w S ps x) x)])) fin := hQ
    generalize takeW w S ps x = W at hW hxW hmv hQ ⊢
    have eN : List.map D.int (List.map (fun n : Nat => (n : Int)) W.ns) = nD W.ns := by rw [nD, List.map_map]; rfl
    rw [eN]
    have hlW : W.ns.length ≤ 24 := ok_len hS hW
    have h24 := hS.few
    refine ⟨S, W.ns, fArgs_tt, Part.Ok.both hS hW, Part.Ok.psz hS hW, by omega, fun fin => ?_⟩
    and_intros
    refine for_ind (fun f : List Nat => D.tup (nD f)) (fun fs env => ∃ (u5 u7 u8 u9 u10 u11 u12 : Sl) (pre gs : List (List Nat)), env = [dW w, dSz S, .ext (.lst (ps.map dP)), dI (x : Nat), .ext (.tup (nD W.ns)), u5, dtS a6 (wkK w W.ns x (fun f => val S W (ats W.ns f)) gs pre), u7, u8, u9, u10, u11, u12, .un] ∧ fills S W.ns = pre ++ fs ∧ gs.Nodup ∧ gs.length ≤ pre.length ∧ ∀ g, g ∈ gs ↔ ∃ f ∈ pre, wof W.ns x f = g) ?_ ?_ (fills S W.ns) _ ⟨_, _, _, _, _, _, _, [], [], rfl, rfl, List.nodup_nil, Nat.le_refl _, fun g => by simp⟩
    · rintro env ⟨u5, u7, u8, u9, u10, u11, u12, pre, gs, rfl, hf, nd, hgl, hgs⟩
      rw [List.append_nil] at hf
      subst hf
      refine ⟨True.intro, ?_⟩
      unfold k10_law_made
      and_intros
      refine lc_filter (fun m : Nat => D.int (m : Int)) (fun m : Nat => D.int (m : Int)) (fun m => decide (m ≠ x)) True.intro W.ns (Nat.le_trans hlW (by decide)) (fun m hm R hR => ?_) fun a => ?_
      · unfold e8_law_made
        trivial
        exact R_if (by by_cases e : m = x <;> simp [e]; omega) hR
      and_intros
      have hnd : W.ns.Nodup := hW.rise.nd
      have hperm : gs.Perm (fills S (wo W.ns x)) := (List.perm_ext_iff_of_nodup nd (fills_nd S _)).2 fun g => by
        rw [hgs]
        exact ⟨fun ⟨f, h1, h2⟩ => by rw [← h2]; exact wof_mem h1, fun h => wof_onto hxW hnd (hS.pos _ (sz_mem hx)) h⟩
      have ek : (wkK w W.ns x (fun f => val S W (ats W.ns f)) gs (fills S W.ns)).map (fun x => x.1) = gs.map cI := by
        unfold wkK
        rw [List.map_map]
        rfl
      refine ⟨a6, _, rfl, ?_, fun ks hpk hsk => ?_⟩
      · rw [ek]
        cases hw0 : wo W.ns x with
        | nil =>
          left
          rw [List.length_map, hperm.length_eq, hw0]
          exact Nat.le_refl _
        | cons n ns =>
          right
          intro k hk z
          obtain ⟨g, hgm, rfl⟩ := List.mem_map.1 hk
          have := (mem_fills.1 (hperm.mem_iff.1 hgm)).len
          rw [List.map_eq_nil_iff] at z
          rw [z, hw0] at this
          simp at this
      rw [ek] at hpk
      have eks := K20.sorted_fills (hpk.trans (hperm.map cI)) hsk
      subst eks
      rw [List.map_map]
      have hlen : (fills S (wo W.ns x)).length ≤ 5000 := by
        rw [len_fills]
        have := wo_psz (n := x) hS hW
        omega
      refine lc_map (kT ∘ cI) (fun g => .int (gt w (foundsOf W.ns x (fun f => val S W (ats W.ns f)) (fills S W.ns) g))) True.intro (fills S (wo W.ns x)) (Nat.le_trans hlen (by decide)) (fun g hg' R hR => ?_) fun b => ?_
      · unfold e9_law_made
        and_intros
        refine ⟨⟨_, .inr rfl⟩, cI g, wkK w W.ns x (fun f => val S W (ats W.ns f)) gs (fills S W.ns), _, rfl, .inr rfl, by rw [wkK_lu, if_pos (hperm.mem_iff.2 hg')], ?_⟩
        and_intros
        exact hR
      and_intros
      refine ⟨by decide, by decide, ?_⟩
      have := hQ [dW w, dSz S, .ext (.lst (ps.map dP)), dI (x : Nat)]
      have ed : dP (gathP S w W x) = D.tup [D.tup ((W.ns.filter fun m => decide (m ≠ x)).map fun m : Nat => D.int (m : Nat)), D.tup ((fills S (wo W.ns x)).map fun g => D.int (gt w (foundsOf W.ns x (fun f => val S W (ats W.ns f)) (fills S W.ns) g)))] := by
        rw [gath_founds (w := w) (F := fun f => val S W (ats W.ns f)) hW hxW fun f _ => rfl]
        show D.tup [D.tup (nD (wo W.ns x)), D.tup (((fills S (wo W.ns x)).map fun k => _).map D.int)] = _
        rw [List.map_map]
        rfl
      rw [ed] at this
      exact this
    · rintro f fs env N ⟨u5, u7, u8, u9, u10, u11, u12, pre, gs, rfl, hf, nd, hgl, hgs⟩ hN
      have hfg : Good S W.ns f := mem_fills.1 (by rw [hf]; simp)
      refine ⟨True.intro, ?_⟩
      unfold b7_law_made
      and_intros
      rw [nD_len]
      refine ⟨by decide, by omega, by omega, by have : S.length ≤ sizeLine := Nat.le_trans h24 (by decide); simpa using this, fun a8 => ?_⟩
      rw [zip_pairs, show ((S.length : Nat) : Int).toNat = S.length from rfl, zeros]
      have hl0 : (List.replicate S.length 0).length = S.length := List.length_replicate
      have hUl : ∀ m ∈ W.ns, m < S.length := hW.lt
      refine for_ind (fun q : Nat × Nat => D.tk [.int (q.1 : Nat), .int (q.2 : Nat)]) (fun qs env => ∃ (g : List Nat) (u9 u10 : Sl), env = [dW w, dSz S, .ext (.lst (ps.map dP)), dI (x : Nat), .ext (.tup (nD W.ns)), u5, dtS a6 (wkK w W.ns x (fun f => val S W (ats W.ns f)) gs pre), .ext (.tup (nD f)), .lst a8 (nD g), u9, u10, u11, u12, .un] ∧ g.length = S.length ∧ (∀ q ∈ qs, q.1 < S.length) ∧
        qs.foldl (fun g q => g.set q.1 q.2) g = (W.ns.zip f).foldl (fun g q => g.set q.1 q.2) (List.replicate S.length 0)) ?_ ?_ (W.ns.zip f) _ ⟨_, _, _, rfl, hl0, fun q hq => hUl q.1 (List.of_mem_zip hq).1, rfl⟩
      rotate_left
      · rintro q qs env N' ⟨g, u9, u10, rfl, h1, h2, h3⟩ hN'
        refine ⟨True.intro, ?_⟩
        unfold b2_law_made
        and_intros
        refine ⟨q.1, ixN_nat (by rw [nD_len, h1]; exact h2 q List.mem_cons_self), ?_⟩
        and_intros
        rw [nD_set]
        exact hN' _ ⟨g.set q.1 q.2, _, _, rfl, by rw [List.length_set]; exact h1, fun r hr => h2 r (List.mem_cons_of_mem _ hr), h3⟩
      rintro env ⟨g, u9, u10, rfl, h1, _, h3⟩
      refine ⟨True.intro, ?_⟩
      rw [List.foldl_nil] at h3
      have e0 : ∀ (ns ws g : List Nat), (ns.zip ws).foldl (fun g q => g.set q.1 q.2) g = putAll g ns ws := by
        intro ns
        induction ns with
        | nil => intro ws g; rfl
        | cons n ns ih => intro ws g; cases ws with
          | nil => rfl
          | cons w ws => exact ih ws _
      rw [e0] at h3
      have hat : ∀ m ∈ W.ns, g.getD m 0 = ats W.ns f m := fun m hm => by
        rw [h3]
        exact putAll_at _ _ f m hW.rise.nd hfg.len (fun k hk => by rw [hl0]; exact hUl k hk) hm
      have hgA : ∀ m, m < S.length → g.getD m 0 < sz S m := fun m hm => by
        by_cases hmW : m ∈ W.ns
        · rw [hat m hmW]
          exact ats_lt hfg hmW
        · rw [h3, putAll_out _ _ _ _ hmW]
          have := hS.pos _ (sz_mem hm)
          simpa [List.getD_eq_getElem?_getD, hm] using this
      clear h3
      have hval := hmv (f := f) (g := fun n => g.getD n 0) hgA hat
      unfold k6_law_made
      and_intros
      refine ⟨w, rfl, fun fin => ?_⟩
      and_intros
      refine for_ind dP (fun qs env => ∃ (acc : Int) (a C : Nat) (u5 : Sl), env = [dW w, dSz S, .ext (.lst (ps.map dP)), dI (x : Nat), .ext (.tup (nD W.ns)), u5, dtS a6 (wkK w W.ns x (fun f => val S W (ats W.ns f)) gs pre), .ext (.tup (nD f)), .lst a8 (nD g), u9, u10, dI acc, u12, .un] ∧ 0 < a ∧ acc.natAbs < 2 ^ a ∧ BdS C qs ∧ a + C ≤ 500000 ∧ (∀ q ∈ qs, q.Ok S) ∧
        qs.foldl (fun acc p => jn w acc (val S p fun n => g.getD n 0)) acc = jAll w S ps fun n => g.getD n 0) ?_ ?_ ps _ ⟨unitW w, 100, B, _, rfl, by decide, unit_bd w, hB, by omega, hok1, rfl⟩
      rotate_left
      · rintro q qs env N' ⟨acc, ab, C, u5, rfl, ha0, hab, hC, haC, hqs, he⟩ hN'
        obtain ⟨b, C', hb0, hbq, hC', hbC⟩ := hC.cons
        have hq := hqs q List.mem_cons_self
        have hfq : Fit S q.ns fun n => g.getD n 0 := fun n hn => hgA n (hq.lt n hn)
        have hv := val_bd hq hbq hfq
        refine ⟨True.intro, ?_⟩
        unfold b3_law_made
        and_intros
        refine ⟨S, q, g, rfl, hS, hq, h1, hfq, fun fin => ?_⟩
        and_intros
        refine ⟨.inr rfl, w, acc, _, rfl, cmulN hab hv (by omega), fun fin => ?_⟩
        and_intros
        exact hN' _ ⟨_, ab + b, C', _, rfl, by omega, jn_bd ha0 hb0 hab hv, hC', by omega, fun r hr => hqs r (List.mem_cons_of_mem _ hr), he⟩
      rintro env ⟨acc, ab, C, u5, rfl, _, _, _, _, _, he⟩
      refine ⟨True.intro, ?_⟩
      have he : acc = val S W (ats W.ns f) := by rw [hval]; exact he
      subst he
      unfold k5_law_made
      and_intros
      rw [zip_pairs]
      have hzl : (W.ns.zip f).length ≤ 24 := by rw [List.length_zip]; omega
      refine lc_filter (fun q : Nat × Nat => D.tk [.int (q.1 : Nat), .int (q.2 : Nat)]) (fun q => D.int (q.2 : Nat)) (fun q => decide (q.1 ≠ x)) True.intro (W.ns.zip f) (Nat.le_trans hzl (by decide)) (fun q hq R hR => ?_) fun b => ?_
      · unfold e4_law_made
        trivial
        exact R_if (by by_cases e : q.1 = x <;> simp [e]; omega) hR
      have ewof : ((W.ns.zip f).filter fun q => decide (q.1 ≠ x)).map (fun q => D.int (q.2 : Nat)) = nD (wof W.ns x f) := by
        rw [nD, wof, List.map_map]
        rfl
      rw [ewof]
      and_intros
      have eT : D.tup (nD (wof W.ns x f)) = kT (cI (wof W.ns x f)) := by rw [kT, cI, List.map_map]; rfl
      refine ⟨cI (wof W.ns x f), wkK w W.ns x (fun f => val S W (ats W.ns f)) gs pre, by rw [eT], .inl ⟨a6, rfl⟩, ?_⟩
      rw [wkK_lu]
      have hput := wkK_put (w := w) (ns := W.ns) (x := x) (F := fun f => val S W (ats W.ns f)) (f := f) hgs
      have hlen := congrArg List.length hf
      rw [List.length_append, List.length_cons, len_fills] at hlen
      have hpz := Part.Ok.psz hS hW
      have hkl : (wkK w W.ns x (fun f => val S W (ats W.ns f)) gs pre).length < sizeLine := by
        unfold wkK
        rw [List.length_map]
        exact Nat.lt_of_le_of_lt (by omega : gs.length ≤ 5000) (by decide)
      have fin : ∀ u5 u8 u11, N [dW w, dSz S, .ext (.lst (ps.map dP)), dI (x : Nat), .ext (.tup (nD W.ns)), u5, dtS a6 (ptK (wkK w W.ns x (fun f => val S W (ats W.ns f)) gs pre) (cI (wof W.ns x f)) (.int (if wof W.ns x f ∈ gs then gt w [gt w (foundsOf W.ns x (fun f => val S W (ats W.ns f)) pre (wof W.ns x f)), val S W (ats W.ns f)] else val S W (ats W.ns f)))), .ext (.tup (nD f)), u8, .un, .un, u11, .ext (.tup (nD (wof W.ns x f))), .un] := fun u5 u8 u11 => by
        rw [hput]
        refine hN _ ⟨_, _, _, _, _, _, _, pre ++ [f], if wof W.ns x f ∈ gs then gs else gs ++ [wof W.ns x f], rfl, by rw [hf]; simp, ?_, ?_, fun g => ?_⟩
        · split
          · exact nd
          · rename_i h
            exact List.nodup_append.2 ⟨nd, by simp, fun p hp q hq z => h (by rw [← List.mem_singleton.1 hq, ← z]; exact hp)⟩
        · rw [List.length_append, List.length_singleton]
          split
          · omega
          · rw [List.length_append, List.length_singleton]; omega
        · have key : g ∈ (if wof W.ns x f ∈ gs then gs else gs ++ [wof W.ns x f]) ↔ g ∈ gs ∨ g = wof W.ns x f := by
            split
            · rename_i h
              exact ⟨.inl, fun z => z.elim id fun z => by rw [z]; exact h⟩
            · rw [List.mem_append, List.mem_singleton]
          rw [key, hgs]
          constructor
          · rintro (⟨f', h1, h2⟩ | h1)
            · exact ⟨f', List.mem_append_left _ h1, h2⟩
            · exact ⟨f, by simp, h1.symm⟩
          · rintro ⟨f', h1, h2⟩
            rcases List.mem_append.1 h1 with h | h
            · exact .inl ⟨f', h, h2⟩
            · rw [List.mem_singleton.1 h] at h2
              exact .inr h2.symm
      by_cases hgm : wof W.ns x f ∈ gs
      · simp only [if_pos hgm] at fin ⊢
        rw [Option.isSome_some, if_neg (by decide)]
        refine ⟨⟨_, .inl ⟨a6, rfl⟩⟩, cI (wof W.ns x f), _, D.int (gt w (foundsOf W.ns x (fun f => val S W (ats W.ns f)) pre (wof W.ns x f))), by rw [eT], .inl ⟨a6, rfl⟩, by rw [wkK_lu, if_pos hgm], by decide, fun a' => ?_⟩
        refine ⟨w, [gt w (foundsOf W.ns x (fun f => val S W (ats W.ns f)) pre (wof W.ns x f)), val S W (ats W.ns f)], rfl, by simp, fun fin' => ?_⟩
        and_intros
        exact ⟨⟨_, _, rfl⟩, a6, _, cI (wof W.ns x f), rfl, by rw [eT], hkl, fin _ _ _⟩
      · simp only [if_neg hgm] at fin ⊢
        rw [Option.isSome_none, if_pos (show (true != false) = true from rfl)]
        exact ⟨⟨_, _, rfl⟩, a6, _, cI (wof W.ns x f), rfl, by rw [eT], hkl, fin _ _ _⟩
  · rintro p qs env N ⟨u5, bag, pre, rfl, he, hb⟩ hN
    refine ⟨True.intro, ?_⟩
    unfold b1_law_made
    and_intros
    have hbl : bag.length ≤ 61 := by
      rw [hb, List.length_cons]
      rw [he, List.flatMap_append, List.length_append] at hps
      omega
    have hpn : p.ns.length ≤ 60 := by
      rw [he, List.flatMap_append, List.length_append, List.flatMap_cons, List.length_append] at hps
      omega
    rw [← nD_app]
    refine ⟨by rw [nD_len, nD_len]; exact Nat.le_trans (by omega : _ ≤ 200) (by decide), hN _ ⟨_, _, pre ++ [p], rfl, by rw [List.append_assoc]; exact he, ?_⟩⟩
    rw [hb, List.flatMap_append, List.flatMap_singleton, List.cons_append]
def sp_law_due : DSpec := fun args Q _ => ∃ (w : Wd) (S : List Nat) (ps : List Part) (o : List Nat) (B : Nat), args = [dW w, .ext (dSh S ps), .ext (.tup (nD o))] ∧ SzOk S ∧ (∀ p ∈ ps, p.Ok S) ∧ ps.length ≤ 24 ∧ BdS B ps ∧ B ≤ 100000 ∧ nzL ps ≤ 5 ∧ S.length ≤ 12 ∧ o.Nodup ∧ (∀ m ∈ o, m < S.length) ∧ ∀ fin, Q (.ext (.tup [.lst ((takes w S ps o).map dP), .lst (fD (takeB w S ps o))])) fin
def e1_law_due : DT :=
    (dVar 7)
def e2_law_due : DT :=
    (dVar 9)
def b3_law_due : DTS :=
    (sSeq (sSetE 6 (dLc (dSeq (dVar 3)) (gSet 7) (dTest (dOp (fIn false) (dVar 5) (dOp fIx (dVar 7) (dC (.int 0))))) e1_law_due [7]))
    (sSeq (sAsg (dCall sp_law_made (dCons (dVar 0) (dCons (dOp fIx (dVar 1) (dC (.int 0))) (dCons (dVar 6) (dCons (dVar 5) dNil))))) (gTupD 2 (gsCons (gSet 8) (gsCons (gSet 7) gsNil))))
    (sSeq (sDrop (dAppend 4 (dVar 8)))
    (sSetE 3 (dOp fAdd (dLc (dSeq (dVar 3)) (gSet 9) (dTest (dOp (fIn true) (dVar 5) (dOp fIx (dVar 9) (dC (.int 0))))) e2_law_due [9]) (dLst (dCons (dVar 7) dNil)))))))
def k4_law_due : DTS :=
    (sRet (dTup (dCons (dVar 3) (dCons (dVar 4) dNil))))
def t_law_due : DTS :=
    (sSeq (sSetE 3 (dCB fList (dCons (dOp fIx (dVar 1) (dC (.int 1))) dNil)))
    (sSeq (sSet 4 (dLst dNil))
    (sSeq (sFor (dSeq (dVar 2)) (gSet 5) b3_law_due)
    k4_law_due)))
theorem takeW_filt (w : Wd) (S : List Nat) (ps : List Part) (x : Nat) : takeW w S (ps.filter (hasP x)) x = takeW w S ps x := by
  unfold takeW
  rw [List.filter_filter]
  simp only [Bool.and_self]
theorem takes_nz {w : Wd} {S o : List Nat} : ∀ {ps : List Part}, (∀ p ∈ ps, p.Ok S) → (∀ m ∈ o, m < S.length) → nzL (takes w S ps o) ≤ nzL ps := by
  induction o with
  | nil => intro ps _ _; exact Nat.le_refl _
  | cons x o ih =>
    intro ps h ho
    have hx := ho x List.mem_cons_self
    exact Nat.le_trans (ih (ps := takeL w S ps x) (takeL_ok h hx) fun y hy => ho y (List.mem_cons_of_mem _ hy)) (nz_take h hx)
theorem m_law_due : Meets t_law_due 3 7 sp_law_due := by
  rintro args Qd Xd ⟨w, S, ps, o, B, rfl, hS, hok, hpl, hBd, hBl0, hnz, h12, nd, hl, hQ⟩
  show t_law_due _ _ [_, _, _, .un, .un, .un, .un, .un, .un, .un]
  unfold t_law_due
  and_intros
  have h24 := hS.few
  have hol := nodup_le nd hl
  refine ⟨Nat.zero_le _, fun a4 => ?_⟩
  refine for_ind (fun x : Nat => D.int (x : Nat)) (fun xs env => ∃ (pre : List Nat) (u5 u6 u7 u8 : Sl), env = [dW w, .ext (dSh S ps), .ext (.tup (nD o)), .ext (.lst ((takes w S ps pre).map dP)), .lst a4 (fD (takeB w S ps pre)), u5, u6, u7, u8, .un] ∧ o = pre ++ xs) ?_ ?_ o _ ⟨[], _, _, _, _, rfl, rfl⟩
  · rintro env ⟨pre, u5, u6, u7, u8, rfl, e⟩
    rw [List.append_nil] at e
    subst e
    refine ⟨True.intro, ?_⟩
    unfold k4_law_due
    and_intros
    exact ⟨by decide, hQ _⟩
  rintro x xs env N ⟨pre, u5, u6, u7, u8, rfl, e⟩ hN
  have hx : x < S.length := hl x (by rw [e]; simp)
  have hpre : ∀ m ∈ pre, m < S.length := fun m hm => hl m (by rw [e]; exact List.mem_append_left _ hm)
  have hlen := congrArg List.length e
  rw [List.length_append, List.length_cons] at hlen
  have hLok := takes_ok (w := w) hok hpre
  have hLlen := takes_len (w := w) (S := S) (o := pre) (ps := ps)
  have hLbd := takes_bd (w := w) hS.small hok hpre hBd
  have hBl := takeB_len (w := w) (S := S) (o := pre) (ps := ps)
  have hLnz : nzL (takes w S ps pre) ≤ 5 := Nat.le_trans (takes_nz hok hpre) hnz
  have hnx : takes w S ps (pre ++ [x]) = takeL w S (takes w S ps pre) x := takes_snoc ..
  have hnb : takeB w S ps (pre ++ [x]) = takeB w S ps pre ++ [(takeW w S (takes w S ps pre) x).ns] := takeB_snoc ..
  have goN : ∀ u5 u6 u7 u8, N [dW w, .ext (dSh S ps), .ext (.tup (nD o)), .ext (.lst ((takes w S ps (pre ++ [x])).map dP)), .lst a4 (fD (takeB w S ps (pre ++ [x]))), u5, u6, u7, u8, .un] := fun u5 u6 u7 u8 => hN _ ⟨pre ++ [x], u5, u6, u7, u8, rfl, by rw [e]; simp⟩
  rw [hnx, hnb] at goN
  clear hN hnx hnb
  generalize takes w S ps pre = L at hLok hLlen hLbd hLnz goN ⊢
  generalize takeB w S ps pre = Bs at hBl goN ⊢
  refine ⟨True.intro, ?_⟩
  unfold b3_law_due
  and_intros
  refine lc_filter dP dP (hasP x) True.intro L (Nat.le_trans (by omega : _ ≤ 2000) (by decide)) (fun p hp R hR => ?_) fun b => ?_
  · unfold e1_law_due
    trivial
    rw [isIn_nat]
    exact ⟨rfl, flat_nD _, R_if rfl hR⟩
  and_intros
  have hfl0 := List.length_filter_le (hasP x) L
  have hsum : ((L.filter (hasP x)).flatMap fun p => p.ns).length ≤ 60 := by
    have h1 := flat_le (c := 12) (L := L.filter (hasP x)) fun p hp => by
      have h2 := hLok p (List.mem_filter.1 hp).1
      have := rising_len h2.rise h2.lt
      omega
    have h3 := nz_split (hasP x) L
    have h4 : nzL (L.filter (hasP x)) * 12 ≤ 5 * 12 := Nat.mul_le_mul_right 12 (by omega)
    omega
  obtain ⟨BC, BE, hBC, _, hBCE⟩ := hLbd.part (hasP x)
  refine ⟨w, S, L.filter (hasP x), x, BC, rfl, hS, fun p hp => ⟨hLok p (List.mem_filter.1 hp).1, (List.mem_filter.1 hp).2⟩, by omega, hsum, hBC, by omega, hx, fun fin => ?_⟩
  rw [takeW_filt]
  and_intros
  have hfB : (fD Bs).length = Bs.length := List.length_map _
  refine ⟨Nat.lt_of_lt_of_le (by omega : (fD Bs).length < 100) (by decide), ?_⟩
  refine lc_filter dP dP (fun p => !hasP x p) True.intro L (Nat.le_trans (by omega : _ ≤ 2000) (by decide)) (fun p hp R hR => ?_) fun b => ?_
  · unfold e2_law_due
    trivial
    rw [isIn_nat]
    exact ⟨rfl, flat_nD _, R_if rfl hR⟩
  and_intros
  have hfl := List.length_filter_le (fun p => !hasP x p) L
  refine ⟨by decide, by rw [List.length_map]; exact Nat.le_trans (by omega : _ ≤ 2000) (by decide), ?_⟩
  have := goN (dI (x : Nat)) (.ext (.lst ((L.filter (hasP x)).map dP))) (.ext (dP (gathP S w (takeW w S L x) x))) (.ext (.tup (nD (takeW w S L x).ns)))
  unfold takeL at this
  rw [List.map_append, fD, List.map_append] at this
  exact this
end K30
end LS
namespace LS
open PySem L2 HD PM
theorem erase_map {α β : Type} (f : α → β) : ∀ (l : List α) (i : Nat), (l.map f).eraseIdx i = (l.eraseIdx i).map f
  | [], _ => rfl
  | _ :: _, 0 => rfl
  | x :: l, i + 1 => by
    show f x :: (l.map f).eraseIdx i = f x :: (l.eraseIdx i).map f
    rw [erase_map f l i]
end LS
namespace LS
open PySem L2 HD PM
namespace K41
open K02 (sp_law_sheet)
theorem Dc.short {k n : Nat} {d : D} (h : Dc k n d) (hn : n < 3000) : ShortT d := fun ds e => by
  subst e
  have hb := h.bk
  have this : ∀ l : List D, l.length ≤ PyData.bulkAll (D.pys l) := fun l => by
    induction l with
    | nil => exact Nat.zero_le _
    | cons d l ih => simp only [D.pys, PyData.bulkAll, List.length_cons]; omega
  have h1 := this ds
  have h2 : (D.tup ds).py.bulk = PyData.bulkAll (D.pys ds) := by simp only [D.py, PyData.bulk]
  omega
end K41
end LS
namespace LS
namespace K30
open PySem L2 HD PM
open K02 (sp_law_sheet)
local macro_rules | `(tactic| trivial) => `(tactic| try simp -dsimp only [↓sIf, ↓sRet, ↓retD_ext, ↓retD_lst, ↓retD_al, ↓sSet, ↓sSetE, ↓sAsg, ↓sDrop, ↓sNext, ↓sFor, ↓sRetN, ↓sCont, ↓sBreak, ↓dTest, ↓dOp, ↓dVar_w, ↓dC, ↓dCons, ↓dNil, ↓dTup, ↓dLst, ↓frzDs, ↓frzD_ext, ↓frzD_lst, ↓frzD_al, ↓wd_ext, ↓wd_lst, ↓wd_al, ↓wds, ↓AtS_ext, ↓AtS_lst, ↓AtL, ↓fAdd, ↓fSub, ↓fMul, ↓fDiv, ↓fMod, ↓fPow, ↓fCmp, ↓fIn, ↓fEq_ii, ↓fEq_ss, ↓fEq_bb, ↓fEq_tt, ↓fEq_ll, ↓fNe_ii, ↓fNe_ss, ↓fNe_bb, ↓fNe_tt, ↓fNe_ll, ↓fIx_l, ↓fIx_t, ↓fIx_k, ↓fIx_f, ↓GetS_some, ↓NatS_some, ↓fSl, ↓fIsN, ↓fNotN, ↓D.knN, ↓dNot, ↓dAnd, ↓dOr, ↓dAndV_w, ↓dOrV_w, ↓dNotV, ↓dIf, ↓dNeg, ↓dChain_w, ↓BlS_bl, ↓dCall_w, ↓dCallJ_w, ↓anyAl, ↓frozs, ↓froz, ↓gSet, ↓gTupD, ↓gsCons, ↓gsNil, ↓dSeq, ↓seqD_tup, ↓seqD_elst, ↓seqD_lst, ↓seqD_al, ↓dRange1, ↓dRange2, ↓dZip, ↓dCB, ↓dLc, ↓dYes, ↓dNoPart, ↓dPart, ↓dSl, ↓fLen, ↓fMin, ↓fMax, ↓fSum, ↓fAll, ↓fAny, ↓fSorted, ↓fTuple, ↓fList, ↓dRg1, ↓dRg2, ↓dLstRg, ↓dTupRg, ↓dIndex, ↓fIdx, ↓dAppend_w, ↓dExtend_w, ↓extD_lst, ↓dPopAt_w, ↓popD_int, ↓dPop_w, ↓mutD_w, ↓sSetItem_w, ↓setD_int, ↓dSortSet, ↓dTable_w, ↓wipeE, finals1, finals2, finals3, finals4, finals5, finals6, fin1_ext, fin1_lst, List.getElem?_cons_zero, List.getElem?_cons_succ, List.getElem?_nil, List.set_cons_zero, List.set_cons_succ, List.cons_append, List.nil_append, List.append_nil, List.replicate_succ, List.replicate_zero, List.map_cons, List.map_nil, List.length_cons, List.length_nil, true_and, and_true, ite_true, ite_false, if_true, if_false, Bool.false_eq_true, decide_eq_true_eq, Sl.plain, D.isSq, eq_self_iff_true, forall_const, reduceIte, true_or, or_true, atI_0, atI_1, atI_2, atI_3, ixN_0, ixN_1, ixN_2, AtS_ext, AtS_lst, FzS_lst, FzS_ext, GetS_some, NatS_some, ↓fIsi1, ↓fIsi2, BoolS_some, HD.kb_non_tuple, HD.kb_non_list, HD.kb_non_bool, HD.kb_non_int, HD.kb_non_str, HD.kb_bl_tuple, HD.kb_bl_list, HD.kb_bl_bool, HD.kb_bl_int, HD.kb_bl_str, HD.kb_int_tuple, HD.kb_int_list, HD.kb_int_bool, HD.kb_int_int, HD.kb_int_str, HD.kb_str_tuple, HD.kb_str_list, HD.kb_str_bool, HD.kb_str_int, HD.kb_str_str, HD.kb_lst_tuple, HD.kb_lst_list, HD.kb_lst_bool, HD.kb_lst_int, HD.kb_lst_str, HD.kb_tup_tuple, HD.kb_tup_list, HD.kb_tup_bool, HD.kb_tup_int, HD.kb_tup_str, ↓sFz_w, ↓FzS_lst, ↓FzS_ext, ↓dSortSetL, ↓fAbs, ↓fInt, ↓fRepr, ↓fLtT, ↓sRaise, ↓sTryKeep, ↓dCallV_w, ↓dMeth, ↓fCount, ↓fSplit, ↓seq_setE, ↓seq_set, ↓seq_drop, ↓seq_asg, ↓seq_if, ↓seq_for, ↓dStep, ↓fStep, ↓fMulT, ↓fIsB, ↓fNotB, ↓sPar, ↓dEnum, ↓dListZip, ↓dNest, ↓sSeal, ↓dNApp, ↓retD_reg, ↓dLenSet, ↓fSum2, ↓seq_putD, ↓seq_sealD, ↓dDIn, ↓dDGet, ↓sPutD, ↓dDNew, ↓dDOne, ↓sSealD, ↓dKeys, ↓keyS_dk, ↓dExtT, ↓fSortT, ↓fMinP, ↓dRemove, ↓dDInT, ↓dDGetT, ↓sPutDT, ↓dDNewT, ↓sSealDT, ↓dKeysT, ↓keyST_dt, ↓fSortK, ↓seq_putDT, ↓seq_sealDT, ↓dVarR_w, ↓dAttr, ↓dAppR, ↓dExtR_w, ↓dExtTR_w, ↓dClrR, ↓dPopR_w, ↓dIxR_w, ↓dDGetR, ↓dDInR, ↓dGet2R, ↓dPop1R, ↓dPop2R, ↓dDGetTR, ↓dDInTR, ↓dPop1TR, ↓dCallM, ↓dMethO, ↓dMake, ↓dMoveR, ↓dPtr, ↓sAttr, ↓sSetR, ↓sPutR, ↓sPutTR, ↓sSetA_w, ↓sSetG_w, ↓seq_setG, ↓seq_setA, ↓seq_attr, ↓seq_setR, ↓seq_putR, ↓seq_putTR, ↓RegS_reg, ↓CellS_some, ↓RefS_reg, ↓RefS_ar, ↓cellS_ar, ↓wd_ar, ↓seqD_ar, ↓lstO_lst, ↓insO_ins, ↓dkO_dk, ↓dkO_lk, ↓dtO_dt, ↓dtO_lk, ↓dkW_dk, ↓dtW_dt, ↓stoS_ext, ↓stoS_reg, ↓stoS_lstT, ↓stoS_lstF, ↓stoS_al, ↓ptrD_ref, ↓ptrD_int, ↓ptrD_str, ↓ptrD_bl, ↓ptrD_non, ↓ptrD_tup, ↓ptrD_tk, ↓ptrD_lst, ↓ptrD_fz, ↓setGS_lst, ↓setGS_reg, ↓setAS_ar, ↓setAS_ext, ↓intS_int, ↓tupS_tup, ↓lstS_lst, ↓lstK, ↓dkK, ↓dtK, ↓retD_reg, ↓dSortSetB, ↓fSortD, ↓dCallD, ↓regC_reg, ↓dMoveL, ↓dMoveR_w, ↓dDictP, ↓froz_lst, ↓froz_ext, ↓dUpdTR, ↓dUpdKR, ↓dDictZipK, ↓dDictC, ↓dClear, ↓fStr, ↓dListItems, ↓dLenK, ↓dSortKI, ↓dInC, ↓fMinT, ↓fMaxT, ↓dListKT, ↓dLcR, ↓dSumL, ↓sFzR, ↓dVarG, ↓dAsP, ↓asP_ref, ↓dTupM, ↓regsOf, ↓regOf, ↓dFrzT, ↓frzT_reg, ↓dListR, ↓dIsLR, ↓isLR, ↓fIsiT])
local macro_rules | `(tactic| and_intros) => `(tactic| try simp -dsimp only [↓sIf, ↓sRet, ↓retD_ext, ↓retD_lst, ↓retD_al, ↓sSet, ↓sSetE, ↓sAsg, ↓sDrop, ↓sNext, ↓sFor, ↓sRetN, ↓sCont, ↓sBreak, ↓dTest, ↓dOp, ↓dC, ↓dCons, ↓dNil, ↓dTup, ↓dLst, ↓frzDs, ↓frzD_ext, ↓frzD_lst, ↓frzD_al, ↓wd_ext, ↓wd_lst, ↓wd_al, ↓wds, ↓AtS_ext, ↓AtS_lst, ↓AtL, ↓fAdd, ↓fSub, ↓fMul, ↓fDiv, ↓fMod, ↓fPow, ↓fCmp, ↓fIn, ↓fEq_ii, ↓fEq_ss, ↓fEq_bb, ↓fEq_tt, ↓fEq_ll, ↓fNe_ii, ↓fNe_ss, ↓fNe_bb, ↓fNe_tt, ↓fNe_ll, ↓fIx_l, ↓fIx_t, ↓fIx_k, ↓fIx_f, ↓GetS_some, ↓NatS_some, ↓fSl, ↓fIsN, ↓fNotN, ↓D.knN, ↓dNot, ↓dAnd, ↓dOr, ↓dAndV_w, ↓dOrV_w, ↓dNotV, ↓dIf, ↓dNeg, ↓dChain_w, ↓BlS_bl, ↓dCall_w, ↓dCallJ_w, ↓anyAl, ↓frozs, ↓froz, ↓gSet, ↓gTupD, ↓gsCons, ↓gsNil, ↓dSeq, ↓seqD_tup, ↓seqD_elst, ↓seqD_lst, ↓seqD_al, ↓dRange1, ↓dRange2, ↓dZip, ↓dCB, ↓dLc, ↓dYes, ↓dNoPart, ↓dPart, ↓dSl, ↓fLen, ↓fMin, ↓fMax, ↓fSum, ↓fAll, ↓fAny, ↓fSorted, ↓fTuple, ↓fList, ↓dRg1, ↓dRg2, ↓dLstRg, ↓dTupRg, ↓dIndex, ↓fIdx, ↓dAppend_w, ↓dExtend_w, ↓extD_lst, ↓dPopAt_w, ↓popD_int, ↓dPop_w, ↓mutD_w, ↓sSetItem_w, ↓setD_int, ↓dSortSet, ↓dTable_w, ↓wipeE, finals1, finals2, finals3, finals4, finals5, finals6, fin1_ext, fin1_lst, List.getElem?_cons_zero, List.getElem?_cons_succ, List.getElem?_nil, List.set_cons_zero, List.set_cons_succ, List.cons_append, List.nil_append, List.append_nil, List.replicate_succ, List.replicate_zero, List.map_cons, List.map_nil, List.length_cons, List.length_nil, true_and, and_true, ite_true, ite_false, if_true, if_false, Bool.false_eq_true, decide_eq_true_eq, Sl.plain, D.isSq, eq_self_iff_true, forall_const, reduceIte, true_or, or_true, atI_0, atI_1, atI_2, atI_3, ixN_0, ixN_1, ixN_2, AtS_ext, AtS_lst, FzS_lst, FzS_ext, GetS_some, NatS_some, ↓fIsi1, ↓fIsi2, BoolS_some, HD.kb_non_tuple, HD.kb_non_list, HD.kb_non_bool, HD.kb_non_int, HD.kb_non_str, HD.kb_bl_tuple, HD.kb_bl_list, HD.kb_bl_bool, HD.kb_bl_int, HD.kb_bl_str, HD.kb_int_tuple, HD.kb_int_list, HD.kb_int_bool, HD.kb_int_int, HD.kb_int_str, HD.kb_str_tuple, HD.kb_str_list, HD.kb_str_bool, HD.kb_str_int, HD.kb_str_str, HD.kb_lst_tuple, HD.kb_lst_list, HD.kb_lst_bool, HD.kb_lst_int, HD.kb_lst_str, HD.kb_tup_tuple, HD.kb_tup_list, HD.kb_tup_bool, HD.kb_tup_int, HD.kb_tup_str, ↓sFz_w, ↓FzS_lst, ↓FzS_ext, ↓dSortSetL, ↓fAbs, ↓fInt, ↓fRepr, ↓fLtT, ↓sRaise, ↓sTryKeep, ↓dCallV_w, ↓dMeth, ↓fCount, ↓fSplit, ↓seq_setE, ↓seq_set, ↓seq_drop, ↓seq_asg, ↓seq_if, ↓seq_for, ↓dStep, ↓fStep, ↓fMulT, ↓fIsB, ↓fNotB, ↓sPar, ↓dEnum, ↓dListZip, ↓dNest, ↓sSeal, ↓dNApp, ↓retD_reg, ↓dLenSet, ↓fSum2, ↓seq_putD, ↓seq_sealD, ↓dDIn, ↓dDGet, ↓sPutD, ↓dDNew, ↓dDOne, ↓sSealD, ↓dKeys, ↓keyS_dk, ↓dExtT, ↓fSortT, ↓fMinP, ↓dRemove, ↓dDInT, ↓dDGetT, ↓sPutDT, ↓dDNewT, ↓sSealDT, ↓dKeysT, ↓keyST_dt, ↓fSortK, ↓seq_putDT, ↓seq_sealDT, ↓dVarR_w, ↓dAttr, ↓dAppR, ↓dExtR_w, ↓dExtTR_w, ↓dClrR, ↓dPopR_w, ↓dIxR_w, ↓dDGetR, ↓dDInR, ↓dGet2R, ↓dPop1R, ↓dPop2R, ↓dDGetTR, ↓dDInTR, ↓dPop1TR, ↓dCallM, ↓dMethO, ↓dMake, ↓dMoveR, ↓dPtr, ↓sAttr, ↓sSetR, ↓sPutR, ↓sPutTR, ↓sSetA_w, ↓sSetG_w, ↓seq_setG, ↓seq_setA, ↓seq_attr, ↓seq_setR, ↓seq_putR, ↓seq_putTR, ↓RegS_reg, ↓CellS_some, ↓RefS_reg, ↓RefS_ar, ↓cellS_ar, ↓wd_ar, ↓seqD_ar, ↓lstO_lst, ↓insO_ins, ↓dkO_dk, ↓dkO_lk, ↓dtO_dt, ↓dtO_lk, ↓dkW_dk, ↓dtW_dt, ↓stoS_ext, ↓stoS_reg, ↓stoS_lstT, ↓stoS_lstF, ↓stoS_al, ↓ptrD_ref, ↓ptrD_int, ↓ptrD_str, ↓ptrD_bl, ↓ptrD_non, ↓ptrD_tup, ↓ptrD_tk, ↓ptrD_lst, ↓ptrD_fz, ↓setGS_lst, ↓setGS_reg, ↓setAS_ar, ↓setAS_ext, ↓intS_int, ↓tupS_tup, ↓lstS_lst, ↓lstK, ↓dkK, ↓dtK, ↓retD_reg, ↓dSortSetB, ↓fSortD, ↓dCallD, ↓regC_reg, ↓dMoveL, ↓dMoveR_w, ↓dDictP, ↓froz_lst, ↓froz_ext, ↓dUpdTR, ↓dUpdKR, ↓dDictZipK, ↓dDictC, ↓dClear, ↓fStr, ↓dListItems, ↓dLenK, ↓dSortKI, ↓dInC, ↓fMinT, ↓fMaxT, ↓dListKT, ↓dLcR, ↓dSumL, ↓sFzR, ↓dVarG, ↓dAsP, ↓asP_ref, ↓dTupM, ↓regsOf, ↓regOf, ↓dFrzT, ↓frzT_reg, ↓dListR, ↓dIsLR, ↓isLR, ↓fIsiT, ↓dv0, ↓dw0, ↓dv1, ↓dw1, ↓dv2, ↓dw2, ↓dv3, ↓dw3, ↓dv4, ↓dw4, ↓dv5, ↓dw5, ↓dv6, ↓dw6, ↓dv7, ↓dw7, ↓dv8, ↓dw8, ↓dv9, ↓dw9, ↓dv10, ↓dw10, ↓dv11, ↓dw11, ↓dv12, ↓dw12, ↓dv13, ↓dw13, ↓dv14, ↓dw14, ↓dv15, ↓dw15, ↓dv16, ↓dw16, ↓dv17, ↓dw17, ↓dv18, ↓dw18, ↓dv19, ↓dw19])
theorem deep0 (cs : Cells) (ds : List D) : ds.map (deepD cs 0) = ds := by
  refine (List.map_congr_left fun d _ => ?_).trans (List.map_id ds)
  cases d <;> rfl
theorem deep2_due (cs : Cells) (A B : List D) : deepD cs 2 (.tup [.lst A, .lst B]) = .tup [.lst A, .lst B] := by
  show D.tup [.lst (A.map (deepD cs 0)), .lst (B.map (deepD cs 0))] = _
  rw [deep0, deep0]
theorem cell1 (p q : Addr) (A B : OC) : HD.cellOf [(p, A), (q, B)] p = some A := by
  show (if p = p then some A else if q = p then some B else none) = _
  rw [if_pos rfl]
theorem cell2 {p q : Addr} (h : p ≠ q) (A B : OC) : HD.cellOf [(p, A), (q, B)] q = some B := by
  show (if p = q then some A else if q = q then some B else none) = _
  rw [if_neg h, if_pos rfl]
theorem put1 {p q : Addr} (h : p ≠ q) (A B C : OC) : putC [(p, A), (q, B)] p C = [(p, C), (q, B)] := by
  show [if p = p then (p, C) else (p, A), if q = p then (p, C) else (q, B)] = _
  rw [if_pos rfl, if_neg fun e => h e.symm]
theorem takeB_small {w : Wd} {S o : List Nat} (h24 : S.length ≤ 24) : ∀ {ps : List Part}, (∀ p ∈ ps, p.Ok S) → (∀ m ∈ o, m < S.length) → ∀ b ∈ takeB w S ps o, b.length ≤ 1000 := by
  induction o with
  | nil => intro ps _ _ b hb; cases hb
  | cons x o ih =>
    intro ps h ho b hb
    have hx := ho x List.mem_cons_self
    rcases List.mem_cons.1 hb with rfl | hb
    · have hW := takeW_ok (w := w) h hx
      have := rising_len hW.rise hW.lt
      omega
    · exact ih (takeL_ok h hx) (fun m hm => ho m (List.mem_cons_of_mem _ hm)) b hb
theorem pl2_dP (p : Part) (h1 : p.ns.length ≤ 100000) (h2 : p.ws.length ≤ 100000) : D.pl 2 (dP p) = true := by
  rw [dP, D.pl, Bool.and_eq_true, List.all_eq_true]
  refine ⟨rfl, allMem ?_ <| allMem ?_ allNil⟩
  · rw [D.pl, Bool.and_eq_true, List.all_eq_true, decide_eq_true_eq, nD_len]
    exact ⟨h1, fun d hd => by obtain ⟨n, _, rfl⟩ := List.mem_map.1 hd; rfl⟩
  · rw [D.pl, Bool.and_eq_true, List.all_eq_true, decide_eq_true_eq, iD_len]
    exact ⟨h2, fun d hd => by obtain ⟨n, _, rfl⟩ := List.mem_map.1 hd; rfl⟩
theorem cmp_due (A : List Part) (B : List (List Nat)) : (D.tup [.lst (A.map dP), .lst (fD B)]).cmp := pi_cmp (k := 4) (by decide) (by
  rw [D.pi, List.all_eq_true]
  refine allMem ?_ <| allMem ?_ allNil
  · rw [D.pi, List.all_eq_true]
    intro d hd
    obtain ⟨p, _, rfl⟩ := List.mem_map.1 hd
    exact pi_dP p
  · rw [D.pi, List.all_eq_true]
    intro d hd
    obtain ⟨l, _, rfl⟩ := List.mem_map.1 hd
    rw [D.pi]
    exact pi_nats 1 l)
theorem due_pl {S : List Nat} {A : List Part} {B : List (List Nat)} (hS : SzOk S) (hA : ∀ p ∈ A, p.Ok S) (hAl : A.length ≤ 1000) (hB : ∀ b ∈ B, b.length ≤ 1000) (hBl : B.length ≤ 1000) : D.pl 4 (.tup [.lst (A.map dP), .lst (fD B)]) = true := by
  rw [D.pl, Bool.and_eq_true, List.all_eq_true]
  refine ⟨rfl, allMem ?_ <| allMem ?_ allNil⟩
  · rw [D.pl, Bool.and_eq_true, List.all_eq_true, decide_eq_true_eq, List.length_map]
    refine ⟨by omega, fun d hd => ?_⟩
    obtain ⟨p, hp, rfl⟩ := List.mem_map.1 hd
    have hp := hA p hp
    exact pl2_dP p (by have := ok_len hS hp; omega) (by rw [hp.len]; have := Part.Ok.psz hS hp; omega)
  · rw [D.pl, Bool.and_eq_true, List.all_eq_true, decide_eq_true_eq, fD, List.length_map]
    refine ⟨by omega, fun d hd => ?_⟩
    obtain ⟨b, hb, rfl⟩ := List.mem_map.1 hd
    exact pl_up 1 _ (pl_tupN b (by have := hB b hb; omega))
theorem deep2_told {p q : Addr} (h : p ≠ q) (A B : List D) : deepD [(p, OC.lst A), (q, OC.lst B)] 2 (.tup [.val (.ref p), .val (.ref q)]) = .tup [.lst A, .lst B] := by
  show D.tup [deepD _ 1 (.val (.ref p)), deepD _ 1 (.val (.ref q))] = _
  have e1 : deepD [(p, OC.lst A), (q, OC.lst B)] 1 (.val (.ref p)) = .lst A := by
    rw [deepD, cell1]
    exact congrArg D.lst (deep0 _ _)
  have e2 : deepD [(p, OC.lst A), (q, OC.lst B)] 1 (.val (.ref q)) = .lst B := by
    rw [deepD, cell2 h]
    exact congrArg D.lst (deep0 _ _)
  rw [e1, e2]
def cs30 : List Str := ["NoName"]
def FT30 : FTab := fun nm => if nm = "taken_out" then some (3, sp_taken_out) else none
open K41 (Dc.short)
theorem up60 {n : Nat} {d : D} (h : Dc 2 n d) (hn : n ≤ 60 := by decide) : Dc 3 60 d := (h.mono hn).up
def sp_law_bent : DSpec := fun args Q _ => ∃ (n : Nat) (a : Addr) (ds : List D) (o : List Nat) (many : Nat), args = [.lst a ds, .ext (.tup (nD o)), dI (many : Nat)] ∧ JarOk n ds ∧ n + 3 < 4294967296 ∧ o.length ≤ 24 ∧ (∀ m ∈ o, m < 2 ^ 32) ∧ many < 2 ^ 32 ∧
  ∀ d ds' fin, Dc 3 60 d → JarOk (n + 3) ds' → Q (.ext d) (.lst a ds' :: fin)
def k1_law_bent : DTS :=
    (sSeq (sIf (dTest (dOp (fCmp fun i j => decide (i < j)) (dVar 3) (dC (.int 5)))) (sRet (dOp fAdd (dOp fAdd (dSl (dVar 1) dNoPart (dPart (dVar 4))) (dTup (dCons (dVar 5) dNil))) (dSl (dVar 1) (dPart (dOp fAdd (dVar 4) (dOp fMod (dVar 3) (dC (.int 2))))) dNoPart))) sNext)
    (sRet (dOp fIx (dLst (dCons (dCB fList (dCons (dVar 1) dNil)) (dCons (dOp fAdd (dVar 1) (dSl (dVar 1) (dPart (dNeg (dC (.int 1)))) dNoPart)) (dCons (dOp fAdd (dSl (dVar 1) dNoPart (dPart (dC (.int 1)))) (dVar 1)) (dCons (dC .non) (dCons (dTup (dCons (dVar 1) dNil)) dNil)))))) (dOp fSub (dVar 3) (dC (.int 5))))))
def k2_law_bent : DTS :=
    (sSeq (sSetE 5 (dOp fIx (dLst (dCons (dVar 2) (dCons (dNeg (dC (.int 1))) (dCons (dC (.bl true)) (dCons (dC .non) (dCons (dC (.str (Str.ofString "0"))) (dCons (dTup (dCons (dC (.int 0)) dNil)) (dCons (dOp fPow (dC (.int 10)) (dC (.int 39))) (dCons (dOp fSub (dC (.int 0)) (dOp fPow (dC (.int 10)) (dC (.int 39)))) (dCons (dC (.bl false)) (dCons (dLst (dCons (dC (.int 0)) dNil)) dNil))))))))))) (dCallJ sp_law_dip 0 (dCons (dC (.int 10)) dNil))))
    k1_law_bent)
def t_law_bent : DTS :=
    (sSeq (sSetE 3 (dCallJ sp_law_dip 0 (dCons (dC (.int 10)) dNil)))
    (sSeq (sSetE 4 (dCallJ sp_law_dip 0 (dCons (dOp fAdd (dCB fLen (dCons (dVar 1) dNil)) (dC (.int 1))) dNil)))
    k2_law_bent))
theorem m_law_bent : Meets t_law_bent 3 3 sp_law_bent := by
  rintro args Qd Xd ⟨n, a, ds, o, many, rfl, hj, hn, hl, hs, hm, hQ⟩
  show t_law_bent _ _ [_, _, _, .un, .un, .un]
  unfold t_law_bent
  and_intros
  refine ⟨n, a, ds, 10, rfl, hj, by omega, by decide, by decide, fun way ds1 fin w0 w1 hj1 => ?_⟩
  trivial
  rw [nD_len]
  refine ⟨n + 1, a, ds1, (o.length : Nat) + 1, rfl, hj1, by omega, by omega, by omega, fun at' ds2 fin a0 a1 hj2 => ?_⟩
  trivial
  unfold k2_law_bent
  and_intros
  refine ⟨by decide, ⟨by decide, by decide, by decide⟩, ⟨by decide, by decide, by decide⟩, by decide, by decide, fun b6 => ?_⟩
  refine ⟨n + 2, a, ds2, 10, rfl, hj2, by omega, by decide, by decide, fun r ds3 fin r0 r1 hj3 => ?_⟩
  have hodd : ∀ o ∈ [D.int (many : Nat), D.int (-1), D.bl true, D.non, D.str (Str.ofString "0"), D.tup [D.int 0], D.int (10 ^ Int.toNat 39), D.int (0 - 10 ^ Int.toNat 39), D.bl false, D.lst [D.int 0]], Dc 1 2 o :=
    allMem (Dc.nat (by omega)) <| allMem (Dc.int (by decide +kernel)) <| allMem Dc.bl <| allMem Dc.non <| allMem Dc.str <| allMem (Dc.t1 (Dc.int (n := 0) (i := 0) (by decide +kernel))) <| allMem (Dc.int e39) <| allMem (Dc.int e39n) <| allMem Dc.bl <| allMem (Dc.l1 (Dc.int (n := 0) (i := 0) (by decide +kernel))) allNil
  have hl10 : [D.int (many : Nat), D.int (-1), D.bl true, D.non, D.str (Str.ofString "0"), D.tup [D.int 0], D.int (10 ^ Int.toNat 39), D.int (0 - 10 ^ Int.toNat 39), D.bl false, D.lst [D.int 0]].length = 10 := rfl
  generalize [D.int (many : Nat), D.int (-1), D.bl true, D.non, D.str (Str.ofString "0"), D.tup [D.int 0], D.int (10 ^ Int.toNat 39), D.int (0 - 10 ^ Int.toNat 39), D.bl false, D.lst [D.int 0]] = odds at hodd hl10 ⊢
  trivial
  obtain ⟨od, ho, hom⟩ := atI_mem (xs := odds) r0 (by omega)
  refine ⟨od, ho, ?_⟩
  trivial
  have hdo := hodd od hom
  unfold k1_law_bent
  and_intros
  have hD : Dcs 1 24 (nD o) := (Dcs.nats fun m hm' => by have := hs m hm'; omega).mono hl
  have cl : ∀ lo hi, (cutD (nD o) lo hi).length ≤ 24 := fun lo hi => (hD.cut lo hi).len
  have c1 := cl none (some at')
  have c2 := cl (some (at' + way % 2)) none
  have c3 := cl (some (-1)) none
  have c4 := cl none (some 1)
  have s1 : ∀ k, k ≤ 100 → k ≤ sizeLine := fun k h => Nat.le_trans h (by decide)
  have e1 : ∀ (l : List D), (l ++ [od]).length = l.length + 1 := fun l => by simp
  by_cases hw : way < 5
  · rw [if_pos hw]
    refine ⟨by decide, s1 _ (by omega), by decide, s1 _ (by rw [e1]; omega), hQ _ _ _ ?_ hj3⟩
    exact up60 (Dc.tup (((hD.cut none (some at')).app (Dcs.one (m := 3) hdo)).app (hD.cut _ none)))
  · rw [if_neg hw]
    refine ⟨s1 _ (by rw [nD_len]; omega), s1 _ (by rw [nD_len]; omega), by decide, by decide, ?_⟩
    have hL : ∀ d ∈ [D.lst (nD o), D.tup (nD o ++ cutD (nD o) (some (-1)) none), D.tup (cutD (nD o) none (some 1) ++ nD o), D.non, D.tup [D.tup (nD o)]], Dc 3 60 d :=
      allMem (up60 (Dc.lst hD)) <| allMem (up60 (Dc.tup (hD.app (hD.cut _ _)))) <| allMem (up60 (Dc.tup ((hD.cut _ _).app hD))) <| allMem Dc.non <| allMem (Dc.t1 (Dc.tup hD)) allNil
    have h5 : [D.lst (nD o), D.tup (nD o ++ cutD (nD o) (some (-1)) none), D.tup (cutD (nD o) none (some 1) ++ nD o), D.non, D.tup [D.tup (nD o)]].length = 5 := rfl
    generalize [D.lst (nD o), D.tup (nD o ++ cutD (nD o) (some (-1)) none), D.tup (cutD (nD o) none (some 1) ++ nD o), D.non, D.tup [D.tup (nD o)]] = l at hL h5 ⊢
    obtain ⟨y, hy, hym⟩ := atI_mem (xs := l) (r := way - 5) (by omega) (by omega)
    refine ⟨y, hy, ?_⟩
    trivial
    exact hQ _ _ _ (hL y hym) hj3
def sp_law_order : DSpec := fun args Q _ => ∃ (n : Nat) (a : Addr) (ds : List D) (many k : Nat), args = [.lst a ds, dI (many : Nat), dI (k : Nat)] ∧ JarOk n ds ∧ n + 64 < 4294967296 ∧ many ≤ 60 ∧ k ≤ many ∧
  ∀ (o : List Nat) ds' fin, o.Nodup → (∀ m ∈ o, m < many) → o.length = k → JarOk (n + 64) ds' → Q (.ext (.tup (nD o))) (.lst a ds' :: fin)
def e1_law_order : DT :=
    (dPopAt 3 (dCallJ sp_law_dip 0 (dCons (dCB fLen (dCons (dVar 3) dNil)) dNil)))
def t_law_order : DTS :=
    (sSeq (sSet 3 (dLstRg (dRg1 (dVar 1))))
    (sRet (dCB fTuple (dCons (dLc (dRange1 (dCons (dVar 2) dNil)) (gSet 4) dYes e1_law_order [4]) dNil))))
theorem m_law_order : Meets t_law_order 3 2 sp_law_order := by
  rintro args Qd Xd ⟨n, a, ds, many, k, rfl, hj, hn, hl, hk, hQ⟩
  show t_law_order _ _ [_, _, _, .un, .un]
  unfold t_law_order
  and_intros
  rw [rgD_nat]
  refine ⟨⟨by omega, by omega⟩, fun a2 => ⟨⟨by omega, by omega⟩, ?_⟩⟩
  rw [rgD_nat]
  refine lc_ind (fun k : Nat => D.int (k : Int)) (fun xs acc env => ∃ (m : Nat) (ds : List D) (o l : List Nat), env = [.lst a ds, dI (many : Nat), dI (k : Nat), .lst a2 (nD l), .un] ∧ acc = nD o ∧ JarOk m ds ∧ m + xs.length ≤ n + 64 ∧ xs.length ≤ l.length ∧ o.length + xs.length = k ∧ (o ++ l).Perm (List.range many)) ?_ ?_ (List.range k) [] _
    ⟨n, ds, [], List.range many, rfl, rfl, hj, by rw [List.length_range]; omega, by rw [List.length_range, List.length_range]; exact hk, by rw [List.length_range]; simp, List.Perm.refl _⟩
  · rintro acc env ⟨m, ds4, o, l, rfl, rfl, hj4, hm4, hl4, hok, hp⟩
    refine ⟨True.intro, fun b => ?_⟩
    trivial
    have nd := hp.symm.nodup List.nodup_range
    exact hQ o _ _ (List.nodup_append.1 nd).1 (fun m hm => List.mem_range.1 (hp.mem_iff.1 (List.mem_append_left _ hm))) (by simpa using hok) (hj4.up (by simpa using hm4))
  · rintro q xs acc env N ⟨m, ds4, o, l, rfl, rfl, hj4, hm4, hl4, hok, hp⟩ hN
    rw [List.length_cons] at hm4 hl4 hok
    have hol := hp.length_eq
    rw [List.length_append, List.length_range] at hol
    refine ⟨True.intro, by rw [nD_len]; exact Nat.lt_of_le_of_lt (by omega : o.length ≤ 100) (by decide), ?_⟩
    unfold e1_law_order
    trivial
    rw [nD_len]
    refine ⟨m, a, ds4, _, rfl, hj4, by omega, by omega, by omega, fun r ds5 fin r0 r1 hj5 => ?_⟩
    trivial
    obtain ⟨i, rfl⟩ := Int.eq_ofNat_of_zero_le r0
    have hi : i < l.length := by omega
    refine ⟨r0, by omega, _, (by rw [Int.toNat_natCast, List.getElem?_map, List.getElem?_eq_getElem hi]; rfl : (nD l)[((i : Nat) : Int).toNat]? = some (.int ((l[i] : Nat) : Int))), ?_⟩
    trivial
    have e1 : (nD l).eraseIdx ((i : Nat) : Int).toNat = nD (l.eraseIdx i) := by
      rw [Int.toNat_natCast]
      exact erase_map _ l i
    refine hN _ _ ⟨m + 1, ds5, o ++ [l[i]], l.eraseIdx i, by rw [e1], by rw [nD_app]; rfl, hj5, by omega, by rw [List.length_eraseIdx_of_lt hi]; omega, by rw [List.length_append, List.length_singleton]; omega, ?_⟩
    rw [List.append_assoc]
    refine (List.Perm.append_left o ?_).trans hp
    show (l[i] :: l.eraseIdx i).Perm l
    exact erase_perm l hi
def k1_law : DTS :=
    (sIf (dTest (dOp fNe (dFrzT 2 (dCall sp_taken_out (dCons (dVar 3) (dCons (dVar 4) (dCons (dVar 7) dNil))))) (dVar 8))) (sRet (dC (.bl false))) sNext)
def k2_law : DTS :=
    (sSeq (sDrop (dClrR (dAsP 9 (dOp fIx (dVarG 9) (dC (.int 1))))))
    k1_law)
def k3_law : DTS :=
    (sSeq (sDrop (dClrR (dAsP 9 (dOp fIx (dVarG 9) (dC (.int 0))))))
    k2_law)
def k4_law : DTS :=
    (sSeq (sIf (dNot (dTest (dCallD 9 2 sp_law_same (dCons (dVarG 9) (dCons (dVar 8) dNil))))) (sRet (dC (.bl false))) sNext)
    k3_law)
def k5_law : DTS :=
    (sSeq (sSet 9 (dCall sp_taken_out (dCons (dVar 3) (dCons (dVar 4) (dCons (dVar 7) dNil)))))
    k4_law)
def b6_law : DTS :=
    (sSeq (sSetE 8 (dCall sp_law_due (dCons (dVar 3) (dCons (dVar 4) (dCons (dVar 7) dNil)))))
    k5_law)
def k7_law : DTS :=
    (sIf (dTest (dOp fNe (dCB fRepr (dCons (dVar 11) dNil)) (dVar 12))) (sRet (dC (.bl false))) sNext)
def k8_law : DTS :=
    (sSeq (sIf (dAnd (dNot (dTest (dCall sp_law_is_order (dCons (dVar 11) (dCons (dVar 5) dNil))))) (dTest (dOp fNe (dCall (sp_law_refused FT30 cs30) (dCons (dC (.glo "taken_out")) (dCons (dTup (dCons (dVar 3) (dCons (dVar 4) (dCons (dVar 11) dNil)))) dNil))) (dC (.str (Str.ofString "name")))))) (sRet (dC (.bl false))) sNext)
    k7_law)
def k9_law : DTS :=
    (sSeq (sSetE 12 (dCB fRepr (dCons (dVar 11) dNil)))
    k8_law)
def b10_law : DTS :=
    (sSeq (sSetE 11 (dCallJ sp_law_bent 1 (dCons (dVar 6) (dCons (dVar 5) dNil))))
    k9_law)
def k11_law : DTS :=
    (sFor (dRange1 (dCons (dC (.int 5)) dNil)) (gSet 10) b10_law)
def k12_law : DTS :=
    (sSeq (sFor (dSeq (dLst (dCons (dVar 6) (dCons (dCallJ sp_law_order 1 (dCons (dVar 5) (dCons (dVar 5) dNil))) (dCons (dTup dNil) dNil))))) (gSet 7) b6_law)
    k11_law)
def k13_law : DTS :=
    (sSeq (sSetE 6 (dCallJ sp_law_order 1 (dCons (dVar 5) (dCons (dCallJ sp_law_dip 1 (dCons (dOp fAdd (dVar 5) (dC (.int 1))) dNil)) dNil))))
    k12_law)
def k14_law : DTS :=
    (sSeq (sSetE 5 (dCB fLen (dCons (dOp fIx (dVar 4) (dC (.int 0))) dNil)))
    k13_law)
def k15_law : DTS :=
    (sSeq (sSetE 4 (dCallJ sp_law_sheet 1 (dCons (dVar 3) (dCons (dC (.int 6)) (dCons (dC (.int 48)) (dCons (dC (.int 5)) dNil))))))
    k14_law)
def b16_law : DTS :=
    (sSeq (sSetE 3 (dCallJ sp_law_word 1 dNil))
    k15_law)
def k17_law : DTS :=
    (sRet (dC (.bl true)))
def k18_law : DTS :=
    (sSeq (sFor (dRange1 (dCons (dC (.int 3)) dNil)) (gSet 2) b16_law)
    k17_law)
def t_law : DTS :=
    (sSeq (sSet 1 (dCall sp_law_jar (dCons (dVar 0) dNil)))
    k18_law)
theorem m_law : Meets t_law 1 12 (lawSpec 63) := by
  rintro args Qd Xd ⟨ns, rfl, hl, hQ⟩
  show t_law _ _ [_, .un, .un, .un, .un, .un, .un, .un, .un, .un, .un, .un, .un]
  unfold t_law
  and_intros
  refine ⟨ns, rfl, hl, fun a ds fin hj => ?_⟩
  trivial
  unfold k18_law
  and_intros
  refine ⟨⟨by decide, by decide⟩, ?_⟩
  rw [show rgD 0 3 = nD (List.range 3) from rgD_nat 3]
  refine for_ind (fun i : Nat => D.int (i : Nat)) (fun is env => ∃ (n : Nat) (ds : List D) (u2 u3 u4 u5 u6 u7 u8 u9 u10 u11 u12 : Sl), env = [.ext (.fz (ns.map D.int)), .lst a ds, u2, u3, u4, u5, u6, u7, u8, u9, u10, u11, u12] ∧ JarOk n ds ∧ n + is.length * 1000000 < 4294967296) ?_ ?_ (List.range 3) _ ⟨0, ds, _, _, _, _, _, _, _, _, _, _, _, rfl, hj, by decide⟩
  · rintro env ⟨n, ds, u2, u3, u4, u5, u6, u7, u8, u9, u10, u11, u12, rfl, _⟩
    refine ⟨True.intro, ?_⟩
    unfold k17_law
    and_intros
    exact hQ _
  rintro i is env N ⟨n, ds, u2, u3, u4, u5, u6, u7, u8, u9, u10, u11, u12, rfl, hj, hn⟩ hN
  rw [List.length_cons] at hn
  refine ⟨True.intro, ?_⟩
  unfold b16_law
  and_intros
  refine ⟨n, a, ds, rfl, hj, by omega, fun w ds1 fin hj1 => ?_⟩
  trivial
  unfold k15_law
  and_intros
  refine ⟨n + 1, a, ds1, w, 6, 48, 5, rfl, hj1, by omega, by decide, by decide, by decide, by decide, by decide, fun S ps ds2 fin hS hS0 hS6 hSr hps hpl hp3 hj2 => ?_⟩
  trivial
  unfold k14_law
  and_intros
  unfold k13_law
  and_intros
  rw [nD_len]
  refine ⟨n + 1 + 700000, a, ds2, (S.length : Nat) + 1, rfl, hj2, by omega, by omega, by omega, fun c ds3 fin c0 c1 hj3 => ?_⟩
  trivial
  obtain ⟨c, rfl⟩ := Int.eq_ofNat_of_zero_le c0
  refine ⟨_, a, ds3, S.length, c, rfl, hj3, by omega, by omega, by omega, fun oo ds4 fin ndo hino hlo hj4 => ?_⟩
  trivial
  unfold k12_law
  and_intros
  refine ⟨_, a, ds4, S.length, S.length, rfl, hj4, by omega, by omega, Nat.le_refl _, fun o2 ds5 fin nd2 hin2 hl2 hj5 => ?_⟩
  trivial
  have hnz : nzL ps ≤ 5 := Nat.le_trans (List.length_filter_le _ _) (by omega)
  have hB : BdS (40 * ps.length) ps := BdS.all (by decide) fun p hp => (hps p hp).2.bd
  have hok : ∀ p ∈ ps, p.Ok S := fun p hp => (hps p hp).1
  have hos0 : ∀ o ∈ [oo, o2, []], o.Nodup ∧ ∀ m ∈ o, m < S.length := fun o ho => by
    simp only [List.mem_cons, List.not_mem_nil, or_false] at ho
    rcases ho with rfl | rfl | rfl
    · exact ⟨ndo, hino⟩
    · exact ⟨nd2, hin2⟩
    · exact ⟨List.nodup_nil, fun m hm => nomatch hm⟩
  refine ⟨by decide, by decide, ?_⟩
  refine for_ind (fun o : List Nat => D.tup (nD o)) (fun os env => ∃ (u7 u8 u9 : Sl), env = [.ext (.fz (ns.map D.int)), .lst a ds5, dI (i : Nat), dW w, .ext (dSh S ps), dI (S.length : Nat), .ext (.tup (nD oo)), u7, u8, u9, u10, u11, u12] ∧ ∀ o ∈ os, o.Nodup ∧ ∀ m ∈ o, m < S.length) ?_ ?_ [oo, o2, []] _ ⟨_, _, _, rfl, hos0⟩
  rotate_left
  · rintro o os env N1 ⟨u7, u8, u9, rfl, hos⟩ hN1
    obtain ⟨nd, hin⟩ := hos o List.mem_cons_self
    refine ⟨True.intro, ?_⟩
    unfold b6_law
    and_intros
    refine ⟨w, S, ps, o, _, rfl, hS, hok, by omega, hB, by omega, hnz, by omega, nd, hin, fun fin => ?_⟩
    trivial
    unfold k5_law
    and_intros
    have hol := nodup_le nd hin
    have hDo : Dc 1 24 (.tup (nD o)) := Dc.tup ((Dcs.nats (k := 0) fun m hm => by have := hin m hm; omega).mono (by omega))
    refine ⟨w, S, ps, _, 1, _, rfl, hS, hok, by omega, hB, by omega, hDo.pl, Dc.short hDo (by decide), fun o' e nd' hl' p q fin hpq => ?_, fun h => absurd ⟨o, rfl, nd, fun m hm => by have := hin m hm; omega⟩ h⟩
    have e : o = o' := nD_inj (D.tup.inj e)
    subst e
    and_intros
    unfold k4_law
    and_intros
    rw [deep2_due, deep2_told hpq]
    have hTok := takes_ok (w := w) hok hin
    have hTl := takes_len (w := w) (S := S) (o := o) (ps := ps)
    have hBl := takeB_len (w := w) (S := S) (o := o) (ps := ps)
    have hBs : ∀ b ∈ takeB w S ps o, b.length ≤ 1000 := takeB_small hS.few hok hin
    refine ⟨_, rfl, due_pl hS hTok (by omega) hBs (by omega), fun fin => ⟨rfl, True.intro, ?_⟩⟩
    and_intros
    rw [if_neg (by decide)]
    unfold k3_law
    and_intros
    rw [cell1]
    and_intros
    unfold k2_law
    and_intros
    rw [put1 hpq, cell2 hpq]
    and_intros
    unfold k1_law
    and_intros
    refine ⟨w, S, ps, _, 1, _, rfl, hS, hok, by omega, hB, by omega, hDo.pl, Dc.short hDo (by decide), fun o' e nd' hl' p2 q2 fin hpq2 => ?_, fun h => absurd ⟨o, rfl, nd, fun m hm => by have := hin m hm; omega⟩ h⟩
    have e : o = o' := nD_inj (D.tup.inj e)
    subst e
    and_intros
    rw [deep2_told hpq2]
    refine ⟨cmp_due _ _, cmp_due _ _, ?_⟩
    and_intros
    rw [if_neg (by rw [eqv_refl (cmp_due _ _)]; decide)]
    exact hN1 _ ⟨_, _, _, rfl, fun o' ho' => hos o' (List.mem_cons_of_mem _ ho')⟩
  rintro env ⟨u7, u8, u9, rfl, _⟩
  refine ⟨True.intro, ?_⟩
  unfold k11_law
  and_intros
  refine ⟨⟨by decide, by decide⟩, ?_⟩
  rw [show rgD 0 5 = nD (List.range 5) from rgD_nat 5]
  refine for_ind (fun k : Nat => D.int (k : Nat)) (fun ks env => ∃ (m : Nat) (ds : List D) (u10 u11 u12 : Sl), env = [.ext (.fz (ns.map D.int)), .lst a ds, dI (i : Nat), dW w, .ext (dSh S ps), dI (S.length : Nat), .ext (.tup (nD oo)), u7, u8, u9, u10, u11, u12] ∧ JarOk m ds ∧ m + 10 * ks.length ≤ n + 900000) ?_ ?_ (List.range 5) _ ⟨_, ds5, _, _, _, rfl, hj5, by rw [List.length_range]; omega⟩
  · rintro env ⟨m, ds6, u10, u11, u12, rfl, hj6, hm6⟩
    rw [List.length_nil] at hm6
    exact ⟨True.intro, hN _ ⟨m, ds6, _, _, _, _, _, _, _, _, _, _, _, rfl, hj6, by omega⟩⟩
  rintro k ks env N1 ⟨m, ds6, u10, u11, u12, rfl, hj6, hm6⟩ hN1
  rw [List.length_cons] at hm6
  refine ⟨True.intro, ?_⟩
  unfold b10_law
  and_intros
  have hol := nodup_le ndo hino
  refine ⟨m, a, ds6, oo, S.length, rfl, hj6, by omega, by omega, fun x hx => by have := hino x hx; omega, by omega, fun d ds7 fin hd hj7 => ?_⟩
  and_intros
  unfold k9_law
  and_intros
  have hsh := hd.sh (by decide) (by decide)
  refine ⟨hsh, ?_⟩
  unfold k8_law
  and_intros
  refine ⟨S.length, d, 3, rfl, hd.pl, Dc.short hd (by decide), fun b fin hbo => ?_⟩
  trivial
  have last : k7_law (exOf [Sl.ext (D.fz (List.map D.int ns))] Xd) { nx := N1, rt := fun r env => Qd r [Sl.ext (D.fz (List.map D.int ns))], bk := N, ct := N1 } [.ext (.fz (ns.map D.int)), .lst a ds7, dI (i : Nat), dW w, .ext (dSh S ps), dI (S.length : Nat), .ext (.tup (nD oo)), u7, u8, u9, dI (k : Nat), .ext d, .ext (.str d.py.shown)] := by
    unfold k7_law
    and_intros
    refine ⟨hsh, ?_⟩
    rw [if_neg (by simp)]
    exact hN1 _ ⟨_, ds7, _, _, _, rfl, hj7, by omega⟩
  cases b with
  | true =>
    rw [if_neg (by decide)]
    exact last
  | false =>
    have hno : ¬ OrderD (S.length : Nat) d := fun h => by have := hbo.2 h; cases this
    rw [if_pos (by decide)]
    refine ⟨by decide, "taken_out", 3, sp_taken_out, _, rfl, rfl, by simp, by simp, .inl ⟨"NoName", by decide, by decide, fun Q' X' h => ⟨w, S, ps, d, 3, _, rfl, hS, hok, by omega, hB, by omega, hd.pl, Dc.short hd (by decide), fun o e nd' hl' _ _ _ _ => absurd ⟨o, e, nd', fun m hm => by have := hl' m hm; omega⟩ hno, fun _ => h⟩, fun fin => ?_⟩⟩
    trivial
    rw [if_neg (by decide +kernel)]
    exact last
end K30
end LS
namespace HD
open PySem L2
abbrev FnD (K : PySem.W.Frag) (x : Str) (st : Stmt) (f : Addr) (fd : FuncData) : Prop := FunD K x x (defArgs st) (defBody st) (defScope st) [] [] f fd
theorem Def.of {G : GG} {x : Str} {st : Stmt} {f : Addr} {fd : FuncData} {N ps : List Str} {k n m : Nat} {t : DTS} {sp : DSpec} (F : FnD G.K x st f fd) (hmg : G.mg x = some (.ref f)) (sc : FnScope N ps (defScope st)) (hb : DSs G N (fnS (defScope st)) k (defBody st) t) (hm : Meets t n m sp)
    (hn : ps.length = n) (hN : N.length = n + m) (len : ∀ ds Q X, sp ds Q X → ds.length = n) (bd : Binds G.K fd ps []) : Def G (k + 1) x n sp := by
  subst hn
  refine ⟨⟨f, fd, ps, fn_ok (He5.fun_of F) sc hb fun args Qd Xd h hl => ?_, hmg, F.kp, bd⟩, len⟩
  have e : N.length - args.length = m := by omega
  rw [e]
  exact hm args Qd Xd h
theorem Def.none {G : GG} {x : Str} {st : Stmt} {f : Addr} {fd : FuncData} {ps : List Str} {k n : Nat} (F : FnD G.K x st f fd) (hmg : G.mg x = some (.ref f)) (bd : Binds G.K fd ps []) : Def G k x n fun _ _ _ => False :=
  ⟨⟨f, fd, ps, ⟨fun _ _ _ _ h => by obtain ⟨_, _, _, _, _, _, z, _⟩ := h; exact z.elim, fun _ _ _ _ _ _ _ _ _ _ _ _ _ _ h => by obtain ⟨_, _, _, _, _, _, z, _⟩ := h; exact z.elim⟩, hmg, F.kp, bd⟩, fun _ _ _ z => z.elim⟩
theorem Def.ok {G : GG} {k : Nat} {x : Str} {sp : DSpec} {fa : Addr} {st : Stmt} {fd : FuncData} {N : List Str} {m : Nat} {t : DTS} (F : FnD G.K x st fa fd) (sc : FnScope N ["script"] (defScope st)) (hb : DSs G N (fnS (defScope st)) k (defBody st) t) (hm : Meets t 1 m sp) (hN : N.length = 1 + m) :
    FnG G.P G.w G.K G.mg G.base (L2.CX G.P G.w) (k + 1) fa fd ["script"] (toSp G.K 1 sp) := by
  refine fn_ok (He5.fun_of F) sc hb fun args Qd Xd h hl => ?_
  have e : N.length - args.length = m := by
    have : args.length = 1 := hl
    omega
  rw [e]
  exact hm args Qd Xd h
theorem walkW {l : PySem.W.OpenLaw} {n k : Nat} {q : Program} {names : List Str} {XP : (Str → Option Value) → Heap → Prop} {YP : World → Heap → Prop} {d : DefRec} {CX : World → CXT} {x : Str}
    (hn : l.most = some n) (hz : n ≤ sizeLine) (hd0 : d.params.defaults = []) (room : Room k callerA)
    (F : ∀ (w : World) (mg : Str → Option Value) (f : Addr) (h : Heap), YP w h → h.Ns mainGlobals mg → mg d.name = some (.ref f) →
      ∃ (K : PySem.W.Frag) (fd : FuncData) (sp : Sp), K.In h ∧ (∀ (s : Shared) (v : Value), BindsTo s fd ⟨[v], []⟩ [(x, v)]) ∧
        (∀ (H : Hp) (a : Addr) (ns : List Int), ns.length ≤ n → SqL K H a (ns.map V.int) → sp [.ref a] H (fun v _ => v = .bl true) fun _ _ _ => False) ∧
        ∀ base : Heap, K.In base → base.Ns mainGlobals mg → FnG l.prog w K mg base (CX w) k f fd [x] sp)
    (no : ∀ (w : World) (H : Hp) (s : Shared) (e : Value) (s' : Shared), CX w [] H s (fun _ _ _ => False) e s' → False) :
    PySem.W.WalkO q names XP YP l.row.toRowW d [] (fun f vs => PySem.call f vs) := by
  refine Att.attach_call hn hd0 fun w s s1 mg mb f o pm cd doc a vs ns G Y h1 h2 h3 hm h4 h5 h6 h7 => ?_
  obtain ⟨K, fd, sp, hK, hb, hsp, hF⟩ := F w mg f _ Y G.T.g hm
  exact law_callG hK G.T.g G.T.b G.T.builtins G.T.nolimit h7 h4 h5 (Nat.le_trans h6 hz) room hF hb (fun H _ hS => hsp H a ns h6 hS) fun H e s' => no w H s1 e s'
end HD
namespace LS.K30.E
open PySem L2 HD PM
open K02 (t_law_sheet m_law_sheet sp_law_sheet)
abbrev N_unit : List Str := ["word"]
abbrev P_unit : List Str := ["word"]
theorem sc_unit : FnScope N_unit P_unit (defScope s_unit) := ⟨rfl, rfl, rfl, by decide +kernel, rfl, by decide +kernel, by decide +kernel⟩
theorem d_unit {G : GG} (B : Blt G) (k_ROOF : ∃ t, G.mg "ROOF" = some (.int 1000000000000000000000000000000 t)) : DSs G N_unit (fnS (defScope s_unit)) 0 (defBody s_unit) t_unit :=
    (dss_cons (ds_if (dt_cmp c_in (de_var 0) (de_tup (da_cons de_str (da_cons de_str da_nil)))) (dss_one (ds_ret de_int)) dss_nil)
    (dss_one (ds_ret (de_if (dt_cmp c_eq (de_var 0) de_str) (de_gint k_ROOF) de_int))))
abbrev N_join : List Str := ["word", "one", "other"]
abbrev P_join : List Str := ["word", "one", "other"]
theorem sc_join : FnScope N_join P_join (defScope s_join) := ⟨rfl, rfl, rfl, by decide +kernel, rfl, by decide +kernel, by decide +kernel⟩
theorem d_join {G : GG} (B : Blt G) : DSs G N_join (fnS (defScope s_join)) 0 (defBody s_join) t_join :=
    (dss_cons (ds_if (dt_cmp c_eq (de_var 0) de_str) (dss_one (ds_ret (de_mul (de_var 1) (de_var 2)))) dss_nil)
    (dss_cons (ds_if (dt_cmp c_in (de_var 0) (de_tup (da_cons de_str (da_cons de_str da_nil)))) (dss_one (ds_ret (de_add (de_var 1) (de_var 2)))) dss_nil)
    (dss_one (ds_ret (de_cb b_min B.min (da_cons (de_var 1) (da_cons (de_var 2) da_nil)))))))
abbrev N_gather : List Str := ["word", "numbers"]
abbrev P_gather : List Str := ["word", "numbers"]
theorem sc_gather : FnScope N_gather P_gather (defScope s_gather) := ⟨rfl, rfl, rfl, by decide +kernel, rfl, by decide +kernel, by decide +kernel⟩
theorem d_gather {G : GG} (B : Blt G) : DSs G N_gather (fnS (defScope s_gather)) 0 (defBody s_gather) t_gather :=
    (dss_cons (ds_if (dt_cmp c_eq (de_var 0) de_str) (dss_one (ds_ret (de_cb b_sum B.sum (da_cons (de_var 1) da_nil)))) dss_nil)
    (dss_one (ds_ret (de_if (dt_cmp c_eq (de_var 0) de_str) (de_cb b_min B.min (da_cons (de_var 1) da_nil)) (de_cb b_max B.max (da_cons (de_var 1) da_nil))))))
abbrev N_is_whole : List Str := ["thing"]
abbrev P_is_whole : List Str := ["thing"]
theorem sc_is_whole : FnScope N_is_whole P_is_whole (defScope s_is_whole) := ⟨rfl, rfl, rfl, by decide +kernel, rfl, by decide +kernel, by decide +kernel⟩
theorem d_is_whole {G : GG} (B : Blt G) : DSs G N_is_whole (fnS (defScope s_is_whole)) 0 (defBody s_is_whole) t_is_whole :=
    (dss_one (ds_ret (de_and (de_cb b_isi B.isinstance (da_cons (de_var 0) (da_cons (de_bltn (v := .ty "int") rfl B.int (by decide +kernel) rfl) da_nil))) (de_one (de_not (de_cb b_isi B.isinstance (da_cons (de_var 0) (da_cons (de_bltn (v := .ty "bool") rfl B.bool (by decide +kernel) rfl) da_nil))))))))
abbrev N_fillings_of : List Str := ["sizes", "names", "found", "name", "longer", "some", "worth"]
abbrev P_fillings_of : List Str := ["sizes", "names"]
theorem sc_fillings_of : FnScope N_fillings_of P_fillings_of (defScope s_fillings_of) := ⟨rfl, rfl, rfl, by decide +kernel, rfl, by decide +kernel, by decide +kernel⟩
theorem d_fillings_of {G : GG} (B : Blt G) : DSs G N_fillings_of (fnS (defScope s_fillings_of)) 0 (defBody s_fillings_of) t_fillings_of :=
    (dss_cons (ds_setE 2 (de_lst (da_cons (de_tup da_nil) da_nil)))
    (dss_cons (ds_for (di_seq (de_var 1)) (dg_name 3) (dss_cons (ds_set 4 (de_lst da_nil))
    (dss_cons (ds_for (di_seq (de_var 2)) (dg_name 5) (dss_one (ds_expr (de_extend 4 (de_lc [(Str.ofString "worth", 6)] (di_range1 (da_cons (de_ix (de_var 0) (de_var 3)) da_nil) B.range) (by decide +kernel) (dg_name 6) dtl_nil (de_add (de_var 5) (de_tup (da_cons (de_var 6) da_nil))))))))
    (dss_one (ds_setE 2 (de_var 4))))))
    (dss_one (ds_ret (de_var 2)))))
abbrev N_place_of : List Str := ["sizes", "names", "worths", "found", "name", "worth"]
abbrev P_place_of : List Str := ["sizes", "names", "worths"]
theorem sc_place_of : FnScope N_place_of P_place_of (defScope s_place_of) := ⟨rfl, rfl, rfl, by decide +kernel, rfl, by decide +kernel, by decide +kernel⟩
theorem d_place_of {G : GG} (B : Blt G) : DSs G N_place_of (fnS (defScope s_place_of)) 0 (defBody s_place_of) t_place_of :=
    (dss_cons (ds_setE 3 de_int)
    (dss_cons (ds_for (di_zip (de_var 1) (de_var 2) B.zip) (dg_tup (dgs_cons (dg_name 4) (dgs_cons (dg_name 5) dgs_nil))) (dss_one (ds_setE 3 (de_add (de_mul (de_var 3) (de_ix (de_var 0) (de_var 4))) (de_var 5)))))
    (dss_one (ds_ret (de_var 3)))))
abbrev N_without : List Str := ["names", "name", "one"]
abbrev P_without : List Str := ["names", "name"]
theorem sc_without : FnScope N_without P_without (defScope s_without) := ⟨rfl, rfl, rfl, by decide +kernel, rfl, by decide +kernel, by decide +kernel⟩
theorem d_without {G : GG} (B : Blt G) : DSs G N_without (fnS (defScope s_without)) 0 (defBody s_without) t_without :=
    (dss_one (ds_ret (de_ct t_tuple B.tuple (da_cons (de_lc [(Str.ofString "one", 2)] (di_seq (de_var 0)) (by decide +kernel) (dg_name 2) (dtl_one (dt_cmp c_ne (de_var 2) (de_var 1))) (de_var 2)) da_nil))))
abbrev N_law_jar : List Str := ["script"]
abbrev P_law_jar : List Str := ["script"]
theorem sc_law_jar : FnScope N_law_jar P_law_jar (defScope s_law_jar) := ⟨rfl, rfl, rfl, by decide +kernel, rfl, by decide +kernel, by decide +kernel⟩
theorem d_law_jar {G : GG} (B : Blt G) : DSs G N_law_jar (fnS (defScope s_law_jar)) 0 (defBody s_law_jar) t_law_jar :=
    (dss_one (ds_ret (de_lst (da_cons (de_ct t_list B.list (da_cons (de_slice (de_var 0) do_none (do_some de_int)) da_nil)) (da_cons de_int (da_cons de_int da_nil))))))
abbrev N_law_prime : List Str := ["at", "some"]
abbrev P_law_prime : List Str := ["at"]
theorem sc_law_prime : FnScope N_law_prime P_law_prime (defScope s_law_prime) := ⟨rfl, rfl, rfl, by decide +kernel, rfl, by decide +kernel, by decide +kernel⟩
theorem d_law_prime {G : GG} (B : Blt G) : DSs G N_law_prime (fnS (defScope s_law_prime)) 0 (defBody s_law_prime) t_law_prime :=
    (dss_cons (ds_setE 1 (de_lst (da_cons de_int (da_cons de_int (da_cons de_int (da_cons de_int (da_cons de_int (da_cons de_int (da_cons de_int (da_cons de_int da_nil))))))))))
    (dss_one (ds_ret (de_ix (de_add (de_var 1) (de_lst (da_cons de_int (da_cons de_int (da_cons de_int da_nil))))) (de_mod (de_var 0) de_int)))))
abbrev N_law_join : List Str := ["word", "one", "other"]
abbrev P_law_join : List Str := ["word", "one", "other"]
theorem sc_law_join : FnScope N_law_join P_law_join (defScope s_law_join) := ⟨rfl, rfl, rfl, by decide +kernel, rfl, by decide +kernel, by decide +kernel⟩
theorem d_law_join {G : GG} (B : Blt G) : DSs G N_law_join (fnS (defScope s_law_join)) 0 (defBody s_law_join) t_law_join :=
    (dss_cons (ds_if (dt_cmp c_eq (de_var 0) de_str) (dss_one (ds_ret (de_mul (de_var 1) (de_var 2)))) dss_nil)
    (dss_cons (ds_if (dt_cmp c_in (de_var 0) (de_tup (da_cons de_str (da_cons de_str da_nil)))) (dss_one (ds_ret (de_add (de_var 1) (de_var 2)))) dss_nil)
    (dss_one (ds_ret (de_if (dt_cmp c_lt (de_var 1) (de_var 2)) (de_var 1) (de_var 2))))))
abbrev N_law_gather : List Str := ["word", "numbers", "found", "number"]
abbrev P_law_gather : List Str := ["word", "numbers"]
theorem sc_law_gather : FnScope N_law_gather P_law_gather (defScope s_law_gather) := ⟨rfl, rfl, rfl, by decide +kernel, rfl, by decide +kernel, by decide +kernel⟩
theorem d_law_gather {G : GG} (B : Blt G) : DSs G N_law_gather (fnS (defScope s_law_gather)) 0 (defBody s_law_gather) t_law_gather :=
    (dss_cons (ds_setE 2 (de_ix (de_var 1) de_int))
    (dss_cons (ds_for (di_seq (de_slice (de_var 1) (do_some de_int) do_none)) (dg_name 3) (dss_one (ds_if (dt_cmp c_eq (de_var 0) de_str) (dss_one (ds_setE 2 (de_add (de_var 2) (de_var 3)))) (dss_one (ds_if (dt_cmp c_eq (de_cmp c_lt (de_var 3) (de_var 2)) (de_cmp c_eq (de_var 0) de_str)) (dss_one (ds_setE 2 (de_var 3))) dss_nil)))))
    (dss_one (ds_ret (de_var 2)))))
abbrev N_law_nothing : List Str := ["word"]
abbrev P_law_nothing : List Str := ["word"]
theorem sc_law_nothing : FnScope N_law_nothing P_law_nothing (defScope s_law_nothing) := ⟨rfl, rfl, rfl, by decide +kernel, rfl, by decide +kernel, by decide +kernel⟩
theorem d_law_nothing {G : GG} (B : Blt G) : DSs G N_law_nothing (fnS (defScope s_law_nothing)) 0 (defBody s_law_nothing) t_law_nothing :=
    (dss_one (ds_ret (de_table [(Str.ofString "sum", 1), (Str.ofString "any", 1), (Str.ofString "most", 0), (Str.ofString "least", 0), (Str.ofString "wide", 1000000000000000000000000000000)] 0 (fun X => (pps_cons pe_str pe_int (pps_cons pe_str pe_int (pps_cons pe_str pe_int (pps_cons pe_str pe_int (pps_cons pe_str (pe_op op_pow pe_int pe_int) pps_nil)))))) (fun σ H Q h => by exact ⟨_, _, rfl, rfl, ⟨by decide, by decide, by decide⟩, h⟩) (by decide +kernel) (by decide))))
abbrev N_law_fillings : List Str := ["sizes", "names", "found", "name", "longer", "some", "worth"]
abbrev P_law_fillings : List Str := ["sizes", "names"]
theorem sc_law_fillings : FnScope N_law_fillings P_law_fillings (defScope s_law_fillings) := ⟨rfl, rfl, rfl, by decide +kernel, rfl, by decide +kernel, by decide +kernel⟩
theorem d_law_fillings {G : GG} (B : Blt G) : DSs G N_law_fillings (fnS (defScope s_law_fillings)) 0 (defBody s_law_fillings) t_law_fillings :=
    (dss_cons (ds_setE 2 (de_lst (da_cons (de_tup da_nil) da_nil)))
    (dss_cons (ds_for (di_seq (de_var 1)) (dg_name 3) (dss_cons (ds_set 4 (de_lst da_nil))
    (dss_cons (ds_for (di_seq (de_var 2)) (dg_name 5) (dss_one (ds_expr (de_extend 4 (de_lc [(Str.ofString "worth", 6)] (di_range1 (da_cons (de_ix (de_var 0) (de_var 3)) da_nil) B.range) (by decide +kernel) (dg_name 6) dtl_nil (de_add (de_var 5) (de_tup (da_cons (de_var 6) da_nil))))))))
    (dss_one (ds_setE 2 (de_var 4))))))
    (dss_one (ds_ret (de_var 2)))))
abbrev N_law_times : List Str := ["numbers", "found", "number"]
abbrev P_law_times : List Str := ["numbers"]
theorem sc_law_times : FnScope N_law_times P_law_times (defScope s_law_times) := ⟨rfl, rfl, rfl, by decide +kernel, rfl, by decide +kernel, by decide +kernel⟩
theorem d_law_times {G : GG} (B : Blt G) : DSs G N_law_times (fnS (defScope s_law_times)) 0 (defBody s_law_times) t_law_times :=
    (dss_cons (ds_setE 1 de_int)
    (dss_cons (ds_for (di_seq (de_var 0)) (dg_name 2) (dss_one (ds_setE 1 (de_mul (de_var 1) (de_var 2)))))
    (dss_one (ds_ret (de_var 1)))))
abbrev N_law_look : List Str := ["sizes", "part", "filling", "at", "name"]
abbrev P_law_look : List Str := ["sizes", "part", "filling"]
theorem sc_law_look : FnScope N_law_look P_law_look (defScope s_law_look) := ⟨rfl, rfl, rfl, by decide +kernel, rfl, by decide +kernel, by decide +kernel⟩
theorem d_law_look {G : GG} (B : Blt G) : DSs G N_law_look (fnS (defScope s_law_look)) 0 (defBody s_law_look) t_law_look :=
    (dss_cons (ds_setE 3 de_int)
    (dss_cons (ds_for (di_seq (de_ix (de_var 1) de_int)) (dg_name 4) (dss_one (ds_setE 3 (de_add (de_mul (de_var 3) (de_ix (de_var 0) (de_var 4))) (de_ix (de_var 2) (de_var 4))))))
    (dss_one (ds_ret (de_ix (de_ix (de_var 1) de_int) (de_var 3))))))
abbrev N_law_class : List Str := ["caught", "kinds", "some"]
abbrev P_law_class : List Str := ["caught"]
theorem sc_law_class : FnScope N_law_class P_law_class (defScope s_law_class) := ⟨rfl, rfl, rfl, by decide +kernel, rfl, by decide +kernel, by decide +kernel⟩
theorem d_law_class {G : GG} (B : Blt G) {cs : List Str} (g_NoBack : G.mg "NoBack" = some (clsV G.K "NoBack")) (g_NoBag : G.mg "NoBag" = some (clsV G.K "NoBag")) (g_NoDeeds : G.mg "NoDeeds" = some (clsV G.K "NoDeeds")) (g_NoFilling : G.mg "NoFilling" = some (clsV G.K "NoFilling")) (g_NoName : G.mg "NoName" = some (clsV G.K "NoName")) (g_NoNumber : G.mg "NoNumber" = some (clsV G.K "NoNumber")) (g_NoOffers : G.mg "NoOffers" = some (clsV G.K "NoOffers")) (g_NoPart : G.mg "NoPart" = some (clsV G.K "NoPart")) (g_NoRow : G.mg "NoRow" = some (clsV G.K "NoRow")) (g_NoText : G.mg "NoText" = some (clsV G.K "NoText")) (g_NoTree : G.mg "NoTree" = some (clsV G.K "NoTree")) (g_NoWeights : G.mg "NoWeights" = some (clsV G.K "NoWeights")) (g_NoWorths : G.mg "NoWorths" = some (clsV G.K "NoWorths")) (g_TooMany : G.mg "TooMany" = some (clsV G.K "TooMany")) (b_ValueError : G.mg "ValueError" = none) (hXI : XIs G.K (xtab cs)) : DSs G N_law_class (fnS (defScope s_law_class)) 0 (defBody s_law_class) (t_law_class cs) :=
    (dss_cons (ds_setE 1 (de_lst (da_cons (de_isX hXI B.isinstance (da_cons (de_var 0) (da_cons (de_glo g_NoFilling) da_nil))) (da_cons (de_isX hXI B.isinstance (da_cons (de_var 0) (da_cons (de_glo g_NoName) da_nil))) (da_cons (de_isX hXI B.isinstance (da_cons (de_var 0) (da_cons (de_glo g_TooMany) da_nil))) da_nil)))))
    (dss_cons (ds_setE 1 (de_add (de_var 1) (de_lst (da_cons (de_isX hXI B.isinstance (da_cons (de_var 0) (da_cons (de_glo g_NoDeeds) da_nil))) (da_cons (de_isX hXI B.isinstance (da_cons (de_var 0) (da_cons (de_glo g_NoOffers) da_nil))) (da_cons (de_isX hXI B.isinstance (da_cons (de_var 0) (da_cons (de_glo g_NoTree) da_nil))) da_nil))))))
    (dss_cons (ds_setE 1 (de_add (de_var 1) (de_lst (da_cons (de_isX hXI B.isinstance (da_cons (de_var 0) (da_cons (de_glo g_NoBag) da_nil))) (da_cons (de_isX hXI B.isinstance (da_cons (de_var 0) (da_cons (de_glo g_NoPart) da_nil))) (da_cons (de_isX hXI B.isinstance (da_cons (de_var 0) (da_cons (de_glo g_NoWorths) da_nil))) da_nil))))))
    (dss_cons (ds_setE 1 (de_add (de_var 1) (de_lst (da_cons (de_isX hXI B.isinstance (da_cons (de_var 0) (da_cons (de_glo g_NoBack) da_nil))) (da_cons (de_isX hXI B.isinstance (da_cons (de_var 0) (da_cons (de_glo g_NoWeights) da_nil))) (da_cons (de_isX hXI B.isinstance (da_cons (de_var 0) (da_cons (de_glo g_NoNumber) da_nil))) da_nil))))))
    (dss_cons (ds_setE 1 (de_add (de_var 1) (de_lst (da_cons (de_isX hXI B.isinstance (da_cons (de_var 0) (da_cons (de_glo g_NoRow) da_nil))) (da_cons (de_isX hXI B.isinstance (da_cons (de_var 0) (da_cons (de_glo g_NoText) da_nil))) da_nil)))))
    (dss_cons (ds_if (DWe.te (dw_or (dt_cmp c_ne (de_count (de_var 1) de_bl) de_int) (dw_or1 (dt_not (dt_val (de_isX hXI B.isinstance (da_cons (de_var 0) (da_cons (de_bltn (v := .ty "ValueError") rfl b_ValueError (by decide +kernel) rfl) da_nil)))))))) (dss_one (ds_ret de_str)) dss_nil)
    (dss_cons (ds_setE 2 de_str)
    (dss_one (ds_ret (de_ix (de_split (de_var 2) de_str) (de_index (de_var 1) de_bl)))))))))))
abbrev N_law_is_order : List Str := ["thing", "many", "one"]
abbrev P_law_is_order : List Str := ["thing", "many"]
theorem sc_law_is_order : FnScope N_law_is_order P_law_is_order (defScope s_law_is_order) := ⟨rfl, rfl, rfl, by decide +kernel, rfl, by decide +kernel, by decide +kernel⟩
theorem d_law_is_order {G : GG} (B : Blt G) : DSs G N_law_is_order (fnS (defScope s_law_is_order)) 0 (defBody s_law_is_order) t_law_is_order :=
    (dss_cons (ds_if (dt_not (dt_val (de_cb b_isi B.isinstance (da_cons (de_var 0) (da_cons (de_bltn (v := .ty "tuple") rfl B.tuple (by decide +kernel) rfl) da_nil))))) (dss_one (ds_ret de_bl)) dss_nil)
    (dss_cons (ds_if (dt_cmp c_gt (de_cb b_len B.len (da_cons (de_lc [(Str.ofString "one", 2)] (di_seq (de_var 0)) (by decide +kernel) (dg_name 2) (dtl_one (DWe.te (dw_or (dt_val (de_cb b_isi B.isinstance (da_cons (de_var 2) (da_cons (de_bltn (v := .ty "bool") rfl B.bool (by decide +kernel) rfl) da_nil)))) (dw_or1 (dt_not (dt_val (de_cb b_isi B.isinstance (da_cons (de_var 2) (da_cons (de_bltn (v := .ty "int") rfl B.int (by decide +kernel) rfl) da_nil))))))))) de_int) da_nil)) de_int) (dss_one (ds_ret de_bl)) dss_nil)
    (dss_one (ds_ret (de_and (de_cmp c_eq (de_cb b_len B.len (da_cons (de_lc [(Str.ofString "one", 2)] (di_seq (de_var 0)) (by decide +kernel) (dg_name 2) (dtl_one (DWe.te (dw_or (dt_cmp c_lt (de_var 2) de_int) (dw_or1 (dt_cmp c_ge (de_var 2) (de_var 1)))))) de_int) da_nil)) de_int) (de_one (de_cmp c_eq (de_lenset (de_var 0) B.len B.set) (de_cb b_len B.len (da_cons (de_var 0) da_nil)))))))))
abbrev N_are_names : List Str := ["many", "thing", "one", "k"]
abbrev P_are_names : List Str := ["many", "thing"]
theorem sc_are_names : FnScope N_are_names P_are_names (defScope s_are_names) := ⟨rfl, rfl, rfl, by decide +kernel, rfl, by decide +kernel, by decide +kernel⟩
theorem d_are_names {G : GG} (B : Blt G) (h_is_whole : Def G 1 "is_whole" 1 sp_is_whole) : DSs G N_are_names (fnS (defScope s_are_names)) 1 (defBody s_are_names) t_are_names :=
    (dss_cons (ds_if (DWe.te (dw_or (dt_not (dt_val (de_cb b_isi B.isinstance (da_cons (de_var 1) (da_cons (de_bltn (v := .ty "tuple") rfl B.tuple (by decide +kernel) rfl) da_nil))))) (dw_or1 (dt_not (dt_val (de_cb b_all B.all (da_cons (de_lc [(Str.ofString "one", 2)] (di_seq (de_var 1)) (by decide +kernel) (dg_name 2) dtl_nil (de_and (de_call h_is_whole (da_cons (de_var 2) da_nil)) (de_one (de_chain c_le c_lt de_int (de_var 2) (de_var 0))))) da_nil))))))) (dss_one (ds_ret de_bl)) dss_nil)
    (dss_one (ds_ret (de_cb b_all B.all (da_cons (de_lc [(Str.ofString "k", 3)] (di_range2 (da_cons de_int (da_cons (de_cb b_len B.len (da_cons (de_var 1) da_nil)) da_nil)) B.range) (by decide +kernel) (dg_name 3) dtl_nil (de_cmp c_lt (de_ix (de_var 1) (de_sub (de_var 3) de_int)) (de_ix (de_var 1) (de_var 3)))) da_nil)))))
abbrev N_worth_by : List Str := ["sizes", "part", "names", "worths", "own", "numbers", "name"]
abbrev P_worth_by : List Str := ["sizes", "part", "names", "worths"]
theorem sc_worth_by : FnScope N_worth_by P_worth_by (defScope s_worth_by) := ⟨rfl, rfl, rfl, by decide +kernel, rfl, by decide +kernel, by decide +kernel⟩
theorem d_worth_by {G : GG} (B : Blt G) (h_place_of : Def G 1 "place_of" 3 sp_place_of) : DSs G N_worth_by (fnS (defScope s_worth_by)) 1 (defBody s_worth_by) t_worth_by :=
    (dss_cons (ds_asg (de_var 1) (dg_tup (dgs_cons (dg_name 4) (dgs_cons (dg_name 5) dgs_nil))))
    (dss_one (ds_ret (de_ix (de_var 5) (de_call h_place_of (da_cons (de_var 0) (da_cons (de_var 4) (da_cons (de_lc [(Str.ofString "name", 6)] (di_seq (de_var 4)) (by decide +kernel) (dg_name 6) dtl_nil (de_ix (de_var 3) (de_index (de_var 2) (de_var 6)))) da_nil))))))))
abbrev N_need_name : List Str := ["part", "name"]
abbrev P_need_name : List Str := ["part", "name"]
theorem sc_need_name : FnScope N_need_name P_need_name (defScope s_need_name) := ⟨rfl, rfl, rfl, by decide +kernel, rfl, by decide +kernel, by decide +kernel⟩
theorem d_need_name {G : GG} (B : Blt G) (h_is_whole : Def G 1 "is_whole" 1 sp_is_whole) (x_NoName : XOk G "NoName") : DSs G N_need_name (fnS (defScope s_need_name)) 1 (defBody s_need_name) t_need_name :=
    (dss_one (ds_if (DWe.te (dw_or (dt_not (dt_val (de_call h_is_whole (da_cons (de_var 1) da_nil)))) (dw_or1 (dt_cmp c_notin (de_var 1) (de_ix (de_var 0) de_int))))) (dss_one (ds_raise x_NoName)) dss_nil))
abbrev N_is_order : List Str := ["many", "thing", "one"]
abbrev P_is_order : List Str := ["many", "thing"]
theorem sc_is_order : FnScope N_is_order P_is_order (defScope s_is_order) := ⟨rfl, rfl, rfl, by decide +kernel, rfl, by decide +kernel, by decide +kernel⟩
theorem d_is_order {G : GG} (B : Blt G) (h_is_whole : Def G 1 "is_whole" 1 sp_is_whole) : DSs G N_is_order (fnS (defScope s_is_order)) 1 (defBody s_is_order) t_is_order :=
    (dss_cons (ds_if (DWe.te (dw_or (dt_not (dt_val (de_cb b_isi B.isinstance (da_cons (de_var 1) (da_cons (de_bltn (v := .ty "tuple") rfl B.tuple (by decide +kernel) rfl) da_nil))))) (dw_or1 (dt_not (dt_val (de_cb b_all B.all (da_cons (de_lc [(Str.ofString "one", 2)] (di_seq (de_var 1)) (by decide +kernel) (dg_name 2) dtl_nil (de_and (de_call h_is_whole (da_cons (de_var 2) da_nil)) (de_one (de_chain c_le c_lt de_int (de_var 2) (de_var 0))))) da_nil))))))) (dss_one (ds_ret de_bl)) dss_nil)
    (dss_one (ds_ret (de_cmp c_eq (de_lenset (de_var 1) B.len B.set) (de_cb b_len B.len (da_cons (de_var 1) da_nil))))))
abbrev N_law_dip : List Str := ["jar", "many", "at", "cell", "one", "two", "three", "found"]
abbrev P_law_dip : List Str := ["jar", "many"]
theorem sc_law_dip : FnScope N_law_dip P_law_dip (defScope s_law_dip) := ⟨rfl, rfl, rfl, by decide +kernel, rfl, by decide +kernel, by decide +kernel⟩
theorem d_law_dip {G : GG} (B : Blt G) (h_law_prime : Def G 1 "_law_prime" 1 sp_law_prime) : DSs G N_law_dip (fnS (defScope s_law_dip)) 1 (defBody s_law_dip) t_law_dip :=
    (dss_cons (ds_if (dt_cmp c_lt (de_ix (de_var 0) de_int) (de_var 1)) (dss_cons (ds_setE 2 (de_ix (de_var 0) de_int))
    (dss_cons (ds_setitem 0 de_int (de_add (de_var 2) de_int))
    (dss_cons (ds_setE 3 (de_add (de_mul de_int (de_var 2)) de_int))
    (dss_cons (ds_if (dt_cmp c_gt (de_cb b_len B.len (da_cons (de_ix (de_var 0) de_int) da_nil)) de_int) (dss_one (ds_setE 3 (de_ix (de_ix (de_var 0) de_int) (de_mod (de_var 2) (de_cb b_len B.len (da_cons (de_ix (de_var 0) de_int) da_nil)))))) dss_nil)
    (dss_cons (ds_setitem 0 de_int (de_var 3))
    (dss_one (ds_if (DWe.te (dw_or (dt_cmp c_lt (de_var 3) (de_pow de_int de_int)) (dw_or1 (dt_cmp c_ge (de_var 2) (de_cb b_len B.len (da_cons (de_ix (de_var 0) de_int) da_nil)))))) (dss_cons (ds_setE 4 (de_mod (de_pow (de_add (de_add (de_mul (de_mod (de_var 3) de_int) (de_add (de_var 2) de_int)) (de_mul de_int (de_var 2))) de_int) de_int) (de_call h_law_prime (da_cons (de_var 2) da_nil))))
    (dss_cons (ds_setE 5 (de_mod (de_pow (de_add (de_add (de_mul (de_var 4) (de_add (de_var 2) de_int)) (de_mod (de_var 3) de_int)) de_int) de_int) (de_call h_law_prime (da_cons (de_add (de_var 2) de_int) da_nil))))
    (dss_cons (ds_setE 6 (de_mod (de_add (de_mul (de_var 5) (de_var 5)) (de_var 4)) (de_call h_law_prime (da_cons (de_add (de_var 2) de_int) da_nil))))
    (dss_one (ds_setitem 0 de_int (de_add (de_mul (de_add (de_mul (de_var 6) de_int) (de_var 5)) de_int) (de_var 4))))))) dss_nil))))))) dss_nil)
    (dss_cons (ds_setE 7 (de_mod (de_ix (de_var 0) de_int) (de_var 1)))
    (dss_cons (ds_setitem 0 de_int (de_div (de_ix (de_var 0) de_int) (de_var 1)))
    (dss_one (ds_ret (de_var 7))))))
abbrev N_law_made : List Str := ["word", "sizes", "parts", "name", "bag", "part", "worths", "some", "filling", "one", "worth", "found", "key", "names"]
abbrev P_law_made : List Str := ["word", "sizes", "parts", "name"]
theorem sc_law_made : FnScope N_law_made P_law_made (defScope s_law_made) := ⟨rfl, rfl, rfl, by decide +kernel, rfl, by decide +kernel, by decide +kernel⟩
theorem d_law_made {G : GG} (B : Blt G) (h_law_fillings : Def G 1 "_law_fillings" 2 sp_law_fillings) (h_law_gather : Def G 1 "_law_gather" 2 sp_law_gather) (h_law_join : Def G 1 "_law_join" 3 sp_law_join) (h_law_look : Def G 1 "_law_look" 3 sp_law_look) (h_law_nothing : Def G 1 "_law_nothing" 1 sp_law_nothing) : DSs G N_law_made (fnS (defScope s_law_made)) 1 (defBody s_law_made) t_law_made :=
    (dss_cons (ds_setE 4 (de_tup (da_cons (de_var 3) da_nil)))
    (dss_cons (ds_for (di_seq (de_var 2)) (dg_name 5) (dss_one (ds_setE 4 (de_add (de_var 4) (de_ix (de_var 5) de_int)))))
    (dss_cons (ds_setE 4 (de_ct t_tuple B.tuple (da_cons (de_sortset (de_var 4) B.sorted B.set) da_nil)))
    (dss_cons (ds_set 6 de_dnewT)
    (dss_cons (ds_for (di_seq (de_call h_law_fillings (da_cons (de_var 1) (da_cons (de_var 4) da_nil)))) (dg_name 7) (dss_cons (ds_set 8 (de_mul (de_lst (da_cons de_int da_nil)) (de_cb b_len B.len (da_cons (de_var 1) da_nil))))
    (dss_cons (ds_for (di_zip (de_var 4) (de_var 7) B.zip) (dg_tup (dgs_cons (dg_name 9) (dgs_cons (dg_name 10) dgs_nil))) (dss_one (ds_setitem 8 (de_var 9) (de_var 10))))
    (dss_cons (ds_setE 11 (de_call h_law_nothing (da_cons (de_var 0) da_nil)))
    (dss_cons (ds_for (di_seq (de_var 2)) (dg_name 5) (dss_one (ds_setE 11 (de_call h_law_join (da_cons (de_var 0) (da_cons (de_var 11) (da_cons (de_call h_law_look (da_cons (de_var 1) (da_cons (de_var 5) (da_cons (de_var 8) da_nil)))) da_nil)))))))
    (dss_cons (ds_setE 12 (de_ct t_tuple B.tuple (da_cons (de_lc [(Str.ofString "one", 9), (Str.ofString "worth", 10)] (di_zip (de_var 4) (de_var 7) B.zip) (by decide +kernel) (dg_tup (dgs_cons (dg_name 9) (dgs_cons (dg_name 10) dgs_nil))) (dtl_one (dt_cmp c_ne (de_var 9) (de_var 3))) (de_var 10)) da_nil)))
    (dss_one (ds_dputT 6 (de_var 12) (de_if (dt_dnotinT 6 (de_var 12)) (de_var 11) (de_call h_law_gather (da_cons (de_var 0) (da_cons (de_lst (da_cons (de_dgetT 6 (de_var 12)) (da_cons (de_var 11) da_nil))) da_nil))))))))))))
    (dss_cons (ds_setE 13 (de_ct t_tuple B.tuple (da_cons (de_lc [(Str.ofString "one", 9)] (di_seq (de_var 4)) (by decide +kernel) (dg_name 9) (dtl_one (dt_cmp c_ne (de_var 9) (de_var 3))) (de_var 9)) da_nil)))
    (dss_one (ds_sealDT 6 (ds_ret (de_tup (da_cons (de_var 4) (da_cons (de_tup (da_cons (de_var 13) (da_cons (de_ct t_tuple B.tuple (da_cons (de_lc [(Str.ofString "key", 12)] (di_seq (de_cb b_sortK B.sorted (da_cons (de_var 6) da_nil))) (by decide +kernel) (dg_name 12) dtl_nil (de_dgetT 6 (de_var 12))) da_nil)) da_nil))) da_nil))))))))))))
abbrev N_need_names : List Str := ["many", "thing"]
abbrev P_need_names : List Str := ["many", "thing"]
theorem sc_need_names : FnScope N_need_names P_need_names (defScope s_need_names) := ⟨rfl, rfl, rfl, by decide +kernel, rfl, by decide +kernel, by decide +kernel⟩
theorem d_need_names {G : GG} (B : Blt G) (h_are_names : Def G 2 "are_names" 2 sp_are_names) (x_NoName : XOk G "NoName") : DSs G N_need_names (fnS (defScope s_need_names)) 2 (defBody s_need_names) t_need_names :=
    (dss_one (ds_if (dt_not (dt_val (de_call h_are_names (da_cons (de_var 0) (da_cons (de_var 1) da_nil))))) (dss_one (ds_raise x_NoName)) dss_nil))
abbrev N_joined : List Str := ["word", "sizes", "one", "other", "names", "worths", "some"]
abbrev P_joined : List Str := ["word", "sizes", "one", "other"]
theorem sc_joined : FnScope N_joined P_joined (defScope s_joined) := ⟨rfl, rfl, rfl, by decide +kernel, rfl, by decide +kernel, by decide +kernel⟩
theorem d_joined {G : GG} (B : Blt G) (h_fillings_of : Def G 1 "fillings_of" 2 sp_fillings_of) (h_join : Def G 1 "join" 3 sp_join) (h_worth_by : Def G 2 "worth_by" 4 sp_worth_by) : DSs G N_joined (fnS (defScope s_joined)) 2 (defBody s_joined) t_joined :=
    (dss_cons (ds_setE 4 (de_ct t_tuple B.tuple (da_cons (de_sortset (de_add (de_ix (de_var 2) de_int) (de_ix (de_var 3) de_int)) B.sorted B.set) da_nil)))
    (dss_cons (ds_set 5 (de_lst da_nil))
    (dss_cons (ds_for (di_seq (de_call h_fillings_of (da_cons (de_var 1) (da_cons (de_var 4) da_nil)))) (dg_name 6) (dss_one (ds_expr (de_append 5 (de_call h_join (da_cons (de_var 0) (da_cons (de_call h_worth_by (da_cons (de_var 1) (da_cons (de_var 2) (da_cons (de_var 4) (da_cons (de_var 6) da_nil))))) (da_cons (de_call h_worth_by (da_cons (de_var 1) (da_cons (de_var 3) (da_cons (de_var 4) (da_cons (de_var 6) da_nil))))) da_nil))))))))
    (dss_one (ds_ret (de_tup (da_cons (de_var 4) (da_cons (de_ct t_tuple B.tuple (da_cons (de_var 5) da_nil)) da_nil))))))))
abbrev N_gathered : List Str := ["word", "sizes", "part", "name", "names", "worths", "some", "numbers", "worth"]
abbrev P_gathered : List Str := ["word", "sizes", "part", "name"]
theorem sc_gathered : FnScope N_gathered P_gathered (defScope s_gathered) := ⟨rfl, rfl, rfl, by decide +kernel, rfl, by decide +kernel, by decide +kernel⟩
theorem d_gathered {G : GG} (B : Blt G) (h_fillings_of : Def G 1 "fillings_of" 2 sp_fillings_of) (h_gather : Def G 1 "gather" 2 sp_gather) (h_need_name : Def G 2 "need_name" 2 sp_need_name) (h_without : Def G 1 "without" 2 sp_without) (h_worth_by : Def G 2 "worth_by" 4 sp_worth_by) : DSs G N_gathered (fnS (defScope s_gathered)) 2 (defBody s_gathered) t_gathered :=
    (dss_cons (ds_expr (de_call h_need_name (da_cons (de_var 2) (da_cons (de_var 3) da_nil))))
    (dss_cons (ds_setE 4 (de_call h_without (da_cons (de_ix (de_var 2) de_int) (da_cons (de_var 3) da_nil))))
    (dss_cons (ds_set 5 (de_lst da_nil))
    (dss_cons (ds_for (di_seq (de_call h_fillings_of (da_cons (de_var 1) (da_cons (de_var 4) da_nil)))) (dg_name 6) (dss_cons (ds_setLcE [(Str.ofString "worth", 8)] 7 (di_range1 (da_cons (de_ix (de_var 1) (de_var 3)) da_nil) B.range) (by decide +kernel) (dg_name 8) dtl_nil (de_call h_worth_by (da_cons (de_var 1) (da_cons (de_var 2) (da_cons (de_add (de_var 4) (de_tup (da_cons (de_var 3) da_nil))) (da_cons (de_add (de_var 6) (de_tup (da_cons (de_var 8) da_nil))) da_nil))))))
    (dss_one (ds_expr (de_append 5 (de_call h_gather (da_cons (de_var 0) (da_cons (de_var 7) da_nil))))))))
    (dss_one (ds_ret (de_tup (da_cons (de_var 4) (da_cons (de_ct t_tuple B.tuple (da_cons (de_var 5) da_nil)) da_nil)))))))))
abbrev N_need_order : List Str := ["many", "order"]
abbrev P_need_order : List Str := ["many", "order"]
theorem sc_need_order : FnScope N_need_order P_need_order (defScope s_need_order) := ⟨rfl, rfl, rfl, by decide +kernel, rfl, by decide +kernel, by decide +kernel⟩
theorem d_need_order {G : GG} (B : Blt G) (h_is_order : Def G 2 "is_order" 2 sp_is_order) (x_NoName : XOk G "NoName") : DSs G N_need_order (fnS (defScope s_need_order)) 2 (defBody s_need_order) t_need_order :=
    (dss_one (ds_if (dt_not (dt_val (de_call h_is_order (da_cons (de_var 0) (da_cons (de_var 1) da_nil))))) (dss_one (ds_raise x_NoName)) dss_nil))
abbrev N_law_word : List Str := ["jar"]
abbrev P_law_word : List Str := ["jar"]
theorem sc_law_word : FnScope N_law_word P_law_word (defScope s_law_word) := ⟨rfl, rfl, rfl, by decide +kernel, rfl, by decide +kernel, by decide +kernel⟩
theorem d_law_word {G : GG} (B : Blt G) (h_law_dip : Def G 2 "_law_dip" 2 sp_law_dip) : DSs G N_law_word (fnS (defScope s_law_word)) 2 (defBody s_law_word) t_law_word :=
    (dss_one (ds_ret (de_ix (de_lst (da_cons de_str (da_cons de_str (da_cons de_str (da_cons de_str (da_cons de_str da_nil)))))) (de_callJ 0 h_law_dip (da_cons de_int da_nil)))))
abbrev N_law_number : List Str := ["jar", "word", "way"]
abbrev P_law_number : List Str := ["jar", "word"]
theorem sc_law_number : FnScope N_law_number P_law_number (defScope s_law_number) := ⟨rfl, rfl, rfl, by decide +kernel, rfl, by decide +kernel, by decide +kernel⟩
theorem d_law_number {G : GG} (B : Blt G) (h_law_dip : Def G 2 "_law_dip" 2 sp_law_dip) : DSs G N_law_number (fnS (defScope s_law_number)) 2 (defBody s_law_number) t_law_number :=
    (dss_cons (ds_if (dt_cmp c_eq (de_var 1) de_str) (dss_one (ds_ret (de_callJ 0 h_law_dip (da_cons de_int da_nil)))) dss_nil)
    (dss_cons (ds_setE 2 (de_callJ 0 h_law_dip (da_cons de_int da_nil)))
    (dss_cons (ds_if (dt_cmp c_eq (de_var 2) de_int) (dss_one (ds_ret (de_ix (de_lst (da_cons (de_pow de_int de_int) (da_cons (de_sub de_int (de_pow de_int de_int)) (da_cons (de_sub (de_pow de_int de_int) de_int) (da_cons de_int da_nil))))) (de_callJ 0 h_law_dip (da_cons de_int da_nil))))) dss_nil)
    (dss_cons (ds_if (dt_cmp c_lt (de_var 2) de_int) (dss_one (ds_ret (de_sub (de_callJ 0 h_law_dip (da_cons de_int da_nil)) de_int))) dss_nil)
    (dss_one (ds_ret (de_sub (de_callJ 0 h_law_dip (da_cons de_int da_nil)) de_int)))))))
abbrev N_law_sizes : List Str := ["jar", "most", "roof", "found", "k", "size"]
abbrev P_law_sizes : List Str := ["jar", "most", "roof"]
theorem sc_law_sizes : FnScope N_law_sizes P_law_sizes (defScope s_law_sizes) := ⟨rfl, rfl, rfl, by decide +kernel, rfl, by decide +kernel, by decide +kernel⟩
theorem d_law_sizes {G : GG} (B : Blt G) (h_law_dip : Def G 2 "_law_dip" 2 sp_law_dip) (h_law_times : Def G 1 "_law_times" 1 sp_law_times) : DSs G N_law_sizes (fnS (defScope s_law_sizes)) 2 (defBody s_law_sizes) t_law_sizes :=
    (dss_cons (ds_set 3 (de_lst da_nil))
    (dss_cons (ds_for (di_range1 (da_cons (de_add de_int (de_callJ 0 h_law_dip (da_cons (de_var 1) da_nil))) da_nil) B.range) (dg_name 4) (dss_cons (ds_setE 5 (de_ix (de_lst (da_cons de_int (da_cons de_int (da_cons de_int (da_cons de_int (da_cons de_int da_nil)))))) (de_callJ 0 h_law_dip (da_cons de_int da_nil))))
    (dss_one (ds_expr (de_append 3 (de_if (dt_cmp c_le (de_mul (de_call h_law_times (da_cons (de_var 3) da_nil)) (de_var 5)) (de_var 2)) (de_var 5) de_int))))))
    (dss_one (ds_ret (de_ct t_tuple B.tuple (da_cons (de_var 3) da_nil))))))
abbrev N_law_some : List Str := ["jar", "many", "most", "left", "found", "k"]
abbrev P_law_some : List Str := ["jar", "many", "most"]
theorem sc_law_some : FnScope N_law_some P_law_some (defScope s_law_some) := ⟨rfl, rfl, rfl, by decide +kernel, rfl, by decide +kernel, by decide +kernel⟩
theorem d_law_some {G : GG} (B : Blt G) (h_law_dip : Def G 2 "_law_dip" 2 sp_law_dip) : DSs G N_law_some (fnS (defScope s_law_some)) 2 (defBody s_law_some) t_law_some :=
    (dss_cons (ds_set 3 (de_listRg (drg_1 (de_var 1) B.range) B.list))
    (dss_cons (ds_set 4 (de_lst da_nil))
    (dss_cons (ds_for (di_range1 (da_cons (de_callJ 0 h_law_dip (da_cons (de_add (de_var 2) de_int) da_nil)) da_nil) B.range) (dg_name 5) (dss_one (ds_if (dt_cmp c_gt (de_cb b_len B.len (da_cons (de_var 3) da_nil)) de_int) (dss_one (ds_expr (de_append 4 (de_popAt 3 (de_callJ 0 h_law_dip (da_cons (de_cb b_len B.len (da_cons (de_var 3) da_nil)) da_nil)))))) dss_nil)))
    (dss_one (ds_ret (de_ct t_tuple B.tuple (da_cons (de_cb b_sorted B.sorted (da_cons (de_var 4) da_nil)) da_nil)))))))
abbrev N_law_due : List Str := ["word", "sheet", "order", "left", "bags", "name", "some", "part", "bag", "one"]
abbrev P_law_due : List Str := ["word", "sheet", "order"]
theorem sc_law_due : FnScope N_law_due P_law_due (defScope s_law_due) := ⟨rfl, rfl, rfl, by decide +kernel, rfl, by decide +kernel, by decide +kernel⟩
theorem d_law_due {G : GG} (B : Blt G) (h_law_made : Def G 2 "_law_made" 4 sp_law_made) : DSs G N_law_due (fnS (defScope s_law_due)) 2 (defBody s_law_due) t_law_due :=
    (dss_cons (ds_setE 3 (de_ct t_list B.list (da_cons (de_ix (de_var 1) de_int) da_nil)))
    (dss_cons (ds_set 4 (de_lst da_nil))
    (dss_cons (ds_for (di_seq (de_var 2)) (dg_name 5) (dss_cons (ds_setLcE [(Str.ofString "part", 7)] 6 (di_seq (de_var 3)) (by decide +kernel) (dg_name 7) (dtl_one (dt_cmp c_in (de_var 5) (de_ix (de_var 7) de_int))) (de_var 7))
    (dss_cons (ds_asg (de_call h_law_made (da_cons (de_var 0) (da_cons (de_ix (de_var 1) de_int) (da_cons (de_var 6) (da_cons (de_var 5) da_nil))))) (dg_tup (dgs_cons (dg_name 8) (dgs_cons (dg_name 7) dgs_nil))))
    (dss_cons (ds_expr (de_append 4 (de_var 8)))
    (dss_one (ds_setE 3 (de_add (de_lc [(Str.ofString "one", 9)] (di_seq (de_var 3)) (by decide +kernel) (dg_name 9) (dtl_one (dt_cmp c_notin (de_var 5) (de_ix (de_var 9) de_int))) (de_var 9)) (de_lst (da_cons (de_var 7) da_nil)))))))))
    (dss_one (ds_ret (de_tup (da_cons (de_var 3) (da_cons (de_var 4) da_nil))))))))
abbrev N_law_order : List Str := ["jar", "many", "some", "left", "k"]
abbrev P_law_order : List Str := ["jar", "many", "some"]
theorem sc_law_order : FnScope N_law_order P_law_order (defScope s_law_order) := ⟨rfl, rfl, rfl, by decide +kernel, rfl, by decide +kernel, by decide +kernel⟩
theorem d_law_order {G : GG} (B : Blt G) (h_law_dip : Def G 2 "_law_dip" 2 sp_law_dip) : DSs G N_law_order (fnS (defScope s_law_order)) 2 (defBody s_law_order) t_law_order :=
    (dss_cons (ds_set 3 (de_listRg (drg_1 (de_var 1) B.range) B.list))
    (dss_one (ds_ret (de_ct t_tuple B.tuple (da_cons (de_lc [(Str.ofString "k", 4)] (di_range1 (da_cons (de_var 2) da_nil) B.range) (by decide +kernel) (dg_name 4) dtl_nil (de_popAt 3 (de_callJ 0 h_law_dip (da_cons (de_cb b_len B.len (da_cons (de_var 3) da_nil)) da_nil)))) da_nil)))))
abbrev N_law_bent : List Str := ["jar", "order", "many", "way", "at", "odd"]
abbrev P_law_bent : List Str := ["jar", "order", "many"]
theorem sc_law_bent : FnScope N_law_bent P_law_bent (defScope s_law_bent) := ⟨rfl, rfl, rfl, by decide +kernel, rfl, by decide +kernel, by decide +kernel⟩
theorem d_law_bent {G : GG} (B : Blt G) (h_law_dip : Def G 2 "_law_dip" 2 sp_law_dip) : DSs G N_law_bent (fnS (defScope s_law_bent)) 2 (defBody s_law_bent) t_law_bent :=
    (dss_cons (ds_setE 3 (de_callJ 0 h_law_dip (da_cons de_int da_nil)))
    (dss_cons (ds_setE 4 (de_callJ 0 h_law_dip (da_cons (de_add (de_cb b_len B.len (da_cons (de_var 1) da_nil)) de_int) da_nil)))
    (dss_cons (ds_setE 5 (de_ix (de_lst (da_cons (de_var 2) (da_cons (de_neg de_int) (da_cons de_bl (da_cons de_non (da_cons de_str (da_cons (de_tup (da_cons de_int da_nil)) (da_cons (de_pow de_int de_int) (da_cons (de_sub de_int (de_pow de_int de_int)) (da_cons de_bl (da_cons (de_lst (da_cons de_int da_nil)) da_nil))))))))))) (de_callJ 0 h_law_dip (da_cons de_int da_nil))))
    (dss_cons (ds_if (dt_cmp c_lt (de_var 3) de_int) (dss_one (ds_ret (de_add (de_add (de_slice (de_var 1) do_none (do_some (de_var 4))) (de_tup (da_cons (de_var 5) da_nil))) (de_slice (de_var 1) (do_some (de_add (de_var 4) (de_mod (de_var 3) de_int))) do_none)))) dss_nil)
    (dss_one (ds_ret (de_ix (de_lst (da_cons (de_ct t_list B.list (da_cons (de_var 1) da_nil)) (da_cons (de_add (de_var 1) (de_slice (de_var 1) (do_some (de_neg de_int)) do_none)) (da_cons (de_add (de_slice (de_var 1) do_none (do_some de_int)) (de_var 1)) (da_cons de_non (da_cons (de_tup (da_cons (de_var 1) da_nil)) da_nil)))))) (de_sub (de_var 3) de_int))))))))
abbrev N_widened : List Str := ["sizes", "part", "names", "every", "some"]
abbrev P_widened : List Str := ["sizes", "part", "names"]
theorem sc_widened : FnScope N_widened P_widened (defScope s_widened) := ⟨rfl, rfl, rfl, by decide +kernel, rfl, by decide +kernel, by decide +kernel⟩
theorem d_widened {G : GG} (B : Blt G) (h_fillings_of : Def G 1 "fillings_of" 2 sp_fillings_of) (h_need_names : Def G 3 "need_names" 2 sp_need_names) (h_worth_by : Def G 2 "worth_by" 4 sp_worth_by) : DSs G N_widened (fnS (defScope s_widened)) 3 (defBody s_widened) t_widened :=
    (dss_cons (ds_expr (de_call h_need_names (da_cons (de_cb b_len B.len (da_cons (de_var 0) da_nil)) (da_cons (de_var 2) da_nil))))
    (dss_cons (ds_setE 3 (de_ct t_tuple B.tuple (da_cons (de_sortset (de_add (de_ix (de_var 1) de_int) (de_var 2)) B.sorted B.set) da_nil)))
    (dss_one (ds_ret (de_tup (da_cons (de_var 3) (da_cons (de_ct t_tuple B.tuple (da_cons (de_lc [(Str.ofString "some", 4)] (di_seq (de_call h_fillings_of (da_cons (de_var 0) (da_cons (de_var 3) da_nil)))) (by decide +kernel) (dg_name 4) dtl_nil (de_call h_worth_by (da_cons (de_var 0) (da_cons (de_var 1) (da_cons (de_var 3) (da_cons (de_var 4) da_nil)))))) da_nil)) da_nil)))))))
abbrev N_all_joined : List Str := ["word", "sizes", "parts", "found", "part"]
abbrev P_all_joined : List Str := ["word", "sizes", "parts"]
theorem sc_all_joined : FnScope N_all_joined P_all_joined (defScope s_all_joined) := ⟨rfl, rfl, rfl, by decide +kernel, rfl, by decide +kernel, by decide +kernel⟩
theorem d_all_joined {G : GG} (B : Blt G) (h_joined : Def G 3 "joined" 4 sp_joined) (h_unit : Def G 1 "unit" 1 sp_unit) : DSs G N_all_joined (fnS (defScope s_all_joined)) 3 (defBody s_all_joined) t_all_joined :=
    (dss_cons (ds_setE 3 (de_tup (da_cons (de_tup da_nil) (da_cons (de_tup (da_cons (de_call h_unit (da_cons (de_var 0) da_nil)) da_nil)) da_nil))))
    (dss_cons (ds_for (di_seq (de_var 2)) (dg_name 4) (dss_one (ds_setE 3 (de_call h_joined (da_cons (de_var 0) (da_cons (de_var 1) (da_cons (de_var 3) (da_cons (de_var 4) da_nil))))))))
    (dss_one (ds_ret (de_var 3)))))
abbrev N_law_part : List Str := ["jar", "word", "sizes", "most", "names", "many", "name", "k"]
abbrev P_law_part : List Str := ["jar", "word", "sizes", "most"]
theorem sc_law_part : FnScope N_law_part P_law_part (defScope s_law_part) := ⟨rfl, rfl, rfl, by decide +kernel, rfl, by decide +kernel, by decide +kernel⟩
theorem d_law_part {G : GG} (B : Blt G) (h_law_number : Def G 3 "_law_number" 2 sp_law_number) (h_law_some : Def G 3 "_law_some" 3 sp_law_some) (h_law_times : Def G 1 "_law_times" 1 sp_law_times) : DSs G N_law_part (fnS (defScope s_law_part)) 3 (defBody s_law_part) t_law_part :=
    (dss_cons (ds_setE 4 (de_callJ 0 h_law_some (da_cons (de_cb b_len B.len (da_cons (de_var 2) da_nil)) (da_cons (de_var 3) da_nil))))
    (dss_cons (ds_setE 5 (de_call h_law_times (da_cons (de_lc [(Str.ofString "name", 6)] (di_seq (de_var 4)) (by decide +kernel) (dg_name 6) dtl_nil (de_ix (de_var 2) (de_var 6))) da_nil)))
    (dss_one (ds_ret (de_tup (da_cons (de_var 4) (da_cons (de_ct t_tuple B.tuple (da_cons (de_lc [(Str.ofString "k", 7)] (di_range1 (da_cons (de_var 5) da_nil) B.range) (by decide +kernel) (dg_name 7) dtl_nil (de_callJ 0 h_law_number (da_cons (de_var 1) da_nil))) da_nil)) da_nil)))))))
abbrev N_taken_out : List Str := ["word", "sheet", "order", "sizes", "parts", "left", "bags", "name", "whole_part", "part"]
abbrev P_taken_out : List Str := ["word", "sheet", "order"]
theorem sc_taken_out : FnScope N_taken_out P_taken_out (defScope s_taken_out) := ⟨rfl, rfl, rfl, by decide +kernel, rfl, by decide +kernel, by decide +kernel⟩
theorem d_taken_out {G : GG} (B : Blt G) (h_all_joined : Def G 4 "all_joined" 3 sp_all_joined) (h_gathered : Def G 3 "gathered" 4 sp_gathered) (h_need_order : Def G 3 "need_order" 2 sp_need_order) (h_widened : Def G 4 "widened" 3 sp_widened) : DSs G N_taken_out (fnS (defScope s_taken_out)) 4 (defBody s_taken_out) t_taken_out :=
    (dss_cons (ds_asg (de_var 1) (dg_tup (dgs_cons (dg_name 3) (dgs_cons (dg_name 4) dgs_nil))))
    (dss_cons (ds_expr (de_call h_need_order (da_cons (de_cb b_len B.len (da_cons (de_var 3) da_nil)) (da_cons (de_var 2) da_nil))))
    (dss_cons (ds_set 5 (de_ct t_list B.list (da_cons (de_var 4) da_nil)))
    (dss_cons (ds_set 6 (de_lst da_nil))
    (dss_cons (ds_for (di_seq (de_var 2)) (dg_name 7) (dss_cons (ds_setE 8 (de_call h_widened (da_cons (de_var 3) (da_cons (de_call h_all_joined (da_cons (de_var 0) (da_cons (de_var 3) (da_cons (de_lc [(Str.ofString "part", 9)] (di_seq (de_var 5)) (by decide +kernel) (dg_name 9) (dtl_one (dt_cmp c_in (de_var 7) (de_ix (de_var 9) de_int))) (de_var 9)) da_nil)))) (da_cons (de_tup (da_cons (de_var 7) da_nil)) da_nil)))))
    (dss_cons (ds_expr (de_append 6 (de_ix (de_var 8) de_int)))
    (dss_one (ds_set 5 (de_add (de_lc [(Str.ofString "part", 9)] (di_seq (de_var 5)) (by decide +kernel) (dg_name 9) (dtl_one (dt_cmp c_notin (de_var 7) (de_ix (de_var 9) de_int))) (de_var 9)) (de_lst (da_cons (de_call h_gathered (da_cons (de_var 0) (da_cons (de_var 3) (da_cons (de_var 8) (da_cons (de_var 7) da_nil))))) da_nil))))))))
    (dss_one (ds_ret (de_tupM (da_cons (de_moveL 5) (da_cons (de_moveL 6) da_nil))))))))))
abbrev N_law_sheet : List Str := ["jar", "word", "most", "roof", "parts", "sizes", "many", "wide", "k"]
abbrev P_law_sheet : List Str := ["jar", "word", "most", "roof", "parts"]
theorem sc_law_sheet : FnScope N_law_sheet P_law_sheet (defScope s_law_sheet) := ⟨rfl, rfl, rfl, by decide +kernel, rfl, by decide +kernel, by decide +kernel⟩
theorem d_law_sheet {G : GG} (B : Blt G) (h_law_dip : Def G 2 "_law_dip" 2 sp_law_dip) (h_law_part : Def G 4 "_law_part" 4 sp_law_part) (h_law_sizes : Def G 3 "_law_sizes" 3 sp_law_sizes) : DSs G N_law_sheet (fnS (defScope s_law_sheet)) 4 (defBody s_law_sheet) t_law_sheet :=
    (dss_cons (ds_setE 5 (de_callJ 0 h_law_sizes (da_cons (de_var 2) (da_cons (de_var 3) da_nil))))
    (dss_cons (ds_setE 6 (de_callJ 0 h_law_dip (da_cons (de_add (de_var 4) de_int) da_nil)))
    (dss_cons (ds_setE 7 (de_add de_int (de_callJ 0 h_law_dip (da_cons de_int da_nil))))
    (dss_one (ds_ret (de_tup (da_cons (de_var 5) (da_cons (de_ct t_tuple B.tuple (da_cons (de_lc [(Str.ofString "k", 8)] (di_range1 (da_cons (de_var 6) da_nil) B.range) (by decide +kernel) (dg_name 8) dtl_nil (de_callJ 0 h_law_part (da_cons (de_var 1) (da_cons (de_var 5) (da_cons (de_var 7) da_nil))))) da_nil)) da_nil))))))))
abbrev N_law_same : List Str := ["found", "due", "one", "other"]
abbrev P_law_same : List Str := ["found", "due"]
theorem sc_law_same : FnScope N_law_same P_law_same (defScope s_law_same) := ⟨rfl, rfl, rfl, by decide +kernel, rfl, by decide +kernel, by decide +kernel⟩
theorem d_law_same {G : GG} (B : Blt G) {sp_law_same : DSpec} {kr k0 : Nat} (hk0 : 0 ≤ k0) (hk : kr ≤ k0) (h_law_same : Def G kr "_law_same" 2 sp_law_same) : DSs G N_law_same (fnS (defScope s_law_same)) k0 (defBody s_law_same) (t_law_same sp_law_same) :=
    (dss_cons (ds_if (dt_val (de_cb b_isi B.isinstance (da_cons (de_var 1) (da_cons (de_tup (da_cons (de_bltn (v := .ty "tuple") rfl B.tuple (by decide +kernel) rfl) (da_cons (de_bltn (v := .ty "list") rfl B.list (by decide +kernel) rfl) da_nil))) da_nil)))) (dss_cons (ds_if (DWe.te (dw_or (dt_cmp c_ne (de_cb b_isi B.isinstance (da_cons (de_var 1) (da_cons (de_bltn (v := .ty "tuple") rfl B.tuple (by decide +kernel) rfl) da_nil))) (de_cb b_isi B.isinstance (da_cons (de_var 0) (da_cons (de_bltn (v := .ty "tuple") rfl B.tuple (by decide +kernel) rfl) da_nil)))) (dw_or1 (dt_cmp c_ne (de_cb b_isi B.isinstance (da_cons (de_var 1) (da_cons (de_bltn (v := .ty "list") rfl B.list (by decide +kernel) rfl) da_nil))) (de_cb b_isi B.isinstance (da_cons (de_var 0) (da_cons (de_bltn (v := .ty "list") rfl B.list (by decide +kernel) rfl) da_nil))))))) (dss_one (ds_ret de_bl)) dss_nil)
    (dss_one (ds_ret (de_and (de_cmp c_eq (de_cb b_len B.len (da_cons (de_var 0) da_nil)) (de_cb b_len B.len (da_cons (de_var 1) da_nil))) (de_one (de_cb b_all B.all (da_cons (de_lc [(Str.ofString "one", 2), (Str.ofString "other", 3)] (di_zip (de_var 0) (de_var 1) B.zip) (by decide +kernel) (dg_tup (dgs_cons (dg_name 2) (dgs_cons (dg_name 3) dgs_nil))) dtl_nil (de_call h_law_same (da_cons (de_var 2) (da_cons (de_var 3) da_nil)) hk)) da_nil))))))) dss_nil)
    (dss_cons (ds_if (DWe.te (dw_or (dt_val (de_cb b_isi B.isinstance (da_cons (de_var 1) (da_cons (de_bltn (v := .ty "bool") rfl B.bool (by decide +kernel) rfl) da_nil)))) (dw_or1 (dt_val (de_cb b_isi B.isinstance (da_cons (de_var 0) (da_cons (de_bltn (v := .ty "bool") rfl B.bool (by decide +kernel) rfl) da_nil))))))) (dss_one (ds_ret (de_and (de_cb b_isi B.isinstance (da_cons (de_var 1) (da_cons (de_bltn (v := .ty "bool") rfl B.bool (by decide +kernel) rfl) da_nil))) (de_and (de_cb b_isi B.isinstance (da_cons (de_var 0) (da_cons (de_bltn (v := .ty "bool") rfl B.bool (by decide +kernel) rfl) da_nil))) (de_one (de_cmp c_eq (de_var 0) (de_var 1))))))) dss_nil)
    (dss_cons (ds_if (dt_val (de_cb b_isi B.isinstance (da_cons (de_var 1) (da_cons (de_bltn (v := .ty "int") rfl B.int (by decide +kernel) rfl) da_nil)))) (dss_one (ds_ret (de_and (de_cb b_isi B.isinstance (da_cons (de_var 0) (da_cons (de_bltn (v := .ty "int") rfl B.int (by decide +kernel) rfl) da_nil))) (de_one (de_cmp c_eq (de_var 0) (de_var 1)))))) dss_nil)
    (dss_cons (ds_if (dt_cmp c_is (de_var 1) de_non) (dss_one (ds_ret (de_cmp c_is (de_var 0) de_non))) dss_nil)
    (dss_one (ds_ret (de_and (de_cb b_isi B.isinstance (da_cons (de_var 0) (da_cons (de_bltn (v := .ty "str") rfl B.str (by decide +kernel) rfl) da_nil))) (de_one (de_cmp c_eq (de_var 0) (de_var 1))))))))))
abbrev N_law_call : List Str := ["act", "some"]
abbrev P_law_call : List Str := ["act", "some"]
theorem sc_law_call : FnScope N_law_call P_law_call (defScope s_law_call) := ⟨rfl, rfl, rfl, by decide +kernel, rfl, by decide +kernel, by decide +kernel⟩
theorem d_law_call {G : GG} (B : Blt G) {FT : FTab} (hFT : Defs G 5 FT) : DSs G N_law_call (fnS (defScope s_law_call)) 5 (defBody s_law_call) (t_law_call FT) :=
    (dss_cons (ds_if (dt_cmp c_eq (de_cb b_len B.len (da_cons (de_var 1) da_nil)) de_int) (dss_one (ds_ret (de_callV 0 hFT (da_cons (de_ix (de_var 1) de_int) (da_cons (de_ix (de_var 1) de_int) da_nil))))) dss_nil)
    (dss_cons (ds_if (dt_cmp c_eq (de_cb b_len B.len (da_cons (de_var 1) da_nil)) de_int) (dss_one (ds_ret (de_callV 0 hFT (da_cons (de_ix (de_var 1) de_int) (da_cons (de_ix (de_var 1) de_int) (da_cons (de_ix (de_var 1) de_int) da_nil)))))) dss_nil)
    (dss_cons (ds_if (dt_cmp c_eq (de_cb b_len B.len (da_cons (de_var 1) da_nil)) de_int) (dss_one (ds_ret (de_callV 0 hFT (da_cons (de_ix (de_var 1) de_int) (da_cons (de_ix (de_var 1) de_int) (da_cons (de_ix (de_var 1) de_int) (da_cons (de_ix (de_var 1) de_int) da_nil))))))) dss_nil)
    (dss_one (ds_ret (de_callV 0 hFT (da_cons (de_ix (de_var 1) de_int) da_nil)))))))
abbrev N_law_refused : List Str := ["act", "some", "caught", "e"]
abbrev P_law_refused : List Str := ["act", "some"]
theorem sc_law_refused : FnScope N_law_refused P_law_refused (defScope s_law_refused) := ⟨rfl, rfl, rfl, by decide +kernel, rfl, by decide +kernel, by decide +kernel⟩
theorem d_law_refused {G : GG} (B : Blt G) {FT : FTab} {cs : List Str} (h_law_call : Def G 6 "_law_call" 2 (sp_law_call FT)) (h_law_class : Def G 1 "_law_class" 1 (sp_law_class cs)) (hXC : XCat G "SumError" cs) : DSs G N_law_refused (fnS (defScope s_law_refused)) 6 (defBody s_law_refused) (t_law_refused FT cs) :=
    (dss_cons (ds_setE 2 de_non)
    (dss_cons (ds_tryKeep 3 2 hXC (dss_one (ds_expr (de_call h_law_call (da_cons (de_var 0) (da_cons (de_var 1) da_nil))))))
    (dss_one (ds_ret (de_if (dt_cmp c_is (de_var 2) de_non) de_str (de_call h_law_class (da_cons (de_var 2) da_nil)))))))
abbrev N_law : List Str := ["script", "jar", "turn", "word", "sheet", "many", "order", "one", "due", "told", "k", "thing", "seen"]
abbrev P_law : List Str := ["script"]
theorem sc_law : FnScope N_law P_law (defScope s_law) := ⟨rfl, rfl, rfl, by decide +kernel, rfl, by decide +kernel, by decide +kernel⟩
theorem d_law {G : GG} (B : Blt G) (h_law_bent : Def G 3 "_law_bent" 3 sp_law_bent) (h_law_dip : Def G 2 "_law_dip" 2 sp_law_dip) (h_law_due : Def G 3 "_law_due" 3 sp_law_due) (h_law_is_order : Def G 1 "_law_is_order" 2 sp_law_is_order) (h_law_jar : Def G 1 "_law_jar" 1 sp_law_jar) (h_law_order : Def G 3 "_law_order" 3 sp_law_order) (h_law_refused : Def G 7 "_law_refused" 2 (sp_law_refused FT30 cs30)) (h_law_same : Def G 5 "_law_same" 2 sp_law_same) (h_law_sheet : Def G 5 "_law_sheet" 5 sp_law_sheet) (h_law_word : Def G 3 "_law_word" 1 sp_law_word) (h_taken_out : Def G 5 "taken_out" 3 sp_taken_out) (g_taken_out : G.mg "taken_out" = some (clsV G.K "taken_out")) : DSs G N_law (fnS (defScope s_law)) 7 (defBody s_law) t_law :=
    (dss_cons (ds_set 1 (de_call h_law_jar (da_cons (de_var 0) da_nil)))
    (dss_cons (ds_for (di_range1 (da_cons de_int da_nil) B.range) (dg_name 2) (dss_cons (ds_setE 3 (de_callJ 1 h_law_word da_nil))
    (dss_cons (ds_setE 4 (de_callJ 1 h_law_sheet (da_cons (de_var 3) (da_cons de_int (da_cons de_int (da_cons de_int da_nil))))))
    (dss_cons (ds_setE 5 (de_cb b_len B.len (da_cons (de_ix (de_var 4) de_int) da_nil)))
    (dss_cons (ds_setE 6 (de_callJ 1 h_law_order (da_cons (de_var 5) (da_cons (de_callJ 1 h_law_dip (da_cons (de_add (de_var 5) de_int) da_nil)) da_nil))))
    (dss_cons (ds_for (di_seq (de_lst (da_cons (de_var 6) (da_cons (de_callJ 1 h_law_order (da_cons (de_var 5) (da_cons (de_var 5) da_nil))) (da_cons (de_tup da_nil) da_nil))))) (dg_name 7) (dss_cons (ds_setE 8 (de_call h_law_due (da_cons (de_var 3) (da_cons (de_var 4) (da_cons (de_var 7) da_nil)))))
    (dss_cons (ds_set 9 (de_call h_taken_out (da_cons (de_var 3) (da_cons (de_var 4) (da_cons (de_var 7) da_nil)))))
    (dss_cons (ds_if (dt_not (dt_val (de_callD 9 2 h_law_same (da_cons (de_varG 9) (da_cons (de_var 8) da_nil))))) (dss_one (ds_ret de_bl)) dss_nil)
    (dss_cons (ds_expr (de_clrR (de_asP 9 (de_ix (de_varG 9) de_int))))
    (dss_cons (ds_expr (de_clrR (de_asP 9 (de_ix (de_varG 9) de_int))))
    (dss_one (ds_if (dt_cmp c_ne (de_frzT 2 (de_call h_taken_out (da_cons (de_var 3) (da_cons (de_var 4) (da_cons (de_var 7) da_nil))))) (de_var 8)) (dss_one (ds_ret de_bl)) dss_nil))))))))
    (dss_one (ds_for (di_range1 (da_cons de_int da_nil) B.range) (dg_name 10) (dss_cons (ds_setE 11 (de_callJ 1 h_law_bent (da_cons (de_var 6) (da_cons (de_var 5) da_nil))))
    (dss_cons (ds_setE 12 (de_repr B.repr (da_cons (de_var 11) da_nil)))
    (dss_cons (ds_if (DWe.te (dw_and (dt_not (dt_val (de_call h_law_is_order (da_cons (de_var 11) (da_cons (de_var 5) da_nil))))) (dw_and1 (dt_cmp c_ne (de_call h_law_refused (da_cons (de_glo g_taken_out) (da_cons (de_tup (da_cons (de_var 3) (da_cons (de_var 4) (da_cons (de_var 11) da_nil)))) da_nil))) de_str)))) (dss_one (ds_ret de_bl)) dss_nil)
    (dss_one (ds_if (dt_cmp c_ne (de_repr B.repr (da_cons (de_var 11) da_nil)) (de_var 12)) (dss_one (ds_ret de_bl)) dss_nil)))))))))))))
    (dss_one (ds_ret de_bl))))
theorem facts {w : World} {K : PySem.W.Frag} {h : Heap} {mg : Str → Option Value} {f : Addr} (X : K.In h) (N : h.Ns mainGlobals mg) (hf : mg ("law" : Str) = some (.ref f)) (c : He.SaysD fa fn K) (cx : ex K = true) :
    ∃ fd : FuncData, (∀ (s : Shared) (v : Value), BindsTo s fd ⟨[v], []⟩ [("script", v)]) ∧ ∀ base : Heap, K.In base → base.Ns mainGlobals mg → FnG PySem.Challenge.pw_sumorder_k30_names_taken_out w K mg base (L2.CX PySem.Challenge.pw_sumorder_k30_names_taken_out w) 8 f fd ["script"] (toSp K 1 (lawSpec 63)) := by
  obtain ⟨f_unit, F_unit⟩ := c.def_ 0 (d := y_unit) rfl
  have g_unit := He.glo_ok X N (c.fact 0 (f := .glo "unit") rfl)
  obtain ⟨f_join, F_join⟩ := c.def_ 1 (d := y_join) rfl
  have g_join := He.glo_ok X N (c.fact 1 (f := .glo "join") rfl)
  obtain ⟨f_gather, F_gather⟩ := c.def_ 2 (d := y_gather) rfl
  have g_gather := He.glo_ok X N (c.fact 2 (f := .glo "gather") rfl)
  obtain ⟨f_is_whole, F_is_whole⟩ := c.def_ 3 (d := y_is_whole) rfl
  have g_is_whole := He.glo_ok X N (c.fact 3 (f := .glo "is_whole") rfl)
  obtain ⟨f_fillings_of, F_fillings_of⟩ := c.def_ 4 (d := y_fillings_of) rfl
  have g_fillings_of := He.glo_ok X N (c.fact 4 (f := .glo "fillings_of") rfl)
  obtain ⟨f_place_of, F_place_of⟩ := c.def_ 5 (d := y_place_of) rfl
  have g_place_of := He.glo_ok X N (c.fact 5 (f := .glo "place_of") rfl)
  obtain ⟨f_without, F_without⟩ := c.def_ 6 (d := y_without) rfl
  have g_without := He.glo_ok X N (c.fact 6 (f := .glo "without") rfl)
  obtain ⟨f_law_jar, F_law_jar⟩ := c.def_ 7 (d := y_law_jar) rfl
  have g_law_jar := He.glo_ok X N (c.fact 7 (f := .glo "_law_jar") rfl)
  obtain ⟨f_law_prime, F_law_prime⟩ := c.def_ 8 (d := y_law_prime) rfl
  have g_law_prime := He.glo_ok X N (c.fact 8 (f := .glo "_law_prime") rfl)
  obtain ⟨f_law_join, F_law_join⟩ := c.def_ 9 (d := y_law_join) rfl
  have g_law_join := He.glo_ok X N (c.fact 9 (f := .glo "_law_join") rfl)
  obtain ⟨f_law_gather, F_law_gather⟩ := c.def_ 10 (d := y_law_gather) rfl
  have g_law_gather := He.glo_ok X N (c.fact 10 (f := .glo "_law_gather") rfl)
  obtain ⟨f_law_nothing, F_law_nothing⟩ := c.def_ 11 (d := y_law_nothing) rfl
  have g_law_nothing := He.glo_ok X N (c.fact 11 (f := .glo "_law_nothing") rfl)
  obtain ⟨f_law_fillings, F_law_fillings⟩ := c.def_ 12 (d := y_law_fillings) rfl
  have g_law_fillings := He.glo_ok X N (c.fact 12 (f := .glo "_law_fillings") rfl)
  obtain ⟨f_law_times, F_law_times⟩ := c.def_ 13 (d := y_law_times) rfl
  have g_law_times := He.glo_ok X N (c.fact 13 (f := .glo "_law_times") rfl)
  obtain ⟨f_law_look, F_law_look⟩ := c.def_ 14 (d := y_law_look) rfl
  have g_law_look := He.glo_ok X N (c.fact 14 (f := .glo "_law_look") rfl)
  obtain ⟨f_law_class, F_law_class⟩ := c.def_ 15 (d := y_law_class) rfl
  have g_law_class := He.glo_ok X N (c.fact 15 (f := .glo "_law_class") rfl)
  obtain ⟨f_law_is_order, F_law_is_order⟩ := c.def_ 16 (d := y_law_is_order) rfl
  have g_law_is_order := He.glo_ok X N (c.fact 16 (f := .glo "_law_is_order") rfl)
  obtain ⟨f_are_names, F_are_names⟩ := c.def_ 17 (d := y_are_names) rfl
  have g_are_names := He.glo_ok X N (c.fact 17 (f := .glo "are_names") rfl)
  obtain ⟨f_worth_by, F_worth_by⟩ := c.def_ 18 (d := y_worth_by) rfl
  have g_worth_by := He.glo_ok X N (c.fact 18 (f := .glo "worth_by") rfl)
  obtain ⟨f_need_name, F_need_name⟩ := c.def_ 19 (d := y_need_name) rfl
  have g_need_name := He.glo_ok X N (c.fact 19 (f := .glo "need_name") rfl)
  obtain ⟨f_is_order, F_is_order⟩ := c.def_ 20 (d := y_is_order) rfl
  have g_is_order := He.glo_ok X N (c.fact 20 (f := .glo "is_order") rfl)
  obtain ⟨f_law_dip, F_law_dip⟩ := c.def_ 21 (d := y_law_dip) rfl
  have g_law_dip := He.glo_ok X N (c.fact 21 (f := .glo "_law_dip") rfl)
  obtain ⟨f_law_made, F_law_made⟩ := c.def_ 22 (d := y_law_made) rfl
  have g_law_made := He.glo_ok X N (c.fact 22 (f := .glo "_law_made") rfl)
  obtain ⟨f_need_names, F_need_names⟩ := c.def_ 23 (d := y_need_names) rfl
  have g_need_names := He.glo_ok X N (c.fact 23 (f := .glo "need_names") rfl)
  obtain ⟨f_joined, F_joined⟩ := c.def_ 24 (d := y_joined) rfl
  have g_joined := He.glo_ok X N (c.fact 24 (f := .glo "joined") rfl)
  obtain ⟨f_gathered, F_gathered⟩ := c.def_ 25 (d := y_gathered) rfl
  have g_gathered := He.glo_ok X N (c.fact 25 (f := .glo "gathered") rfl)
  obtain ⟨f_need_order, F_need_order⟩ := c.def_ 26 (d := y_need_order) rfl
  have g_need_order := He.glo_ok X N (c.fact 26 (f := .glo "need_order") rfl)
  obtain ⟨f_law_word, F_law_word⟩ := c.def_ 27 (d := y_law_word) rfl
  have g_law_word := He.glo_ok X N (c.fact 27 (f := .glo "_law_word") rfl)
  obtain ⟨f_law_number, F_law_number⟩ := c.def_ 28 (d := y_law_number) rfl
  have g_law_number := He.glo_ok X N (c.fact 28 (f := .glo "_law_number") rfl)
  obtain ⟨f_law_sizes, F_law_sizes⟩ := c.def_ 29 (d := y_law_sizes) rfl
  have g_law_sizes := He.glo_ok X N (c.fact 29 (f := .glo "_law_sizes") rfl)
  obtain ⟨f_law_some, F_law_some⟩ := c.def_ 30 (d := y_law_some) rfl
  have g_law_some := He.glo_ok X N (c.fact 30 (f := .glo "_law_some") rfl)
  obtain ⟨f_law_due, F_law_due⟩ := c.def_ 31 (d := y_law_due) rfl
  have g_law_due := He.glo_ok X N (c.fact 31 (f := .glo "_law_due") rfl)
  obtain ⟨f_law_order, F_law_order⟩ := c.def_ 32 (d := y_law_order) rfl
  have g_law_order := He.glo_ok X N (c.fact 32 (f := .glo "_law_order") rfl)
  obtain ⟨f_law_bent, F_law_bent⟩ := c.def_ 33 (d := y_law_bent) rfl
  have g_law_bent := He.glo_ok X N (c.fact 33 (f := .glo "_law_bent") rfl)
  obtain ⟨f_widened, F_widened⟩ := c.def_ 34 (d := y_widened) rfl
  have g_widened := He.glo_ok X N (c.fact 34 (f := .glo "widened") rfl)
  obtain ⟨f_all_joined, F_all_joined⟩ := c.def_ 35 (d := y_all_joined) rfl
  have g_all_joined := He.glo_ok X N (c.fact 35 (f := .glo "all_joined") rfl)
  obtain ⟨f_law_part, F_law_part⟩ := c.def_ 36 (d := y_law_part) rfl
  have g_law_part := He.glo_ok X N (c.fact 36 (f := .glo "_law_part") rfl)
  obtain ⟨f_taken_out, F_taken_out⟩ := c.def_ 37 (d := y_taken_out) rfl
  have g_taken_out := He.glo_ok X N (c.fact 37 (f := .glo "taken_out") rfl)
  obtain ⟨f_law_sheet, F_law_sheet⟩ := c.def_ 38 (d := y_law_sheet) rfl
  have g_law_sheet := He.glo_ok X N (c.fact 38 (f := .glo "_law_sheet") rfl)
  obtain ⟨f_law_same, F_law_same⟩ := c.def_ 39 (d := y_law_same) rfl
  have g_law_same := He.glo_ok X N (c.fact 39 (f := .glo "_law_same") rfl)
  obtain ⟨f_law_call, F_law_call⟩ := c.def_ 40 (d := y_law_call) rfl
  have g_law_call := He.glo_ok X N (c.fact 40 (f := .glo "_law_call") rfl)
  obtain ⟨f_law_refused, F_law_refused⟩ := c.def_ 41 (d := y_law_refused) rfl
  have g_law_refused := He.glo_ok X N (c.fact 41 (f := .glo "_law_refused") rfl)
  obtain ⟨f_law, F_law⟩ := c.def_ 42 (d := y_law) rfl
  have e := hf.symm.trans (He.glo_ok X N (c.fact 42 (f := .glo "law") rfl))
  cases e
  have b := FunD.bindsA (ps := ["script"]) F_law fun _ _ _ _ _ _ us hl => match us, hl with | [_], _ => rfl
  refine ⟨f_law, fun s v => b s [v] rfl, fun base _ _ => ?_⟩
  let G : GG := ⟨PySem.Challenge.pw_sumorder_k30_names_taken_out, w, K, mg, base⟩
  have B : Blt G := ⟨He.free_ok X N (c.fact 43 (f := .free "len") rfl), He.free_ok X N (c.fact 44 (f := .free "range") rfl), He.free_ok X N (c.fact 45 (f := .free "sorted") rfl), He.free_ok X N (c.fact 46 (f := .free "set") rfl), He.free_ok X N (c.fact 47 (f := .free "tuple") rfl), He.free_ok X N (c.fact 48 (f := .free "list") rfl), He.free_ok X N (c.fact 49 (f := .free "dict") rfl), He.free_ok X N (c.fact 50 (f := .free "zip") rfl), He.free_ok X N (c.fact 51 (f := .free "enumerate") rfl), He.free_ok X N (c.fact 52 (f := .free "all") rfl), He.free_ok X N (c.fact 53 (f := .free "any") rfl), He.free_ok X N (c.fact 54 (f := .free "sum") rfl), He.free_ok X N (c.fact 55 (f := .free "min") rfl), He.free_ok X N (c.fact 56 (f := .free "max") rfl), He.free_ok X N (c.fact 57 (f := .free "isinstance") rfl), He.free_ok X N (c.fact 58 (f := .free "str") rfl), He.free_ok X N (c.fact 59 (f := .free "int") rfl), He.free_ok X N (c.fact 60 (f := .free "repr") rfl), He.free_ok X N (c.fact 61 (f := .free "bool") rfl)⟩
  have x_NoName : XOk G "NoName" := ⟨He.glo_ok X N (c.fact 62 (f := .glo "NoName") rfl), c.fact 63 (f := .exc "NoName") rfl⟩
  have g_NoBack : G.mg "NoBack" = some (clsV G.K "NoBack") := He.glo_ok X N (c.fact 64 (f := .glo "NoBack") rfl)
  have g_NoBag : G.mg "NoBag" = some (clsV G.K "NoBag") := He.glo_ok X N (c.fact 65 (f := .glo "NoBag") rfl)
  have g_NoDeeds : G.mg "NoDeeds" = some (clsV G.K "NoDeeds") := He.glo_ok X N (c.fact 66 (f := .glo "NoDeeds") rfl)
  have g_NoFilling : G.mg "NoFilling" = some (clsV G.K "NoFilling") := He.glo_ok X N (c.fact 67 (f := .glo "NoFilling") rfl)
  have g_NoName : G.mg "NoName" = some (clsV G.K "NoName") := He.glo_ok X N (c.fact 68 (f := .glo "NoName") rfl)
  have g_NoNumber : G.mg "NoNumber" = some (clsV G.K "NoNumber") := He.glo_ok X N (c.fact 69 (f := .glo "NoNumber") rfl)
  have g_NoOffers : G.mg "NoOffers" = some (clsV G.K "NoOffers") := He.glo_ok X N (c.fact 70 (f := .glo "NoOffers") rfl)
  have g_NoPart : G.mg "NoPart" = some (clsV G.K "NoPart") := He.glo_ok X N (c.fact 71 (f := .glo "NoPart") rfl)
  have g_NoRow : G.mg "NoRow" = some (clsV G.K "NoRow") := He.glo_ok X N (c.fact 72 (f := .glo "NoRow") rfl)
  have g_NoText : G.mg "NoText" = some (clsV G.K "NoText") := He.glo_ok X N (c.fact 73 (f := .glo "NoText") rfl)
  have g_NoTree : G.mg "NoTree" = some (clsV G.K "NoTree") := He.glo_ok X N (c.fact 74 (f := .glo "NoTree") rfl)
  have g_NoWeights : G.mg "NoWeights" = some (clsV G.K "NoWeights") := He.glo_ok X N (c.fact 75 (f := .glo "NoWeights") rfl)
  have g_NoWorths : G.mg "NoWorths" = some (clsV G.K "NoWorths") := He.glo_ok X N (c.fact 76 (f := .glo "NoWorths") rfl)
  have g_SumError : G.mg "SumError" = some (clsV G.K "SumError") := He.glo_ok X N (c.fact 77 (f := .glo "SumError") rfl)
  have g_TooMany : G.mg "TooMany" = some (clsV G.K "TooMany") := He.glo_ok X N (c.fact 78 (f := .glo "TooMany") rfl)
  have b_ValueError : G.mg "ValueError" = none := He.free_ok X N (c.fact 79 (f := .free "ValueError") rfl)
  have k_ROOF := He.int_ok X N (c.fact 80 (f := .int "ROOF" 1000000000000000000000000000000) rfl)
  have hXI : XIs G.K (xtab cs30) := xis_of cx
  have hXC : XCat G "SumError" cs30 := xcat_of cx g_SumError
  have h_unit : Def G 1 "unit" 1 sp_unit := Def.of (st := s_unit) (m := 0) F_unit g_unit sc_unit (d_unit B k_ROOF) m_unit rfl rfl (fun ds Q X h => by repeat (first | (refine Or.elim h (fun h => ?_) (fun h => ?_)) | (obtain ⟨rfl, _⟩ := h; rfl) | (obtain ⟨rfl | rfl, _⟩ := h <;> rfl) | (obtain ⟨⟨_, _, rfl, _⟩, _⟩ := h; rfl) | (obtain ⟨_, h⟩ := h))) (FunD.bindsN (ps := P_unit) F_unit fun _ _ _ _ _ _ us hl => match us, hl with | [_], _ => rfl)
  have h_join : Def G 1 "join" 3 sp_join := Def.of (st := s_join) (m := 0) F_join g_join sc_join (d_join B ) m_join rfl rfl (fun ds Q X h => by repeat (first | (refine Or.elim h (fun h => ?_) (fun h => ?_)) | (obtain ⟨rfl, _⟩ := h; rfl) | (obtain ⟨rfl | rfl, _⟩ := h <;> rfl) | (obtain ⟨⟨_, _, rfl, _⟩, _⟩ := h; rfl) | (obtain ⟨_, h⟩ := h))) (FunD.bindsN (ps := P_join) F_join fun _ _ _ _ _ _ us hl => match us, hl with | [_, _, _], _ => rfl)
  have h_gather : Def G 1 "gather" 2 sp_gather := Def.of (st := s_gather) (m := 0) F_gather g_gather sc_gather (d_gather B ) m_gather rfl rfl (fun ds Q X h => by repeat (first | (refine Or.elim h (fun h => ?_) (fun h => ?_)) | (obtain ⟨rfl, _⟩ := h; rfl) | (obtain ⟨rfl | rfl, _⟩ := h <;> rfl) | (obtain ⟨⟨_, _, rfl, _⟩, _⟩ := h; rfl) | (obtain ⟨_, h⟩ := h))) (FunD.bindsN (ps := P_gather) F_gather fun _ _ _ _ _ _ us hl => match us, hl with | [_, _], _ => rfl)
  have h_is_whole : Def G 1 "is_whole" 1 sp_is_whole := Def.of (st := s_is_whole) (m := 0) F_is_whole g_is_whole sc_is_whole (d_is_whole B ) m_is_whole rfl rfl (fun ds Q X h => by repeat (first | (refine Or.elim h (fun h => ?_) (fun h => ?_)) | (obtain ⟨rfl, _⟩ := h; rfl) | (obtain ⟨rfl | rfl, _⟩ := h <;> rfl) | (obtain ⟨⟨_, _, rfl, _⟩, _⟩ := h; rfl) | (obtain ⟨_, h⟩ := h))) (FunD.bindsN (ps := P_is_whole) F_is_whole fun _ _ _ _ _ _ us hl => match us, hl with | [_], _ => rfl)
  have h_fillings_of : Def G 1 "fillings_of" 2 sp_fillings_of := Def.of (st := s_fillings_of) (m := 5) F_fillings_of g_fillings_of sc_fillings_of (d_fillings_of B ) m_fillings_of rfl rfl (fun ds Q X h => by repeat (first | (refine Or.elim h (fun h => ?_) (fun h => ?_)) | (obtain ⟨rfl, _⟩ := h; rfl) | (obtain ⟨rfl | rfl, _⟩ := h <;> rfl) | (obtain ⟨⟨_, _, rfl, _⟩, _⟩ := h; rfl) | (obtain ⟨_, h⟩ := h))) (FunD.bindsN (ps := P_fillings_of) F_fillings_of fun _ _ _ _ _ _ us hl => match us, hl with | [_, _], _ => rfl)
  have h_place_of : Def G 1 "place_of" 3 sp_place_of := Def.of (st := s_place_of) (m := 3) F_place_of g_place_of sc_place_of (d_place_of B ) m_place_of rfl rfl (fun ds Q X h => by repeat (first | (refine Or.elim h (fun h => ?_) (fun h => ?_)) | (obtain ⟨rfl, _⟩ := h; rfl) | (obtain ⟨rfl | rfl, _⟩ := h <;> rfl) | (obtain ⟨⟨_, _, rfl, _⟩, _⟩ := h; rfl) | (obtain ⟨_, h⟩ := h))) (FunD.bindsN (ps := P_place_of) F_place_of fun _ _ _ _ _ _ us hl => match us, hl with | [_, _, _], _ => rfl)
  have h_without : Def G 1 "without" 2 sp_without := Def.of (st := s_without) (m := 1) F_without g_without sc_without (d_without B ) m_without rfl rfl (fun ds Q X h => by repeat (first | (refine Or.elim h (fun h => ?_) (fun h => ?_)) | (obtain ⟨rfl, _⟩ := h; rfl) | (obtain ⟨rfl | rfl, _⟩ := h <;> rfl) | (obtain ⟨⟨_, _, rfl, _⟩, _⟩ := h; rfl) | (obtain ⟨_, h⟩ := h))) (FunD.bindsN (ps := P_without) F_without fun _ _ _ _ _ _ us hl => match us, hl with | [_, _], _ => rfl)
  have h_law_jar : Def G 1 "_law_jar" 1 sp_law_jar := Def.of (st := s_law_jar) (m := 0) F_law_jar g_law_jar sc_law_jar (d_law_jar B ) m_law_jar rfl rfl (fun ds Q X h => by repeat (first | (refine Or.elim h (fun h => ?_) (fun h => ?_)) | (obtain ⟨rfl, _⟩ := h; rfl) | (obtain ⟨rfl | rfl, _⟩ := h <;> rfl) | (obtain ⟨⟨_, _, rfl, _⟩, _⟩ := h; rfl) | (obtain ⟨_, h⟩ := h))) (FunD.bindsN (ps := P_law_jar) F_law_jar fun _ _ _ _ _ _ us hl => match us, hl with | [_], _ => rfl)
  have h_law_prime : Def G 1 "_law_prime" 1 sp_law_prime := Def.of (st := s_law_prime) (m := 1) F_law_prime g_law_prime sc_law_prime (d_law_prime B ) m_law_prime rfl rfl (fun ds Q X h => by repeat (first | (refine Or.elim h (fun h => ?_) (fun h => ?_)) | (obtain ⟨rfl, _⟩ := h; rfl) | (obtain ⟨rfl | rfl, _⟩ := h <;> rfl) | (obtain ⟨⟨_, _, rfl, _⟩, _⟩ := h; rfl) | (obtain ⟨_, h⟩ := h))) (FunD.bindsN (ps := P_law_prime) F_law_prime fun _ _ _ _ _ _ us hl => match us, hl with | [_], _ => rfl)
  have h_law_join : Def G 1 "_law_join" 3 sp_law_join := Def.of (st := s_law_join) (m := 0) F_law_join g_law_join sc_law_join (d_law_join B ) m_law_join rfl rfl (fun ds Q X h => by repeat (first | (refine Or.elim h (fun h => ?_) (fun h => ?_)) | (obtain ⟨rfl, _⟩ := h; rfl) | (obtain ⟨rfl | rfl, _⟩ := h <;> rfl) | (obtain ⟨⟨_, _, rfl, _⟩, _⟩ := h; rfl) | (obtain ⟨_, h⟩ := h))) (FunD.bindsN (ps := P_law_join) F_law_join fun _ _ _ _ _ _ us hl => match us, hl with | [_, _, _], _ => rfl)
  have h_law_gather : Def G 1 "_law_gather" 2 sp_law_gather := Def.of (st := s_law_gather) (m := 2) F_law_gather g_law_gather sc_law_gather (d_law_gather B ) m_law_gather rfl rfl (fun ds Q X h => by repeat (first | (refine Or.elim h (fun h => ?_) (fun h => ?_)) | (obtain ⟨rfl, _⟩ := h; rfl) | (obtain ⟨rfl | rfl, _⟩ := h <;> rfl) | (obtain ⟨⟨_, _, rfl, _⟩, _⟩ := h; rfl) | (obtain ⟨_, h⟩ := h))) (FunD.bindsN (ps := P_law_gather) F_law_gather fun _ _ _ _ _ _ us hl => match us, hl with | [_, _], _ => rfl)
  have h_law_nothing : Def G 1 "_law_nothing" 1 sp_law_nothing := Def.of (st := s_law_nothing) (m := 0) F_law_nothing g_law_nothing sc_law_nothing (d_law_nothing B ) m_law_nothing rfl rfl (fun ds Q X h => by repeat (first | (refine Or.elim h (fun h => ?_) (fun h => ?_)) | (obtain ⟨rfl, _⟩ := h; rfl) | (obtain ⟨rfl | rfl, _⟩ := h <;> rfl) | (obtain ⟨⟨_, _, rfl, _⟩, _⟩ := h; rfl) | (obtain ⟨_, h⟩ := h))) (FunD.bindsN (ps := P_law_nothing) F_law_nothing fun _ _ _ _ _ _ us hl => match us, hl with | [_], _ => rfl)
  have h_law_fillings : Def G 1 "_law_fillings" 2 sp_law_fillings := Def.of (st := s_law_fillings) (m := 5) F_law_fillings g_law_fillings sc_law_fillings (d_law_fillings B ) m_law_fillings rfl rfl (fun ds Q X h => by repeat (first | (refine Or.elim h (fun h => ?_) (fun h => ?_)) | (obtain ⟨rfl, _⟩ := h; rfl) | (obtain ⟨rfl | rfl, _⟩ := h <;> rfl) | (obtain ⟨⟨_, _, rfl, _⟩, _⟩ := h; rfl) | (obtain ⟨_, h⟩ := h))) (FunD.bindsN (ps := P_law_fillings) F_law_fillings fun _ _ _ _ _ _ us hl => match us, hl with | [_, _], _ => rfl)
  have h_law_times : Def G 1 "_law_times" 1 sp_law_times := Def.of (st := s_law_times) (m := 2) F_law_times g_law_times sc_law_times (d_law_times B ) m_law_times rfl rfl (fun ds Q X h => by repeat (first | (refine Or.elim h (fun h => ?_) (fun h => ?_)) | (obtain ⟨rfl, _⟩ := h; rfl) | (obtain ⟨rfl | rfl, _⟩ := h <;> rfl) | (obtain ⟨⟨_, _, rfl, _⟩, _⟩ := h; rfl) | (obtain ⟨_, h⟩ := h))) (FunD.bindsN (ps := P_law_times) F_law_times fun _ _ _ _ _ _ us hl => match us, hl with | [_], _ => rfl)
  have h_law_look : Def G 1 "_law_look" 3 sp_law_look := Def.of (st := s_law_look) (m := 2) F_law_look g_law_look sc_law_look (d_law_look B ) m_law_look rfl rfl (fun ds Q X h => by repeat (first | (refine Or.elim h (fun h => ?_) (fun h => ?_)) | (obtain ⟨rfl, _⟩ := h; rfl) | (obtain ⟨rfl | rfl, _⟩ := h <;> rfl) | (obtain ⟨⟨_, _, rfl, _⟩, _⟩ := h; rfl) | (obtain ⟨_, h⟩ := h))) (FunD.bindsN (ps := P_law_look) F_law_look fun _ _ _ _ _ _ us hl => match us, hl with | [_, _, _], _ => rfl)
  have h_law_class : Def G 1 "_law_class" 1 (sp_law_class cs30) := Def.of (st := s_law_class) (m := 2) F_law_class g_law_class sc_law_class (d_law_class B g_NoBack g_NoBag g_NoDeeds g_NoFilling g_NoName g_NoNumber g_NoOffers g_NoPart g_NoRow g_NoText g_NoTree g_NoWeights g_NoWorths g_TooMany b_ValueError hXI) (m_law_class cs30) rfl rfl (fun ds Q X h => by repeat (first | (refine Or.elim h (fun h => ?_) (fun h => ?_)) | (obtain ⟨rfl, _⟩ := h; rfl) | (obtain ⟨rfl | rfl, _⟩ := h <;> rfl) | (obtain ⟨⟨_, _, rfl, _⟩, _⟩ := h; rfl) | (obtain ⟨_, h⟩ := h))) (FunD.bindsN (ps := P_law_class) F_law_class fun _ _ _ _ _ _ us hl => match us, hl with | [_], _ => rfl)
  have h_law_is_order : Def G 1 "_law_is_order" 2 sp_law_is_order := Def.of (st := s_law_is_order) (m := 1) F_law_is_order g_law_is_order sc_law_is_order (d_law_is_order B ) m_law_is_order rfl rfl (fun ds Q X h => by repeat (first | (refine Or.elim h (fun h => ?_) (fun h => ?_)) | (obtain ⟨rfl, _⟩ := h; rfl) | (obtain ⟨rfl | rfl, _⟩ := h <;> rfl) | (obtain ⟨⟨_, _, rfl, _⟩, _⟩ := h; rfl) | (obtain ⟨_, h⟩ := h))) (FunD.bindsN (ps := P_law_is_order) F_law_is_order fun _ _ _ _ _ _ us hl => match us, hl with | [_, _], _ => rfl)
  have h_are_names : Def G 2 "are_names" 2 sp_are_names := Def.of (st := s_are_names) (m := 2) F_are_names g_are_names sc_are_names (d_are_names B h_is_whole) m_are_names rfl rfl (fun ds Q X h => by repeat (first | (refine Or.elim h (fun h => ?_) (fun h => ?_)) | (obtain ⟨rfl, _⟩ := h; rfl) | (obtain ⟨rfl | rfl, _⟩ := h <;> rfl) | (obtain ⟨⟨_, _, rfl, _⟩, _⟩ := h; rfl) | (obtain ⟨_, h⟩ := h))) (FunD.bindsN (ps := P_are_names) F_are_names fun _ _ _ _ _ _ us hl => match us, hl with | [_, _], _ => rfl)
  have h_worth_by : Def G 2 "worth_by" 4 sp_worth_by := Def.of (st := s_worth_by) (m := 3) F_worth_by g_worth_by sc_worth_by (d_worth_by B h_place_of) m_worth_by rfl rfl (fun ds Q X h => by repeat (first | (refine Or.elim h (fun h => ?_) (fun h => ?_)) | (obtain ⟨rfl, _⟩ := h; rfl) | (obtain ⟨rfl | rfl, _⟩ := h <;> rfl) | (obtain ⟨⟨_, _, rfl, _⟩, _⟩ := h; rfl) | (obtain ⟨_, h⟩ := h))) (FunD.bindsN (ps := P_worth_by) F_worth_by fun _ _ _ _ _ _ us hl => match us, hl with | [_, _, _, _], _ => rfl)
  have h_need_name : Def G 2 "need_name" 2 sp_need_name := Def.of (st := s_need_name) (m := 0) F_need_name g_need_name sc_need_name (d_need_name B h_is_whole x_NoName) m_need_name rfl rfl (fun ds Q X h => by repeat (first | (refine Or.elim h (fun h => ?_) (fun h => ?_)) | (obtain ⟨rfl, _⟩ := h; rfl) | (obtain ⟨rfl | rfl, _⟩ := h <;> rfl) | (obtain ⟨⟨_, _, rfl, _⟩, _⟩ := h; rfl) | (obtain ⟨_, h⟩ := h))) (FunD.bindsN (ps := P_need_name) F_need_name fun _ _ _ _ _ _ us hl => match us, hl with | [_, _], _ => rfl)
  have h_is_order : Def G 2 "is_order" 2 sp_is_order := Def.of (st := s_is_order) (m := 1) F_is_order g_is_order sc_is_order (d_is_order B h_is_whole) m_is_order rfl rfl (fun ds Q X h => by repeat (first | (refine Or.elim h (fun h => ?_) (fun h => ?_)) | (obtain ⟨rfl, _⟩ := h; rfl) | (obtain ⟨rfl | rfl, _⟩ := h <;> rfl) | (obtain ⟨⟨_, _, rfl, _⟩, _⟩ := h; rfl) | (obtain ⟨_, h⟩ := h))) (FunD.bindsN (ps := P_is_order) F_is_order fun _ _ _ _ _ _ us hl => match us, hl with | [_, _], _ => rfl)
  have h_law_dip : Def G 2 "_law_dip" 2 sp_law_dip := Def.of (st := s_law_dip) (m := 6) F_law_dip g_law_dip sc_law_dip (d_law_dip B h_law_prime) m_law_dip rfl rfl (fun ds Q X h => by repeat (first | (refine Or.elim h (fun h => ?_) (fun h => ?_)) | (obtain ⟨rfl, _⟩ := h; rfl) | (obtain ⟨rfl | rfl, _⟩ := h <;> rfl) | (obtain ⟨⟨_, _, rfl, _⟩, _⟩ := h; rfl) | (obtain ⟨_, h⟩ := h))) (FunD.bindsN (ps := P_law_dip) F_law_dip fun _ _ _ _ _ _ us hl => match us, hl with | [_, _], _ => rfl)
  have h_law_made : Def G 2 "_law_made" 4 sp_law_made := Def.of (st := s_law_made) (m := 10) F_law_made g_law_made sc_law_made (d_law_made B h_law_fillings h_law_gather h_law_join h_law_look h_law_nothing) m_law_made rfl rfl (fun ds Q X h => by repeat (first | (refine Or.elim h (fun h => ?_) (fun h => ?_)) | (obtain ⟨rfl, _⟩ := h; rfl) | (obtain ⟨rfl | rfl, _⟩ := h <;> rfl) | (obtain ⟨⟨_, _, rfl, _⟩, _⟩ := h; rfl) | (obtain ⟨_, h⟩ := h))) (FunD.bindsN (ps := P_law_made) F_law_made fun _ _ _ _ _ _ us hl => match us, hl with | [_, _, _, _], _ => rfl)
  have h_need_names : Def G 3 "need_names" 2 sp_need_names := Def.of (st := s_need_names) (m := 0) F_need_names g_need_names sc_need_names (d_need_names B h_are_names x_NoName) m_need_names rfl rfl (fun ds Q X h => by repeat (first | (refine Or.elim h (fun h => ?_) (fun h => ?_)) | (obtain ⟨rfl, _⟩ := h; rfl) | (obtain ⟨rfl | rfl, _⟩ := h <;> rfl) | (obtain ⟨⟨_, _, rfl, _⟩, _⟩ := h; rfl) | (obtain ⟨_, h⟩ := h))) (FunD.bindsN (ps := P_need_names) F_need_names fun _ _ _ _ _ _ us hl => match us, hl with | [_, _], _ => rfl)
  have h_joined : Def G 3 "joined" 4 sp_joined := Def.of (st := s_joined) (m := 3) F_joined g_joined sc_joined (d_joined B h_fillings_of h_join h_worth_by) m_joined rfl rfl (fun ds Q X h => by repeat (first | (refine Or.elim h (fun h => ?_) (fun h => ?_)) | (obtain ⟨rfl, _⟩ := h; rfl) | (obtain ⟨rfl | rfl, _⟩ := h <;> rfl) | (obtain ⟨⟨_, _, rfl, _⟩, _⟩ := h; rfl) | (obtain ⟨_, h⟩ := h))) (FunD.bindsN (ps := P_joined) F_joined fun _ _ _ _ _ _ us hl => match us, hl with | [_, _, _, _], _ => rfl)
  have h_gathered : Def G 3 "gathered" 4 sp_gathered := Def.of (st := s_gathered) (m := 5) F_gathered g_gathered sc_gathered (d_gathered B h_fillings_of h_gather h_need_name h_without h_worth_by) m_gathered rfl rfl (fun ds Q X h => by repeat (first | (refine Or.elim h (fun h => ?_) (fun h => ?_)) | (obtain ⟨rfl, _⟩ := h; rfl) | (obtain ⟨rfl | rfl, _⟩ := h <;> rfl) | (obtain ⟨⟨_, _, rfl, _⟩, _⟩ := h; rfl) | (obtain ⟨_, h⟩ := h))) (FunD.bindsN (ps := P_gathered) F_gathered fun _ _ _ _ _ _ us hl => match us, hl with | [_, _, _, _], _ => rfl)
  have h_need_order : Def G 3 "need_order" 2 sp_need_order := Def.of (st := s_need_order) (m := 0) F_need_order g_need_order sc_need_order (d_need_order B h_is_order x_NoName) m_need_order rfl rfl (fun ds Q X h => by repeat (first | (refine Or.elim h (fun h => ?_) (fun h => ?_)) | (obtain ⟨rfl, _⟩ := h; rfl) | (obtain ⟨rfl | rfl, _⟩ := h <;> rfl) | (obtain ⟨⟨_, _, rfl, _⟩, _⟩ := h; rfl) | (obtain ⟨_, h⟩ := h))) (FunD.bindsN (ps := P_need_order) F_need_order fun _ _ _ _ _ _ us hl => match us, hl with | [_, _], _ => rfl)
  have h_law_word : Def G 3 "_law_word" 1 sp_law_word := Def.of (st := s_law_word) (m := 0) F_law_word g_law_word sc_law_word (d_law_word B h_law_dip) m_law_word rfl rfl (fun ds Q X h => by repeat (first | (refine Or.elim h (fun h => ?_) (fun h => ?_)) | (obtain ⟨rfl, _⟩ := h; rfl) | (obtain ⟨rfl | rfl, _⟩ := h <;> rfl) | (obtain ⟨⟨_, _, rfl, _⟩, _⟩ := h; rfl) | (obtain ⟨_, h⟩ := h))) (FunD.bindsN (ps := P_law_word) F_law_word fun _ _ _ _ _ _ us hl => match us, hl with | [_], _ => rfl)
  have h_law_number : Def G 3 "_law_number" 2 sp_law_number := Def.of (st := s_law_number) (m := 1) F_law_number g_law_number sc_law_number (d_law_number B h_law_dip) m_law_number rfl rfl (fun ds Q X h => by repeat (first | (refine Or.elim h (fun h => ?_) (fun h => ?_)) | (obtain ⟨rfl, _⟩ := h; rfl) | (obtain ⟨rfl | rfl, _⟩ := h <;> rfl) | (obtain ⟨⟨_, _, rfl, _⟩, _⟩ := h; rfl) | (obtain ⟨_, h⟩ := h))) (FunD.bindsN (ps := P_law_number) F_law_number fun _ _ _ _ _ _ us hl => match us, hl with | [_, _], _ => rfl)
  have h_law_sizes : Def G 3 "_law_sizes" 3 sp_law_sizes := Def.of (st := s_law_sizes) (m := 3) F_law_sizes g_law_sizes sc_law_sizes (d_law_sizes B h_law_dip h_law_times) m_law_sizes rfl rfl (fun ds Q X h => by repeat (first | (refine Or.elim h (fun h => ?_) (fun h => ?_)) | (obtain ⟨rfl, _⟩ := h; rfl) | (obtain ⟨rfl | rfl, _⟩ := h <;> rfl) | (obtain ⟨⟨_, _, rfl, _⟩, _⟩ := h; rfl) | (obtain ⟨_, h⟩ := h))) (FunD.bindsN (ps := P_law_sizes) F_law_sizes fun _ _ _ _ _ _ us hl => match us, hl with | [_, _, _], _ => rfl)
  have h_law_some : Def G 3 "_law_some" 3 sp_law_some := Def.of (st := s_law_some) (m := 3) F_law_some g_law_some sc_law_some (d_law_some B h_law_dip) m_law_some rfl rfl (fun ds Q X h => by repeat (first | (refine Or.elim h (fun h => ?_) (fun h => ?_)) | (obtain ⟨rfl, _⟩ := h; rfl) | (obtain ⟨rfl | rfl, _⟩ := h <;> rfl) | (obtain ⟨⟨_, _, rfl, _⟩, _⟩ := h; rfl) | (obtain ⟨_, h⟩ := h))) (FunD.bindsN (ps := P_law_some) F_law_some fun _ _ _ _ _ _ us hl => match us, hl with | [_, _, _], _ => rfl)
  have h_law_due : Def G 3 "_law_due" 3 sp_law_due := Def.of (st := s_law_due) (m := 7) F_law_due g_law_due sc_law_due (d_law_due B h_law_made) m_law_due rfl rfl (fun ds Q X h => by repeat (first | (refine Or.elim h (fun h => ?_) (fun h => ?_)) | (obtain ⟨rfl, _⟩ := h; rfl) | (obtain ⟨rfl | rfl, _⟩ := h <;> rfl) | (obtain ⟨⟨_, _, rfl, _⟩, _⟩ := h; rfl) | (obtain ⟨_, h⟩ := h))) (FunD.bindsN (ps := P_law_due) F_law_due fun _ _ _ _ _ _ us hl => match us, hl with | [_, _, _], _ => rfl)
  have h_law_order : Def G 3 "_law_order" 3 sp_law_order := Def.of (st := s_law_order) (m := 2) F_law_order g_law_order sc_law_order (d_law_order B h_law_dip) m_law_order rfl rfl (fun ds Q X h => by repeat (first | (refine Or.elim h (fun h => ?_) (fun h => ?_)) | (obtain ⟨rfl, _⟩ := h; rfl) | (obtain ⟨rfl | rfl, _⟩ := h <;> rfl) | (obtain ⟨⟨_, _, rfl, _⟩, _⟩ := h; rfl) | (obtain ⟨_, h⟩ := h))) (FunD.bindsN (ps := P_law_order) F_law_order fun _ _ _ _ _ _ us hl => match us, hl with | [_, _, _], _ => rfl)
  have h_law_bent : Def G 3 "_law_bent" 3 sp_law_bent := Def.of (st := s_law_bent) (m := 3) F_law_bent g_law_bent sc_law_bent (d_law_bent B h_law_dip) m_law_bent rfl rfl (fun ds Q X h => by repeat (first | (refine Or.elim h (fun h => ?_) (fun h => ?_)) | (obtain ⟨rfl, _⟩ := h; rfl) | (obtain ⟨rfl | rfl, _⟩ := h <;> rfl) | (obtain ⟨⟨_, _, rfl, _⟩, _⟩ := h; rfl) | (obtain ⟨_, h⟩ := h))) (FunD.bindsN (ps := P_law_bent) F_law_bent fun _ _ _ _ _ _ us hl => match us, hl with | [_, _, _], _ => rfl)
  have h_widened : Def G 4 "widened" 3 sp_widened := Def.of (st := s_widened) (m := 2) F_widened g_widened sc_widened (d_widened B h_fillings_of h_need_names h_worth_by) m_widened rfl rfl (fun ds Q X h => by repeat (first | (refine Or.elim h (fun h => ?_) (fun h => ?_)) | (obtain ⟨rfl, _⟩ := h; rfl) | (obtain ⟨rfl | rfl, _⟩ := h <;> rfl) | (obtain ⟨⟨_, _, rfl, _⟩, _⟩ := h; rfl) | (obtain ⟨_, h⟩ := h))) (FunD.bindsN (ps := P_widened) F_widened fun _ _ _ _ _ _ us hl => match us, hl with | [_, _, _], _ => rfl)
  have h_all_joined : Def G 4 "all_joined" 3 sp_all_joined := Def.of (st := s_all_joined) (m := 2) F_all_joined g_all_joined sc_all_joined (d_all_joined B h_joined h_unit) m_all_joined rfl rfl (fun ds Q X h => by repeat (first | (refine Or.elim h (fun h => ?_) (fun h => ?_)) | (obtain ⟨rfl, _⟩ := h; rfl) | (obtain ⟨rfl | rfl, _⟩ := h <;> rfl) | (obtain ⟨⟨_, _, rfl, _⟩, _⟩ := h; rfl) | (obtain ⟨_, h⟩ := h))) (FunD.bindsN (ps := P_all_joined) F_all_joined fun _ _ _ _ _ _ us hl => match us, hl with | [_, _, _], _ => rfl)
  have h_law_part : Def G 4 "_law_part" 4 sp_law_part := Def.of (st := s_law_part) (m := 4) F_law_part g_law_part sc_law_part (d_law_part B h_law_number h_law_some h_law_times) m_law_part rfl rfl (fun ds Q X h => by repeat (first | (refine Or.elim h (fun h => ?_) (fun h => ?_)) | (obtain ⟨rfl, _⟩ := h; rfl) | (obtain ⟨rfl | rfl, _⟩ := h <;> rfl) | (obtain ⟨⟨_, _, rfl, _⟩, _⟩ := h; rfl) | (obtain ⟨_, h⟩ := h))) (FunD.bindsN (ps := P_law_part) F_law_part fun _ _ _ _ _ _ us hl => match us, hl with | [_, _, _, _], _ => rfl)
  have h_taken_out : Def G 5 "taken_out" 3 sp_taken_out := Def.of (st := s_taken_out) (m := 7) F_taken_out g_taken_out sc_taken_out (d_taken_out B h_all_joined h_gathered h_need_order h_widened) m_taken_out rfl rfl (fun ds Q X h => by repeat (first | (refine Or.elim h (fun h => ?_) (fun h => ?_)) | (obtain ⟨rfl, _⟩ := h; rfl) | (obtain ⟨rfl | rfl, _⟩ := h <;> rfl) | (obtain ⟨⟨_, _, rfl, _⟩, _⟩ := h; rfl) | (obtain ⟨_, h⟩ := h))) (FunD.bindsN (ps := P_taken_out) F_taken_out fun _ _ _ _ _ _ us hl => match us, hl with | [_, _, _], _ => rfl)
  have h_law_sheet : Def G 5 "_law_sheet" 5 sp_law_sheet := Def.of (st := s_law_sheet) (m := 4) F_law_sheet g_law_sheet sc_law_sheet (d_law_sheet B h_law_dip h_law_part h_law_sizes) m_law_sheet rfl rfl (fun ds Q X h => by repeat (first | (refine Or.elim h (fun h => ?_) (fun h => ?_)) | (obtain ⟨rfl, _⟩ := h; rfl) | (obtain ⟨rfl | rfl, _⟩ := h <;> rfl) | (obtain ⟨⟨_, _, rfl, _⟩, _⟩ := h; rfl) | (obtain ⟨_, h⟩ := h))) (FunD.bindsN (ps := P_law_sheet) F_law_sheet fun _ _ _ _ _ _ us hl => match us, hl with | [_, _, _, _, _], _ => rfl)
  have c_law_same : Def G 0 "_law_same" 2 (sp_sameR 0) := Def.none (st := s_law_same) F_law_same g_law_same (FunD.bindsN (ps := P_law_same) F_law_same fun _ _ _ _ _ _ us hl => match us, hl with | [_, _], _ => rfl)
  have c0_law_same : Def G 1 "_law_same" 2 (sp_same 0) := Def.of (st := s_law_same) (m := 2) F_law_same g_law_same sc_law_same (d_law_same B  (sp_law_same := sp_sameR 0) (k0 := 0) (by decide) (by decide) c_law_same) (m_law_same 0) rfl rfl (fun ds Q X h => by repeat (first | (refine Or.elim h (fun h => ?_) (fun h => ?_)) | (obtain ⟨rfl, _⟩ := h; rfl) | (obtain ⟨rfl | rfl, _⟩ := h <;> rfl) | (obtain ⟨⟨_, _, rfl, _⟩, _⟩ := h; rfl) | (obtain ⟨_, h⟩ := h))) (FunD.bindsN (ps := P_law_same) F_law_same fun _ _ _ _ _ _ us hl => match us, hl with | [_, _], _ => rfl)
  have c1_law_same : Def G 2 "_law_same" 2 (sp_same 1) := Def.of (st := s_law_same) (m := 2) F_law_same g_law_same sc_law_same (d_law_same B  (sp_law_same := sp_sameR 1) (k0 := 1) (by decide) (by decide) c0_law_same) (m_law_same 1) rfl rfl (fun ds Q X h => by repeat (first | (refine Or.elim h (fun h => ?_) (fun h => ?_)) | (obtain ⟨rfl, _⟩ := h; rfl) | (obtain ⟨rfl | rfl, _⟩ := h <;> rfl) | (obtain ⟨⟨_, _, rfl, _⟩, _⟩ := h; rfl) | (obtain ⟨_, h⟩ := h))) (FunD.bindsN (ps := P_law_same) F_law_same fun _ _ _ _ _ _ us hl => match us, hl with | [_, _], _ => rfl)
  have c2_law_same : Def G 3 "_law_same" 2 (sp_same 2) := Def.of (st := s_law_same) (m := 2) F_law_same g_law_same sc_law_same (d_law_same B  (sp_law_same := sp_sameR 2) (k0 := 2) (by decide) (by decide) c1_law_same) (m_law_same 2) rfl rfl (fun ds Q X h => by repeat (first | (refine Or.elim h (fun h => ?_) (fun h => ?_)) | (obtain ⟨rfl, _⟩ := h; rfl) | (obtain ⟨rfl | rfl, _⟩ := h <;> rfl) | (obtain ⟨⟨_, _, rfl, _⟩, _⟩ := h; rfl) | (obtain ⟨_, h⟩ := h))) (FunD.bindsN (ps := P_law_same) F_law_same fun _ _ _ _ _ _ us hl => match us, hl with | [_, _], _ => rfl)
  have c3_law_same : Def G 4 "_law_same" 2 (sp_same 3) := Def.of (st := s_law_same) (m := 2) F_law_same g_law_same sc_law_same (d_law_same B  (sp_law_same := sp_sameR 3) (k0 := 3) (by decide) (by decide) c2_law_same) (m_law_same 3) rfl rfl (fun ds Q X h => by repeat (first | (refine Or.elim h (fun h => ?_) (fun h => ?_)) | (obtain ⟨rfl, _⟩ := h; rfl) | (obtain ⟨rfl | rfl, _⟩ := h <;> rfl) | (obtain ⟨⟨_, _, rfl, _⟩, _⟩ := h; rfl) | (obtain ⟨_, h⟩ := h))) (FunD.bindsN (ps := P_law_same) F_law_same fun _ _ _ _ _ _ us hl => match us, hl with | [_, _], _ => rfl)
  have h_law_same : Def G 5 "_law_same" 2 (sp_same 4) := Def.of (st := s_law_same) (m := 2) F_law_same g_law_same sc_law_same (d_law_same B  (sp_law_same := sp_sameR 4) (k0 := 4) (by decide) (by decide) c3_law_same) (m_law_same 4) rfl rfl (fun ds Q X h => by repeat (first | (refine Or.elim h (fun h => ?_) (fun h => ?_)) | (obtain ⟨rfl, _⟩ := h; rfl) | (obtain ⟨rfl | rfl, _⟩ := h <;> rfl) | (obtain ⟨⟨_, _, rfl, _⟩, _⟩ := h; rfl) | (obtain ⟨_, h⟩ := h))) (FunD.bindsN (ps := P_law_same) F_law_same fun _ _ _ _ _ _ us hl => match us, hl with | [_, _], _ => rfl)
  have hFT : Defs G 5 FT30 := ⟨fun nm n spec h => by
    unfold FT30 at h
    repeat' split at h
    all_goals first | (cases h; subst_vars; first | exact ⟨⟨_, by decide, h_taken_out⟩, g_taken_out⟩) | cases h⟩
  have h_law_call : Def G 6 "_law_call" 2 (sp_law_call FT30) := Def.of (st := s_law_call) (m := 0) F_law_call g_law_call sc_law_call (d_law_call B hFT) (m_law_call FT30) rfl rfl (fun ds Q X h => by repeat (first | (refine Or.elim h (fun h => ?_) (fun h => ?_)) | (obtain ⟨rfl, _⟩ := h; rfl) | (obtain ⟨rfl | rfl, _⟩ := h <;> rfl) | (obtain ⟨⟨_, _, rfl, _⟩, _⟩ := h; rfl) | (obtain ⟨_, h⟩ := h))) (FunD.bindsN (ps := P_law_call) F_law_call fun _ _ _ _ _ _ us hl => match us, hl with | [_, _], _ => rfl)
  have h_law_refused : Def G 7 "_law_refused" 2 (sp_law_refused FT30 cs30) := Def.of (st := s_law_refused) (m := 2) F_law_refused g_law_refused sc_law_refused (d_law_refused B h_law_call h_law_class hXC) (m_law_refused FT30 cs30) rfl rfl (fun ds Q X h => by repeat (first | (refine Or.elim h (fun h => ?_) (fun h => ?_)) | (obtain ⟨rfl, _⟩ := h; rfl) | (obtain ⟨rfl | rfl, _⟩ := h <;> rfl) | (obtain ⟨⟨_, _, rfl, _⟩, _⟩ := h; rfl) | (obtain ⟨_, h⟩ := h))) (FunD.bindsN (ps := P_law_refused) F_law_refused fun _ _ _ _ _ _ us hl => match us, hl with | [_, _], _ => rfl)
  exact Def.ok (G := G) (st := s_law) (m := 12) F_law sc_law (d_law B h_law_bent h_law_dip h_law_due h_law_is_order h_law_jar h_law_order h_law_refused h_law_same h_law_sheet h_law_word h_taken_out g_taken_out) m_law rfl
end LS.K30.E
open PySem PySem.W PySem.Calls PyProof.Rows
theorem PySem.Challenge.cw_sumorder_k30_names_taken_out_holds : PySem.Challenge.rw_sumorder_k30_names_taken_out.Holds := by
  w_on; o_law
  refine HandSHeadRun.head_any (r := (OpenLaw.row PySem.Challenge.rw_sumorder_k30_names_taken_out)) (q := view (OpenLaw.row PySem.Challenge.rw_sumorder_k30_names_taken_out).prog [64]) (H := LS.K30.E.hk) (ob := LS.K30.E.ob) (M := 8000) (loose := LS.K30.E.nm) (d := HandSHeadRun.topDef (OpenLaw.row PySem.Challenge.rw_sumorder_k30_names_taken_out).prog 64) (kwd := []) LS.K30.E.obE
    (by kernel_rfl) (fun s => by kernel_rfl) LS.K30.E.topRun (by kernel_rfl) (by kernel_rfl) (by kernel_rfl) (by rfl) (by first | assumption | decide +kernel) (by decide +kernel) ⟨rfl, rfl, rfl, rfl, rfl, by decide +kernel⟩ ?hw ?hc
  case hw => w_witness2
  case hc =>
    refine HD.walkW (l := PySem.Challenge.rw_sumorder_k30_names_taken_out) (n := 63) (k := 8) (x := "script") (CX := fun w => L2.CX PySem.Challenge.pw_sumorder_k30_names_taken_out w) rfl (by decide) (by kernel_rfl) ⟨rfl, by decide, by decide⟩ ?F (fun w H s e s' z => HD.cx_no H s e s' z)
    intro w mg f h Y N hm
    obtain ⟨K, X, c, cx⟩ := Y
    have hf : mg ("law" : PySem.Str) = some (.ref f) := by
      have e : (HandSHeadRun.topDef (OpenLaw.row PySem.Challenge.rw_sumorder_k30_names_taken_out).prog 64).name = ("law" : PySem.Str) := by kernel_rfl
      rw [← e]; exact hm
    obtain ⟨fd, hb, hF⟩ := LS.K30.E.facts (w := w) X N hf c cx
    exact ⟨K, fd, _, X, hb, fun H a ns hl hS => HD.law_sp hl hS, hF⟩
