import PyProof.Rows.All
import Wide.All
import OpenK.AllK
import Wide.FinOn
import HandS.ForMost
import HandS.ForExc
import HandS.TupAny
import HandS.Conv
import HandS.HeadHook1
import HandS.Words
import HandS.WordsExc
import HandS.Ends
import HandS.ExcOwn
import HandS.TupLe
import HandS.Wide
import HandS.Strs
import HandS.SetFor
import HandS.SortInts
import HandS.IsInst
import HandS.Zip
import HandS.Flow
import HandS.Style
import KE.GoesNew
import KE.GoesMore
import KE.KStateDown
import HandS.Defaults
import HandS.Head0
import HandS.Head1
import HandS.Head2
import HandS.HeadEnd
import HandS.HeadHook2
import HandS.HeadNt
import HandS.ExcValue
import HandS.Lambda
import HandS.HeadHook4
import HandS.ExcIs
import HandS.Text
import PyProof.ReprRoads
import PyProof.ReprBulk
import PyProof.Rows.RegStrFacts
import HandS.RaiseMore
import KE.GoesEnum
import HandS.TupMul
import KE.KItemsList
import KE.KDictZip
import HandS.ListItems
import KE.KTupSum
import HandS.ForDict
import HandS.Iter
import PyProof.AutoSeq1
import KE.DataMinMax
import PyProof.Rows.RowBridgeK
import KE.KDictSum
import KE.SortData
import KE.DataCmp
import KE.KDictCopyH
import HandS.DictTup
import PyProof.Transfer
import HandS.WordsDict
import HandS.More
import PyProof.WalkInts
import PySem.Challenge.RW_sumorder_k22_whole_words_beside_words
set_option Elab.async false
set_option linter.all false
set_option maxRecDepth 100000
set_option maxHeartbeats 0
set_option autoImplicit false
namespace LS.S22
open PySem PySem.W PySem.Calls PyProof.Rows
theorem hold_of (h : (OpenLaw.row PySem.Challenge.rw_sumorder_k22_whole_words_beside_words).wellSaid = true → (OpenLaw.row PySem.Challenge.rw_sumorder_k22_whole_words_beside_words).Holds) : PySem.Challenge.rw_sumorder_k22_whole_words_beside_words.Holds := by
  w_on; o_law
  exact h (by assumption)
end LS.S22
namespace HD
open PySem PyProof.Rows L2
def TupD (K : PySem.W.Frag) (H : Hp) (a : Addr) (xs : List V) : Prop :=
  (∃ o : Obj, H a = some (.frz o (.tup xs)) ∧ o.dict = none) ∨
    ∃ (o : Obj) (its : Array Value) (n : Nat), K.lookup a = some o ∧ o.cls = .type "tuple" ∧ o.data = .seq its n ∧ its.size ≤ sizeLine ∧ Vals xs its.toList ∧ o.dict = none
theorem TupD.sq {K : PySem.W.Frag} {H : Hp} {a : Addr} {xs : List V} (h : TupD K H a xs) : SqT K H a xs := by
  rcases h with ⟨o, h, _⟩ | ⟨o, its, n, h1, h2, h3, h4, h5, _⟩
  · exact .inl (.inr ⟨o, h⟩)
  · exact .inr ⟨o, its, n, h1, h2, h3, h4, h5⟩
theorem TupD.same {K : PySem.W.Frag} {H H' : Hp} {a : Addr} {xs : List V} (e : Same H H') (h : TupD K H a xs) : TupD K H' a xs := by
  rcases h with ⟨o, h, d⟩ | h
  · exact .inl ⟨o, e _ _ h, d⟩
  · exact .inr h
def newT (H : Hp) (xs : List V) (Q : VK) : Prop := ∀ (p : Addr) (o : Obj), H p = none → o.dict = none → Q (.ref p) (upd H p (.frz o (.tup xs)))
theorem laidT {X : Cx} {pins : List (Addr × Obj)} {σ : L2.St} {H : Hp} {s : Shared} {Q : VK} {xs : List V} {its : List Value} {tk : Nat} (I : Inv X pins σ H s) (r : Vals xs its) (hz : xs.length ≤ sizeLine) (q : newT H xs Q) :
    EP X pins σ Q (.ref s.heap.objs.size) { s with heap := s.heap.push { cls := .type "tuple", data := .seq its.toArray }, toks := tk } := by
  have hf : H s.heap.objs.size = none := I.hok.fresh (Nat.le_refl _)
  refine ⟨.ref s.heap.objs.size, _, I.laid (t' := tk) (fun b u e => Heap.get?_push_of_some _ e) (Nat.le_refl _) ?_, rfl, q _ { cls := .type "tuple", data := .seq its.toArray } hf rfl⟩
  exact ⟨Heap.get?_push_size _ rfl, hz, its, r, IsTup.new _ _⟩
section
variable {X : Cx}
def tTupF (t : TA) : TE := fun σ H Q => t σ H fun xs H1 => xs.length ≤ sizeLine ∧ newT H1 xs Q
theorem pe_tupF {x1} {es : List Expr} {t : TA} {pos : Pos} (h : PA X es t) : PE X (.Tuple es x1 pos) (tTupF t) := by
  refine ⟨fun pins s σ H Q I hq => ?_⟩
  refine wpAny_Tuple_spliced (thn (h.run pos pins s σ H _ I hq) fun us s1 ⟨xs, H1, I1, r, z, q⟩ => ⟨by rw [← r.length]; exact z, ?_⟩)
  exact laidT (tk := s1.toks) I1 r z q
def rCatF (K : PySem.W.Frag) : R2 := fun x y H Q => ∃ a b xs ys, x = .ref a ∧ y = .ref b ∧ SqT K H a xs ∧ SqT K H b ys ∧ xs.length + ys.length ≤ sizeLine ∧
  (xs = [] → Q (.ref b) H) ∧ (xs ≠ [] → ys = [] → Q (.ref a) H) ∧ (xs ≠ [] → ys ≠ [] → newT H (xs ++ ys) Q)
theorem op_catF : OpR X (binaryOp .Add) (rCatF X.K) := by
  intro pins s σ H x y v u Q I rx ry h
  obtain ⟨a, b, xs, ys, rfl, rfl, ha, hb, hz, q0, q1, q2⟩ := h
  cases rx
  cases ry
  obtain ⟨its, r1, p1, _⟩ := I.tuple ha
  obtain ⟨its2, r2, p2, _⟩ := I.tuple hb
  by_cases hx : xs = []
  · subst hx
    cases r1
    exact cat_tup0 p1 p2 ⟨.ref b, H, I, rfl, q0 rfl⟩
  · refine HT.cat_tup p1 p2 (fun z => hx (r1.nil_iff.mp z)) (fun z => ⟨.ref a, H, I, rfl, q1 hx (r2.nil_iff.mp z)⟩) (fun z => ?_) (by rw [← r1.length, ← r2.length]; exact hz)
    exact laidT (tk := s.toks) I (r1.append r2) (by rw [List.length_append]; exact hz) (q2 hx fun w => z (r2.nil_iff.mpr w))
def rSlF (K : PySem.W.Frag) : V → Option Int → Option Int → Hp → VK → Prop := fun x lo hi H Q => ∃ a xs, x = .ref a ∧ SqT K H a xs ∧
  (HT.sIx xs.length 0 lo = 0 ∧ HT.sIx xs.length xs.length hi = xs.length → Q (.ref a) H) ∧ (¬ (HT.sIx xs.length 0 lo = 0 ∧ HT.sIx xs.length xs.length hi = xs.length) → newT H (cutV xs lo hi) Q)
theorem sl_tupF : SlR X (rSlF X.K) := by
  intro pins s σ H x v vl vu lo hi sl Q I rx hs pl pu h
  obtain ⟨a, xs, rfl, hx, q1, q2⟩ := h
  cases rx
  obtain ⟨its, r, ht, hz⟩ := I.tuple hx
  have hlen : its.toArray.size = xs.length := by
    rw [List.size_toArray]
    exact r.length.symm
  refine ⟨"tuple", _, PyProof.Rows.slot_tuple_getitem.lookup, ht.typeIs, ?_⟩
  by_cases hw : HT.sIx xs.length 0 lo = 0 ∧ HT.sIx xs.length xs.length hi = xs.length
  · exact getItem_tuple_whole ht hs pl pu (by rw [hlen]; exact hw) ⟨.ref a, H, I, rfl, q1 hw⟩
  · refine HT.getItem_tuple_cut ht hs pl pu (by rw [hlen]; exact hw) ?_ (by rw [hlen]; exact hz)
    rw [hlen]
    exact laidT (tk := s.toks) I ((r.drop (HT.sIx xs.length 0 lo)).take (HT.sIx xs.length xs.length hi - HT.sIx xs.length 0 lo)) (Nat.le_trans (cutV_length xs lo hi) hz) (q2 hw)
theorem call_tupleF : CallR X (.type "tuple") (fun xs H Q => ∃ p ys, xs = [.ref p] ∧ ((SqL X.K H p ys ∧ newT H ys Q) ∨ (SqT X.K H p ys ∧ Q (.ref p) H))) := by
  intro pins s σ H xs us Q I r h
  obtain ⟨p, ys, rfl, h⟩ := h
  obtain ⟨u, rfl, rx⟩ := vals1 r
  cases rx
  rcases h with ⟨hq, q⟩ | ⟨hq, q⟩
  · obtain ⟨its, r', pl, hz⟩ := I.list hq
    have hlen := r'.length
    refine call_tuple_list pl.isList (fun h' kp => ?_) (by simp only [List.size_toArray] <;> omega)
    have I1 : Inv X pins σ H { s with heap := h' } := I.kept (t' := s.toks) kp
    exact laidT (tk := s.toks) I1 r' hz q
  · obtain ⟨its, r', pl, hz⟩ := I.tuple hq
    exact call_tuple_same pl ⟨.ref p, H, I, rfl, q⟩
end
end HD
namespace HD
open PySem L2
abbrev clsV (K : PySem.W.Frag) (x : Str) : Value := .ref (He.ga K x)
inductive D where
  | non | bl (b : Bool) | int (i : Int) | str (x : Str) | val (v : V)
  | lst (ds : List D) | tup (ds : List D) | fz (ds : List D) | tk (ds : List D)
  | exc (c : Str)
  | glo (x : Str)
  | dk (ks : List Key) (ds : List D)
  | dt (ks : List (List Int)) (ds : List D)
def ntS (n : Nat) : Str := Str.ofString "NoText#" ++ ⟨Array.replicate n 49⟩
def isNt (c : Str) : Bool := c.cps.toList.take 7 == (Str.ofString "NoText#").cps.toList
def xk (c : Str) : Str := if isNt c then "NoText" else c
theorem xk_no {c : Str} (h : isNt c = false) : xk c = c := by
  unfold xk
  rw [h]
  rfl
def XD (F : Hp) (c : Str) (d : Option Addr) : Prop := (isNt c = false ∧ d = none) ∨ ∃ (n : Nat) (dd : Addr) (fs : List (Str × V)), c = ntS n ∧ d = some dd ∧ F dd = some (.xd fs) ∧ fs.lookup ("at" : Str) = some (V.int (n : Int))
theorem XD.same {F F' : Hp} {c : Str} {d : Option Addr} (e : Same F F') (h : XD F c d) : XD F' c d := by
  rcases h with h | ⟨n, dd, fs, h1, h2, h3, h4⟩
  · exact .inl h
  · exact .inr ⟨n, dd, fs, h1, h2, e _ _ h3, h4⟩
def hT (ks : List Int) : Int := reduceHash (Builtin.Tuple.tupleHashOf (ks.map hashInt))
def dtO (a : Addr) (kbs : List (List Int × Addr × V)) : HO := .ext fun h => kbs.length ≤ sizeLine ∧ (a == sysModules) = false ∧ (kbs.map (·.1)).Nodup ∧ ∃ (us : List Value) (o : Obj) (es : Array DictEntry) (ep : Nat),
  Vals (kbs.map (·.2.2)) us ∧ h.get? a = some o ∧ o.ExactDict ∧ o.data = .dict es ep ∧ es.toList = (kbs.zip us).map fun x => ⟨hT x.1.1, .ref x.1.2.1, x.2⟩
mutual
def Rep (K : PySem.W.Frag) (F : Hp) : D → V → Prop
  | .non, v => v = .non
  | .bl b, v => v = .bl b
  | .int i, v => v = .int i
  | .str x, v => v = .str x
  | .val u, v => v = u
  | .lst ds, v => ∃ a xs, v = .ref a ∧ F a = some (.lst xs) ∧ Reps K F ds xs
  | .fz ds, v => ∃ a xs, v = .ref a ∧ SqL K F a xs ∧ Reps K F ds xs
  | .tup ds, v => ∃ a xs, v = .ref a ∧ TupD K F a xs ∧ Reps K F ds xs
  | .tk ds, v => ∃ a xs, v = .ref a ∧ SqT K F a xs ∧ Reps K F ds xs
  | .glo x, v => v = .ref (He.ga K x)
  | .exc c, v => ∃ a oe, v = .ref a ∧ F a = some (.frz oe (.own a)) ∧ oe.cls = clsV K (xk c) ∧ XD F c oe.dict ∧ ∃ vs, oe.data = .fields vs
  | .dk ks ds, v => ∃ a od vs, v = .ref a ∧ F a = some (.frz od (.dK vs)) ∧ vs.map (·.1) = ks ∧ Reps K F ds (vs.map (·.2))
  | .dt ks ds, v => ∃ a od kbs, v = .ref a ∧ F a = some (.frz od (dtO a kbs)) ∧ kbs.map (·.1) = ks ∧ (∀ x ∈ kbs, TupD K F x.2.1 (x.1.map V.int)) ∧ Reps K F ds (kbs.map (·.2.2))
def Reps (K : PySem.W.Frag) (F : Hp) : List D → List V → Prop
  | [], vs => vs = []
  | d :: ds, vs => ∃ v r, vs = v :: r ∧ Rep K F d v ∧ Reps K F ds r
end
theorem SqT.same {K : PySem.W.Frag} {F F' : Hp} {a : Addr} {xs : List V} (e : Same F F') (h : SqT K F a xs) : SqT K F' a xs := by
  rcases h with (h | ⟨o, h⟩) | h
  · exact .inl (.inl (e _ _ h))
  · exact .inl (.inr ⟨o, e _ _ h⟩)
  · exact .inr h
section
variable {K : PySem.W.Frag} {F F' : Hp}
mutual
theorem Rep.same (e : Same F F') : ∀ {d : D} {v : V}, Rep K F d v → Rep K F' d v
  | .non, _, h => h
  | .bl _, _, h => h
  | .int _, _, h => h
  | .str _, _, h => h
  | .val _, _, h => h
  | .lst _, _, h => by
    obtain ⟨a, xs, rfl, hs, hr⟩ := h
    exact ⟨a, xs, rfl, e _ _ hs, Reps.same e hr⟩
  | .fz _, _, h => by
    obtain ⟨a, xs, rfl, hs, hr⟩ := h
    exact ⟨a, xs, rfl, e.seq hs, Reps.same e hr⟩
  | .tup _, _, h => by
    obtain ⟨a, xs, rfl, hs, hr⟩ := h
    exact ⟨a, xs, rfl, TupD.same e hs, Reps.same e hr⟩
  | .tk _, _, h => by
    obtain ⟨a, xs, rfl, hs, hr⟩ := h
    exact ⟨a, xs, rfl, SqT.same e hs, Reps.same e hr⟩
  | .glo _, _, h => h
  | .exc _, _, h => by
    obtain ⟨a, oe, rfl, hs, h1, h2, hr⟩ := h
    exact ⟨a, oe, rfl, e _ _ hs, h1, h2.same e, hr⟩
  | .dk _ _, _, h => by
    obtain ⟨a, od, vs, rfl, hs, hk, hr⟩ := h
    exact ⟨a, od, vs, rfl, e _ _ hs, hk, Reps.same e hr⟩
  | .dt _ _, _, h => by
    obtain ⟨a, od, vs, rfl, hs, hk, ht, hr⟩ := h
    exact ⟨a, od, vs, rfl, e _ _ hs, hk, fun x hx => TupD.same e (ht x hx), Reps.same e hr⟩
theorem Reps.same (e : Same F F') : ∀ {ds : List D} {vs : List V}, Reps K F ds vs → Reps K F' ds vs
  | [], _, h => h
  | _ :: _, _, h => by
    obtain ⟨v, r, rfl, h1, h2⟩ := h
    exact ⟨v, r, rfl, Rep.same e h1, Reps.same e h2⟩
end
theorem Reps.nil : Reps K F [] [] := rfl
theorem Reps.cons {d : D} {v : V} {ds : List D} {vs : List V} (h : Rep K F d v) (t : Reps K F ds vs) : Reps K F (d :: ds) (v :: vs) := ⟨v, vs, rfl, h, t⟩
theorem Reps.length : ∀ {ds : List D} {vs : List V}, Reps K F ds vs → ds.length = vs.length
  | [], _, h => by
    have e : _ = [] := h
    rw [e]
    rfl
  | _ :: ds, _, h => by
    obtain ⟨v, r, rfl, _, h2⟩ := h
    rw [List.length_cons, List.length_cons, Reps.length h2]
theorem Reps.get : ∀ {ds : List D} {vs : List V} {i : Nat} {d : D}, Reps K F ds vs → ds[i]? = some d → ∃ v, vs[i]? = some v ∧ Rep K F d v
  | [], _, _, _, _, e => by simp at e
  | _ :: ds, _, 0, _, h, e => by
    obtain ⟨v, r, rfl, h1, _⟩ := h
    have e' := Option.some.inj e
    subst e'
    exact ⟨v, rfl, h1⟩
  | _ :: ds, _, i + 1, _, h, e => by
    obtain ⟨v, r, rfl, _, h2⟩ := h
    exact Reps.get (i := i) h2 e
theorem Reps.of_get : ∀ {ds : List D} {vs : List V}, ds.length = vs.length → (∀ (i : Nat) d v, ds[i]? = some d → vs[i]? = some v → Rep K F d v) → Reps K F ds vs
  | [], [], _, _ => rfl
  | [], _ :: _, e, _ => by simp at e
  | _ :: _, [], e, _ => by simp at e
  | d :: ds, v :: vs, e, h => ⟨v, vs, rfl, h 0 d v rfl rfl, Reps.of_get (by simpa using e) fun i d' v' h1 h2 => h (i + 1) d' v' h1 h2⟩
theorem Reps.append : ∀ {ds es : List D} {vs us : List V}, Reps K F ds vs → Reps K F es us → Reps K F (ds ++ es) (vs ++ us)
  | [], _, _, _, h, g => by
    have e : _ = [] := h
    rw [e]
    exact g
  | _ :: _, _, _, _, h, g => by
    obtain ⟨v, r, rfl, h1, h2⟩ := h
    exact ⟨v, _, rfl, h1, Reps.append h2 g⟩
theorem Reps.one {d : D} {v : V} (h : Rep K F d v) : Reps K F [d] [v] := .cons h .nil
theorem Reps.take {ds : List D} {vs : List V} (h : Reps K F ds vs) (n : Nat) : Reps K F (ds.take n) (vs.take n) := by
  refine Reps.of_get (by rw [List.length_take, List.length_take, h.length]) fun i d v h1 h2 => ?_
  rw [List.getElem?_take] at h1 h2
  split at h1
  · rename_i hi
    rw [if_pos hi] at h2
    obtain ⟨v', e, r⟩ := h.get h1
    rw [h2] at e
    cases e
    exact r
  · cases h1
theorem Reps.drop {ds : List D} {vs : List V} (h : Reps K F ds vs) (n : Nat) : Reps K F (ds.drop n) (vs.drop n) := by
  refine Reps.of_get (by rw [List.length_drop, List.length_drop, h.length]) fun i d v h1 h2 => ?_
  rw [List.getElem?_drop] at h1 h2
  obtain ⟨v', e, r⟩ := h.get h1
  rw [h2] at e
  cases e
  exact r
theorem Reps.set {ds : List D} {vs : List V} (h : Reps K F ds vs) (n : Nat) {d : D} {v : V} (hd : Rep K F d v) : Reps K F (ds.set n d) (vs.set n v) := by
  refine Reps.of_get (by rw [List.length_set, List.length_set, h.length]) fun i d' v' h1 h2 => ?_
  rw [List.getElem?_set] at h1 h2
  split at h1
  · rename_i hi
    rw [if_pos hi] at h2
    split at h1
    · split at h2
      · cases h1
        cases h2
        exact hd
      · cases h2
    · cases h1
  · rename_i hi
    rw [if_neg hi] at h2
    obtain ⟨w, e, r⟩ := h.get h1
    rw [h2] at e
    cases e
    exact r
theorem Reps.eraseIdx : ∀ {ds : List D} {vs : List V} (n : Nat), Reps K F ds vs → Reps K F (ds.eraseIdx n) (vs.eraseIdx n)
  | [], _, _, h => by
    have e : _ = [] := h
    rw [e]
    exact rfl
  | _ :: _, _, 0, h => by
    obtain ⟨v, r, rfl, _, h2⟩ := h
    exact h2
  | _ :: _, _, n + 1, h => by
    obtain ⟨v, r, rfl, h1, h2⟩ := h
    exact ⟨v, _, rfl, h1, Reps.eraseIdx n h2⟩
theorem Reps.ints : ∀ {ns : List Int} {vs : List V}, Reps K F (ns.map D.int) vs → vs = ns.map V.int
  | [], _, h => h
  | n :: ns, _, h => by
    obtain ⟨v, r, rfl, h1, h2⟩ := h
    have e : v = .int n := h1
    rw [e, Reps.ints (ns := ns) h2]
    rfl
theorem Reps.of_ints : ∀ (ns : List Int), Reps K F (ns.map D.int) (ns.map V.int)
  | [] => rfl
  | n :: ns => ⟨_, _, rfl, rfl, Reps.of_ints ns⟩
theorem Reps.bls : ∀ {bs : List Bool} {vs : List V}, Reps K F (bs.map D.bl) vs → vs = bs.map V.bl
  | [], _, h => h
  | n :: ns, _, h => by
    obtain ⟨v, r, rfl, h1, h2⟩ := h
    have e : v = .bl n := h1
    rw [e, Reps.bls (bs := ns) h2]
    rfl
end
inductive OC where
  | lst (ds : List D)
  | dk (kvs : List (Key × D))
  | dt (kvs : List (List Int × D))
  | ins (c : Str) (dx : Addr) (fs : List (Str × D))
  | own (x : Addr)
  | lkK (od : Obj) (vs : List (Key × V)) (kvs : List (Key × D))
  | lkT (od : Obj) (kbs : List (List Int × Addr × V)) (kvs : List (List Int × D))
def OC.ok (K : PySem.W.Frag) (F : Hp) (a : Addr) : OC → HO → Prop
  | .lst ds, o => ∃ vs, o = .lst vs ∧ Reps K F ds vs
  | .dk kvs, o => ∃ vs : List (Key × V), o = .dK vs ∧ vs.map (·.1) = kvs.map (·.1) ∧ Reps K F (kvs.map (·.2)) (vs.map (·.2))
  | .dt kvs, o => ∃ kbs : List (List Int × Addr × V), o = dtO a kbs ∧ kbs.map (·.1) = kvs.map (·.1) ∧ (∀ x ∈ kbs, TupD K F x.2.1 (x.1.map V.int)) ∧ Reps K F (kvs.map (·.2)) (kbs.map (·.2.2))
  | .ins c dx fs, o => ∃ vs : List (Str × V), o = .ins (He.ga K c) dx vs ∧ vs.map (·.1) = fs.map (·.1) ∧ Reps K F (fs.map (·.2)) (vs.map (·.2))
  | .own x, o => o = .own x
  | .lkK od vs kvs, o => o = .frz od (.dK vs) ∧ vs.map (·.1) = kvs.map (·.1) ∧ Reps K F (kvs.map (·.2)) (vs.map (·.2))
  | .lkT od kbs kvs, o => o = .frz od (dtO a kbs) ∧ kbs.map (·.1) = kvs.map (·.1) ∧ (∀ x ∈ kbs, TupD K F x.2.1 (x.1.map V.int)) ∧ Reps K F (kvs.map (·.2)) (kbs.map (·.2.2))
theorem OC.ok.same {K : PySem.W.Frag} {F F' : Hp} {a : Addr} (e : Same F F') : ∀ {c : OC} {o : HO}, OC.ok K F a c o → OC.ok K F' a c o
  | .lst _, _, ⟨vs, h1, h2⟩ => ⟨vs, h1, h2.same e⟩
  | .dk _, _, ⟨vs, h1, h2, h3⟩ => ⟨vs, h1, h2, h3.same e⟩
  | .dt _, _, ⟨vs, h1, h2, h3, h4⟩ => ⟨vs, h1, h2, fun x hx => TupD.same e (h3 x hx), h4.same e⟩
  | .ins _ _ _, _, ⟨vs, h1, h2, h3⟩ => ⟨vs, h1, h2, h3.same e⟩
  | .own _, _, h => h
  | .lkK _ _ _, _, ⟨h1, h2, h3⟩ => ⟨h1, h2, h3.same e⟩
  | .lkT _ _ _, _, ⟨h1, h2, h3, h4⟩ => ⟨h1, h2, fun x hx => TupD.same e (h3 x hx), h4.same e⟩
def Loose (o : HO) : Prop := (∀ xs, o ≠ .tup xs) ∧ (∀ od xs, o ≠ .frz od (.tup xs)) ∧ ∀ fs, o ≠ .xd fs
theorem OC.ok.loose {K : PySem.W.Frag} {F : Hp} {a : Addr} : ∀ {c : OC} {o : HO}, OC.ok K F a c o → Loose o
  | .lst _, _, ⟨vs, h1, _⟩ => by subst h1; exact ⟨fun _ z => (nomatch z), fun _ _ z => (nomatch z), fun _ z => (nomatch z)⟩
  | .dk _, _, ⟨vs, h1, _⟩ => by subst h1; exact ⟨fun _ z => (nomatch z), fun _ _ z => (nomatch z), fun _ z => (nomatch z)⟩
  | .dt _, _, ⟨vs, h1, _⟩ => by subst h1; exact ⟨fun _ z => (nomatch z), fun _ _ z => (nomatch z), fun _ z => (nomatch z)⟩
  | .ins _ _ _, _, ⟨vs, h1, _⟩ => by subst h1; exact ⟨fun _ z => (nomatch z), fun _ _ z => (nomatch z), fun _ z => (nomatch z)⟩
  | .own _, _, h => by
    have e : _ = HO.own _ := h
    subst e
    exact ⟨fun _ z => (nomatch z), fun _ _ z => (nomatch z), fun _ z => (nomatch z)⟩
  | .lkK _ _ _, _, ⟨h1, _⟩ => by subst h1; exact ⟨fun _ z => (nomatch z), fun _ _ z => (nomatch z), fun _ z => (nomatch z)⟩
  | .lkT _ _ _, _, ⟨h1, _⟩ => by subst h1; exact ⟨fun _ z => (nomatch z), fun _ _ z => (nomatch z), fun _ z => (nomatch z)⟩
inductive Sl where
  | un
  | ext (d : D)
  | lst (a : Addr) (ds : List D)
  | al (i : Nat) (a : Addr)
  | reg (d : D) (cs : List (Addr × OC))
  | ar (i : Nat) (b : Addr)
def Sl.owned : Sl → List Addr
  | .lst a _ => [a]
  | .reg _ cs => cs.map (·.1)
  | _ => []
def cellOf : List (Addr × OC) → Addr → Option OC
  | [], _ => none
  | p :: r, b => if p.1 = b then some p.2 else cellOf r b
def SlOk (K : PySem.W.Frag) (F H : Hp) (v : V) : Sl → Prop
  | .un => True
  | .ext d => Rep K F d v
  | .lst a ds => v = .ref a ∧ F a = none ∧ ∃ vs, H a = some (.lst vs) ∧ Reps K F ds vs
  | .al _ a => v = .ref a
  | .ar _ b => v = .ref b
  | .reg d cs => Rep K F d v ∧ (cs.map (·.1)).Nodup ∧ ∀ p ∈ cs, F p.1 = none ∧ ∃ o, H p.1 = some o ∧ OC.ok K F p.1 p.2 o
theorem SlOk.ndo {K : PySem.W.Frag} {F H : Hp} {v : V} : ∀ {sl : Sl}, SlOk K F H v sl → sl.owned.Nodup
  | .un, _ => List.nodup_nil
  | .ext _, _ => List.nodup_nil
  | .al _ _, _ => List.nodup_nil
  | .lst _ _, _ => List.pairwise_singleton _ _
  | .ar _ _, _ => List.nodup_nil
  | .reg _ _, h => h.2.1
structure Ent where
  F0 : Hp
  H0 : Hp
  A0 : List Addr
abbrev Env' := List Sl
abbrev Tmp := List (V × Sl)
def ownedE (env : Env') : List Addr := env.flatMap Sl.owned
def ownedT (T : Tmp) : List Addr := T.flatMap fun p => p.2.owned
structure Holds (K : PySem.W.Frag) (e : Ent) (env : Env') (T : Tmp) (F : Hp) (σ : St) (H : Hp) : Prop where
  fh : Same F H
  len : env.length = σ.length
  slots : ∀ (i : Nat) sl, env[i]? = some sl → sl = .un ∨ ∃ v, σ[i]? = some (some v) ∧ SlOk K F H v sl
  temps : ∀ p ∈ T, SlOk K F H p.1 p.2
  nd : (ownedE env ++ ownedT T).Nodup
  s1 : Same e.F0 F
  s2 : ∀ a o, e.H0 a = some o → a ∉ e.A0 → H a = some o ∧ (e.F0 a = none → F a = none)
  s3 : ∀ a ∈ ownedE env ++ ownedT T, a ∈ e.A0 ∨ e.H0 a = none
structure Grow (F H F1 H1 : Hp) : Prop where
  ff : Same F F1
  hh : Same H H1
  fh : Same F1 H1
  new : ∀ a, F1 a ≠ none → F a ≠ none ∨ H a = none
theorem Grow.refl {F H : Hp} (h : Same F H) : Grow F H F H := ⟨Same.refl _, Same.refl _, h, fun _ z => .inl z⟩
theorem Grow.frozen {F H : Hp} {p : Addr} {o : HO} (fh : Same F H) (n : H p = none) : Grow F H (upd F p o) (upd H p o) where
  ff := fun b x q => by
    rw [upd_ne (ne_of_none (fh _ _ q) n)]
    exact q
  hh := fun b x q => by
    rw [upd_ne (ne_of_none q n)]
    exact q
  fh := fun b x q => by
    by_cases e : b = p
    · subst e
      rw [upd_same] at q ⊢
      exact q
    · rw [upd_ne e] at q ⊢
      exact fh _ _ q
  new := fun a z => by
    by_cases e : a = p
    · subst e
      exact .inr n
    · rw [upd_ne e] at z
      exact .inl z
theorem Grow.loose {F H : Hp} {p : Addr} {o : HO} (fh : Same F H) (n : H p = none) : Grow F H F (upd H p o) where
  ff := Same.refl _
  hh := fun b x q => by
    rw [upd_ne (ne_of_none q n)]
    exact q
  fh := fun b x q => by
    rw [upd_ne (ne_of_none (fh _ _ q) n)]
    exact fh _ _ q
  new := fun a z => .inl z
theorem SlOk.grow {K : PySem.W.Frag} {F H F1 H1 : Hp} {v : V} (g : Grow F H F1 H1) : ∀ {sl : Sl}, SlOk K F H v sl → SlOk K F1 H1 v sl
  | .un, _ => trivial
  | .ext d, h => Rep.same g.ff h
  | .al _ _, h => h
  | .lst a ds, h => by
    obtain ⟨rfl, n, vs, hv, hr⟩ := h
    refine ⟨rfl, ?_, vs, g.hh _ _ hv, hr.same g.ff⟩
    cases q : F1 a with
    | none => rfl
    | some o =>
      rcases g.new a (by rw [q]; simp) with z | z
      · exact absurd n z
      · rw [hv] at z
        cases z
  | .ar _ _, h => h
  | .reg d cs, h => by
    obtain ⟨rd, nd, hc⟩ := h
    refine ⟨Rep.same g.ff rd, nd, fun p hp => ?_⟩
    obtain ⟨n, o, ho, ok⟩ := hc p hp
    refine ⟨?_, o, g.hh _ _ ho, ok.same g.ff⟩
    cases q : F1 p.1 with
    | none => rfl
    | some o' =>
      rcases g.new p.1 (by rw [q]; simp) with z | z
      · exact absurd n z
      · rw [ho] at z
        cases z
section
variable {K : PySem.W.Frag} {e : Ent} {env : Env'} {T : Tmp} {F F1 : Hp} {σ : St} {H H1 : Hp}
theorem Holds.ownedL (h : Holds K e env T F σ H) : ∀ a ∈ ownedE env ++ ownedT T, F a = none ∧ ∃ o, H a = some o ∧ Loose o := fun a ha => by
  have key : ∀ v (sl : Sl), SlOk K F H v sl → a ∈ sl.owned → F a = none ∧ ∃ o, H a = some o ∧ Loose o := fun v sl ok hm => by
    cases sl with
    | un => cases hm
    | ext d => cases hm
    | al i b => cases hm
    | lst b ds =>
      obtain ⟨_, n, vs, hv, _⟩ := ok
      have z : a = b := List.mem_singleton.mp hm
      subst z
      exact ⟨n, _, hv, ⟨fun _ z => (nomatch z), fun _ _ z => (nomatch z), fun _ z => (nomatch z)⟩⟩
    | ar i b => cases hm
    | reg b cs =>
      obtain ⟨_, _, hc⟩ := ok
      obtain ⟨p, hp, rfl⟩ := List.mem_map.mp hm
      obtain ⟨n, o, ho, ok⟩ := hc p hp
      exact ⟨n, o, ho, ok.loose⟩
  rcases List.mem_append.mp ha with ha | ha
  · obtain ⟨sl, hs, hm⟩ := List.mem_flatMap.mp ha
    obtain ⟨i, hi, rfl⟩ := List.getElem_of_mem hs
    rcases h.slots i _ (List.getElem?_eq_getElem hi) with z | ⟨v, _, ok⟩
    · rw [z] at hm
      cases hm
    · exact key v _ ok hm
  · obtain ⟨p, hp, hm⟩ := List.mem_flatMap.mp ha
    exact key p.1 p.2 (h.temps p hp) hm
theorem Holds.ownedH (h : Holds K e env T F σ H) : ∀ a ∈ ownedE env ++ ownedT T, F a = none ∧ ∃ o, H a = some o := fun a ha => by
  obtain ⟨n, o, ho, _⟩ := h.ownedL a ha
  exact ⟨n, o, ho⟩
theorem Holds.grow (h : Holds K e env T F σ H) (g : Grow F H F1 H1) : Holds K e env T F1 σ H1 where
  fh := g.fh
  len := h.len
  slots := fun i sl q => by
    rcases h.slots i sl q with z | ⟨v, hv, ok⟩
    · exact .inl z
    · exact .inr ⟨v, hv, ok.grow g⟩
  temps := fun p hp => (h.temps p hp).grow g
  nd := h.nd
  s1 := h.s1.trans g.ff
  s2 := fun a o q n => by
    obtain ⟨q1, q2⟩ := h.s2 a o q n
    refine ⟨g.hh _ _ q1, fun z => ?_⟩
    cases r : F1 a with
    | none => rfl
    | some x =>
      rcases g.new a (by rw [r]; simp) with y | y
      · exact absurd (q2 z) y
      · rw [q1] at y
        cases y
  s3 := h.s3
theorem Holds.push {v : V} {sl : Sl} (h : Holds K e env T F σ H) (g : Grow F H F1 H1) (ok : SlOk K F1 H1 v sl) (own : ∀ a ∈ sl.owned, H a = none) : Holds K e env ((v, sl) :: T) F1 σ H1 := by
  have h1 := h.grow g
  have old := h.ownedH
  have ndo : sl.owned.Nodup := ok.ndo
  have dis : ∀ a ∈ sl.owned, a ∉ ownedE env ++ ownedT T := fun a ha hb => by
    obtain ⟨_, vs, q⟩ := old a hb
    rw [own a ha] at q
    cases q
  refine ⟨h1.fh, h1.len, h1.slots, fun p hp => ?_, ?_, h1.s1, h1.s2, fun a ha => ?_⟩
  · rcases List.mem_cons.mp hp with rfl | hp
    · exact ok
    · exact h1.temps p hp
  · show (ownedE env ++ (sl.owned ++ ownedT T)).Nodup
    have z := h.nd
    rw [List.nodup_append] at z ⊢
    obtain ⟨z1, z2, z3⟩ := z
    refine ⟨z1, ?_, fun a ha b hb => ?_⟩
    · rw [List.nodup_append]
      exact ⟨ndo, z2, fun a ha b hb e => dis a ha (by rw [e]; exact List.mem_append_right _ hb)⟩
    · rcases List.mem_append.mp hb with hb | hb
      · exact fun e => dis b hb (by rw [← e]; exact List.mem_append_left _ ha)
      · exact z3 a ha b hb
  · have ha' : a ∈ ownedE env ++ (sl.owned ++ ownedT T) := ha
    rcases List.mem_append.mp ha' with hb | hb
    · exact h.s3 a (List.mem_append_left _ hb)
    · rcases List.mem_append.mp hb with hb | hb
      · have hn := own a hb
        cases q : e.H0 a with
        | none => exact .inr rfl
        | some o =>
          by_cases hA : a ∈ e.A0
          · exact .inl hA
          · rw [(h.s2 a o q hA).1] at hn
            cases hn
      · exact h.s3 a (List.mem_append_right _ hb)
theorem Holds.pushE {v : V} {d : D} (h : Holds K e env T F σ H) (ok : Rep K F d v) : Holds K e env ((v, .ext d) :: T) F σ H :=
  h.push (Grow.refl h.fh) ok fun a ha => by cases ha
theorem Holds.pushA {i : Nat} {a : Addr} (h : Holds K e env T F σ H) : Holds K e env ((.ref a, .al i a) :: T) F σ H :=
  h.push (Grow.refl h.fh) rfl fun a ha => by cases ha
theorem ownedT_sub {T T' : Tmp} (s : T'.Sublist T) : (ownedT T').Sublist (ownedT T) := by
  unfold ownedT
  induction s with
  | slnil => exact .slnil
  | cons a _ ih => exact ih.trans (List.sublist_append_right _ _)
  | cons_cons a _ ih => exact (List.Sublist.refl _).append ih
theorem Holds.sub {T' : Tmp} (h : Holds K e env T F σ H) (s : T'.Sublist T) : Holds K e env T' F σ H := by
  have so : (ownedT T').Sublist (ownedT T) := ownedT_sub s
  have sa : (ownedE env ++ ownedT T').Sublist (ownedE env ++ ownedT T) := (List.Sublist.refl _).append so
  exact ⟨h.fh, h.len, h.slots, fun p hp => h.temps p (s.subset hp), h.nd.sublist sa, h.s1, h.s2, fun a ha => h.s3 a (sa.subset ha)⟩
theorem Holds.pop {p : V × Sl} (h : Holds K e env (p :: T) F σ H) : Holds K e env T F σ H := h.sub (List.sublist_cons_self _ _)
theorem splitE {env : Env'} {i : Nat} {sl : Sl} (h : env[i]? = some sl) : ∃ A B, ownedE env = A ++ (sl.owned ++ B) ∧ ∀ sl', ownedE (env.set i sl') = A ++ (Sl.owned sl' ++ B) := by
  obtain ⟨hi, rfl⟩ := List.getElem?_eq_some_iff.mp h
  refine ⟨ownedE (env.take i), ownedE (env.drop (i + 1)), ?_, fun sl' => ?_⟩
  · have z : env = env.take i ++ env[i] :: env.drop (i + 1) := by
      rw [List.getElem_cons_drop, List.take_append_drop]
    have y := congrArg ownedE z
    rw [y]
    unfold ownedE
    rw [List.flatMap_append, List.flatMap_cons]
  · rw [List.set_eq_take_append_cons_drop, if_pos hi]
    unfold ownedE
    rw [List.flatMap_append, List.flatMap_cons]
theorem owned_two {env : Env'} {X : List Addr} {i j : Nat} {s1 s2 : Sl} {a : Addr} (nd : (ownedE env ++ X).Nodup) (h1 : env[i]? = some s1) (h2 : env[j]? = some s2) (m1 : a ∈ s1.owned) (m2 : a ∈ s2.owned) : i = j := by
  obtain ⟨A, B, e1, e2⟩ := splitE h1
  rcases Nat.lt_trichotomy i j with h | h | h
  · exfalso
    obtain ⟨hi, rfl⟩ := List.getElem?_eq_some_iff.mp h1
    obtain ⟨hj, rfl⟩ := List.getElem?_eq_some_iff.mp h2
    have z : env = env.take j ++ env[j] :: env.drop (j + 1) := by rw [List.getElem_cons_drop, List.take_append_drop]
    have y : ownedE env = ownedE (env.take j) ++ (env[j].owned ++ ownedE (env.drop (j + 1))) := by
      have y := congrArg ownedE z
      rw [y]
      unfold ownedE
      rw [List.flatMap_append, List.flatMap_cons]
    rw [y, List.append_assoc] at nd
    have q := (List.nodup_append.mp nd).2.2
    refine q a (List.mem_flatMap.mpr ⟨env[i], ?_, m1⟩) a (List.mem_append_left _ (List.mem_append_left _ m2)) rfl
    exact List.mem_iff_getElem?.mpr ⟨i, by rw [List.getElem?_take_of_lt h]; exact List.getElem?_eq_getElem hi⟩
  · exact h
  · exfalso
    obtain ⟨hi, rfl⟩ := List.getElem?_eq_some_iff.mp h1
    obtain ⟨hj, rfl⟩ := List.getElem?_eq_some_iff.mp h2
    have z : env = env.take i ++ env[i] :: env.drop (i + 1) := by rw [List.getElem_cons_drop, List.take_append_drop]
    have y : ownedE env = ownedE (env.take i) ++ (env[i].owned ++ ownedE (env.drop (i + 1))) := by
      have y := congrArg ownedE z
      rw [y]
      unfold ownedE
      rw [List.flatMap_append, List.flatMap_cons]
    rw [y, List.append_assoc] at nd
    have q := (List.nodup_append.mp nd).2.2
    refine q a (List.mem_flatMap.mpr ⟨env[j], ?_, m2⟩) a (List.mem_append_left _ (List.mem_append_left _ m1)) rfl
    exact List.mem_iff_getElem?.mpr ⟨j, by rw [List.getElem?_take_of_lt h]; exact List.getElem?_eq_getElem hj⟩
theorem mem_ownedE {env : Env'} {i : Nat} {sl : Sl} {a : Addr} (h : env[i]? = some sl) (m : a ∈ sl.owned) : a ∈ ownedE env :=
  List.mem_flatMap.mpr ⟨sl, List.mem_iff_getElem?.mpr ⟨i, h⟩, m⟩
theorem SlOk.write {v : V} {a : Addr} {o : HO} : ∀ {sl : Sl}, a ∉ sl.owned → SlOk K F H v sl → SlOk K F (upd H a o) v sl
  | .un, _, _ => trivial
  | .ext _, _, h => h
  | .al _ _, _, h => h
  | .lst b ds, n, h => by
    obtain ⟨rfl, q, vs, hv, hr⟩ := h
    refine ⟨rfl, q, vs, ?_, hr⟩
    have nb : b ≠ a := fun z => n (by rw [z]; exact List.mem_singleton.mpr rfl)
    rw [upd_ne nb]
    exact hv
  | .ar _ _, _, h => h
  | .reg b cs, n, h => by
    obtain ⟨rd, nd, hc⟩ := h
    refine ⟨rd, nd, fun p hp => ?_⟩
    obtain ⟨q, o', ho, ok⟩ := hc p hp
    have nb : p.1 ≠ a := fun z => n (by rw [← z]; exact List.mem_map.mpr ⟨p, hp, rfl⟩)
    exact ⟨q, o', by rw [upd_ne nb]; exact ho, ok⟩
theorem Holds.write {i : Nat} {a : Addr} {ds ds' : List D} {vs' : List V} (h : Holds K e env T F σ H) (hi : env[i]? = some (.lst a ds)) (hr : Reps K F ds' vs') : Holds K e (env.set i (.lst a ds')) T F σ (upd H a (.lst vs')) := by
  obtain ⟨A, B, e1, e2⟩ := splitE hi
  have own : ownedE (env.set i (.lst a ds')) = ownedE env := by
    rw [e1, e2]
    rfl
  have ma : a ∈ ownedE env := mem_ownedE hi (List.mem_singleton.mpr rfl)
  have mm : a ∈ ownedE env ++ ownedT T := List.mem_append_left _ ma
  obtain ⟨Fn, _⟩ := h.ownedH a mm
  refine ⟨fun b o q => ?_, by rw [List.length_set]; exact h.len, fun j sl q => ?_, fun p hp => (h.temps p hp).write fun m => ?_, by rw [own]; exact h.nd, h.s1, fun b o q n => ?_, by rw [own]; exact h.s3⟩
  · have nb : b ≠ a := fun z => by
      rw [z, Fn] at q
      cases q
    rw [upd_ne nb]
    exact h.fh b o q
  · rw [List.getElem?_set] at q
    split at q
    · rename_i ij
      subst ij
      split at q
      · cases q
        right
        rcases h.slots i _ hi with z | ⟨v, hv, rfl, q1, _⟩
        · cases z
        · exact ⟨_, hv, rfl, q1, vs', upd_same, hr⟩
      · cases q
    · rename_i ij
      rcases h.slots j sl q with z | ⟨v, hv, ok⟩
      · exact .inl z
      · refine .inr ⟨v, hv, ok.write fun m => ij (owned_two h.nd hi q (List.mem_singleton.mpr rfl) m)⟩
  · exact (List.nodup_append.mp h.nd).2.2 a ma a (List.mem_flatMap.mpr ⟨p, hp, m⟩) rfl
  · have nb : b ≠ a := fun z => by
      subst z
      rcases h.s3 b mm with y | y
      · exact n y
      · rw [q] at y
        cases y
    rw [upd_ne nb]
    exact h.s2 b o q n
theorem Holds.writeT {v : V} {a : Addr} {ds ds' : List D} {vs' : List V} (h : Holds K e env ((v, .lst a ds) :: T) F σ H) (hr : Reps K F ds' vs') : Holds K e env ((v, .lst a ds') :: T) F σ (upd H a (.lst vs')) := by
  have mT : a ∈ ownedT ((v, Sl.lst a ds) :: T) := List.mem_append_left _ (List.mem_singleton.mpr rfl)
  have mm : a ∈ ownedE env ++ ownedT ((v, Sl.lst a ds) :: T) := List.mem_append_right _ mT
  obtain ⟨Fn, _⟩ := h.ownedH a mm
  have z3 := (List.nodup_append.mp h.nd).2.2
  have zT : ([a] ++ ownedT T).Nodup := (List.nodup_append.mp h.nd).2.1
  refine ⟨fun b o q => ?_, h.len, fun j sl q => ?_, fun p hp => ?_, h.nd, h.s1, fun b o q n => ?_, h.s3⟩
  · have nb : b ≠ a := fun z => by
      rw [z, Fn] at q
      cases q
    rw [upd_ne nb]
    exact h.fh b o q
  · rcases h.slots j sl q with z | ⟨w, hw, ok⟩
    · exact .inl z
    · exact .inr ⟨w, hw, ok.write fun m => z3 a (mem_ownedE q m) a mT rfl⟩
  · rcases List.mem_cons.mp hp with rfl | hp
    · obtain ⟨rfl, q1, _⟩ := h.temps (v, .lst a ds) List.mem_cons_self
      exact ⟨rfl, q1, vs', upd_same, hr⟩
    · refine (h.temps p (List.mem_cons_of_mem _ hp)).write fun m => ?_
      exact (List.nodup_append.mp zT).2.2 a (List.mem_singleton.mpr rfl) a (List.mem_flatMap.mpr ⟨p, hp, m⟩) rfl
  · have nb : b ≠ a := fun z => by
      subst z
      rcases h.s3 b mm with y | y
      · exact n y
      · rw [q] at y
        cases y
    rw [upd_ne nb]
    exact h.s2 b o q n
theorem SlOk.freeze {v : V} {a : Addr} {vs : List V} (hF : F a = none) : ∀ {sl : Sl}, a ∉ sl.owned → SlOk K F H v sl → SlOk K (upd F a (.lst vs)) H v sl := by
  have sm : Same F (upd F a (.lst vs)) := fun b o q => by
    rw [upd_ne (ne_of_none q hF)]
    exact q
  intro sl n h
  cases sl with
  | un => trivial
  | ext d => exact Rep.same sm h
  | al i b => exact h
  | lst b ds =>
    obtain ⟨rfl, q, us, hv, hr⟩ := h
    refine ⟨rfl, ?_, us, hv, hr.same sm⟩
    have nb : b ≠ a := fun z => n (by rw [z]; exact List.mem_singleton.mpr rfl)
    rw [upd_ne nb]
    exact q
  | ar i b => exact h
  | reg b cs =>
    obtain ⟨rd, nd, hc⟩ := h
    refine ⟨Rep.same sm rd, nd, fun p hp => ?_⟩
    obtain ⟨q, o', ho, ok⟩ := hc p hp
    have nb : p.1 ≠ a := fun z => n (by rw [← z]; exact List.mem_map.mpr ⟨p, hp, rfl⟩)
    exact ⟨by rw [upd_ne nb]; exact q, o', ho, ok.same sm⟩
theorem Holds.freezeT {v : V} {a : Addr} {ds : List D} (h : Holds K e env ((v, .lst a ds) :: T) F σ H) : ∃ F1, Same F F1 ∧ Holds K e env ((v, .ext (.lst ds)) :: T) F1 σ H := by
  have mT : a ∈ ownedT ((v, Sl.lst a ds) :: T) := List.mem_append_left _ (List.mem_singleton.mpr rfl)
  have mm : a ∈ ownedE env ++ ownedT ((v, Sl.lst a ds) :: T) := List.mem_append_right _ mT
  obtain ⟨rfl, hF, vs, hv, hr⟩ := h.temps (v, .lst a ds) List.mem_cons_self
  have z3 := (List.nodup_append.mp h.nd).2.2
  have zT : ([a] ++ ownedT T).Nodup := (List.nodup_append.mp h.nd).2.1
  have hF : F a = none := hF
  have sm : Same F (upd F a (.lst vs)) := fun b o q => by
    rw [upd_ne (ne_of_none q hF)]
    exact q
  have sub : (ownedE env ++ ownedT ((V.ref a, Sl.ext (.lst ds)) :: T)).Sublist (ownedE env ++ ownedT ((V.ref a, Sl.lst a ds) :: T)) :=
    (List.Sublist.refl _).append (List.sublist_append_right [a] (ownedT T))
  refine ⟨upd F a (.lst vs), sm, fun b o q => ?_, h.len, fun j sl q => ?_, fun p hp => ?_, h.nd.sublist sub, h.s1.trans sm, fun b o q n => ?_, fun b hb => h.s3 b (sub.subset hb)⟩
  · by_cases nb : b = a
    · rw [nb, upd_same] at q
      rw [nb, hv]
      exact q
    · rw [upd_ne nb] at q
      exact h.fh b o q
  · rcases h.slots j sl q with z | ⟨w, hw, ok⟩
    · exact .inl z
    · exact .inr ⟨w, hw, ok.freeze hF fun m => z3 a (mem_ownedE q m) a mT rfl⟩
  · rcases List.mem_cons.mp hp with rfl | hp
    · exact ⟨a, vs, rfl, upd_same, hr.same sm⟩
    · refine (h.temps p (List.mem_cons_of_mem _ hp)).freeze hF fun m => ?_
      exact (List.nodup_append.mp zT).2.2 a (List.mem_singleton.mpr rfl) a (List.mem_flatMap.mpr ⟨p, hp, m⟩) rfl
  · have nb : b ≠ a := fun z => by
      subst z
      rcases h.s3 b mm with y | y
      · exact n y
      · rw [q] at y
        cases y
    rw [upd_ne nb]
    exact h.s2 b o q n
theorem Holds.unset (h : Holds K e env T F σ H) (i : Nat) : Holds K e (env.set i .un) T F σ H := by
  by_cases hl : i < env.length
  · obtain ⟨A, B, e1, e2⟩ := splitE (List.getElem?_eq_getElem hl)
    have sub : (ownedE (env.set i .un) ++ ownedT T).Sublist (ownedE env ++ ownedT T) := by
      rw [e2, e1]
      exact ((List.Sublist.refl _).append (List.sublist_append_right _ _)).append (List.Sublist.refl _)
    refine ⟨h.fh, by rw [List.length_set]; exact h.len, fun j sl q => ?_, h.temps, h.nd.sublist sub, h.s1, h.s2, fun a ha => h.s3 a (sub.subset ha)⟩
    rw [List.getElem?_set] at q
    split at q
    · cases q
      exact .inl rfl
    · exact h.slots j sl q
  · rw [List.set_eq_of_length_le (by omega)]
    exact h
def Sl.plain : Sl → Prop
  | .al _ _ => False
  | .ar _ _ => False
  | _ => True
theorem Holds.assign {v : V} {sl : Sl} (h : Holds K e env ((v, sl) :: T) F σ H) (i : Nat) (hp : sl.plain) : Holds K e (env.set i sl) T F (σ.set i (some v)) H := by
  by_cases hl : i < env.length
  · obtain ⟨A, B, e1, e2⟩ := splitE (List.getElem?_eq_getElem hl)
    have sub : (A ++ B ++ (sl.owned ++ ownedT T)).Sublist (ownedE env ++ ownedT ((v, sl) :: T)) := by
      rw [e1]
      exact ((List.Sublist.refl _).append (List.sublist_append_right _ _)).append (List.Sublist.refl _)
    have perm : (A ++ B ++ (sl.owned ++ ownedT T)).Perm (ownedE (env.set i sl) ++ ownedT T) := by
      rw [e2, List.append_assoc, List.append_assoc]
      refine List.Perm.append_left A ?_
      rw [List.append_assoc, ← List.append_assoc, ← List.append_assoc]
      exact List.Perm.append_right _ List.perm_append_comm
    refine ⟨h.fh, by rw [List.length_set, List.length_set]; exact h.len, fun j s q => ?_, fun p hp => h.temps p (List.mem_cons_of_mem _ hp), perm.nodup (h.nd.sublist sub), h.s1, h.s2, fun a ha => h.s3 a (sub.subset (perm.mem_iff.mpr ha))⟩
    rw [List.getElem?_set] at q
    rw [List.getElem?_set]
    split at q
    · rename_i ij
      rw [if_pos ij, if_pos (by rw [← h.len]; exact hl)]
      cases q
      exact .inr ⟨v, rfl, h.temps (v, sl) List.mem_cons_self⟩
    · rename_i ij
      rw [if_neg ij]
      exact h.slots j s q
  · rw [List.set_eq_of_length_le (by omega), List.set_eq_of_length_le (by rw [← h.len]; omega)]
    exact h.pop
theorem Holds.take {i : Nat} {sl : Sl} {v : V} (h : Holds K e env T F σ H) (hi : env[i]? = some sl) (hv : σ[i]? = some (some v)) : Holds K e (env.set i .un) ((v, sl) :: T) F σ H := by
  obtain ⟨A, B, e1, e2⟩ := splitE hi
  have perm : (ownedE env ++ ownedT T).Perm (ownedE (env.set i .un) ++ ownedT ((v, sl) :: T)) := by
    rw [e1, e2]
    show (A ++ (sl.owned ++ B) ++ ownedT T).Perm (A ++ ([] ++ B) ++ (sl.owned ++ ownedT T))
    rw [List.append_assoc, List.append_assoc, List.nil_append, List.append_assoc]
    refine List.Perm.append_left A ?_
    rw [← List.append_assoc, ← List.append_assoc]
    exact List.Perm.append_right _ List.perm_append_comm
  refine ⟨h.fh, by rw [List.length_set]; exact h.len, (h.unset i).slots, fun p hp => ?_, perm.nodup h.nd, h.s1, h.s2, fun a ha => h.s3 a (perm.mem_iff.mpr ha)⟩
  rcases List.mem_cons.mp hp with rfl | hp
  · rcases h.slots i sl hi with z | ⟨w, hw, ok⟩
    · subst z
      trivial
    · rw [hv] at hw
      cases hw
      exact ok
  · exact h.temps p hp
theorem Holds.freeze {i : Nat} {a : Addr} {ds : List D} (h : Holds K e env T F σ H) (hi : env[i]? = some (.lst a ds)) : ∃ F1, Same F F1 ∧ Holds K e (env.set i (.ext (.lst ds))) T F1 σ H := by
  rcases h.slots i _ hi with z | ⟨v, hv, ok⟩
  · cases z
  · obtain ⟨F1, sm, h1⟩ := (h.take hi hv).freezeT
    have h2 := h1.assign i trivial
    rw [List.set_set] at h2
    have z : σ.set i (some v) = σ := by
      obtain ⟨hl, e⟩ := List.getElem?_eq_some_iff.mp hv
      rw [← e]
      exact List.set_getElem_self hl
    rw [z] at h2
    exact ⟨F1, sm, h2⟩
theorem Holds.bare (h : Holds K e env T F σ H) : Holds K e env [] F σ H := h.sub (List.nil_sublist _)
end
end HD
namespace HD
open PySem PySem.Spec PyProof.Rows L2
structure FnG (P : Program) (w : World) (K : PySem.W.Frag) (mg : Str → Option Value) (base : Heap) (C : CXT) (k : Nat) (f : Addr) (fd : FuncData) (ps : List Str) (sp : Sp) : Prop where
  fit : ∀ vs H Q E, sp vs H Q E → vs.length = ps.length
  go : ∀ (A : Around) (out : List Env) (t : Shared) (H : Hp) (args : Args) (us : List Value) (vs : List V) (Q : VK) (E : XK), A.guards = some [] → Room k A → Env0 P w K mg base A out t H → BindsTo t fd args (ps.zip us) → Vals vs us → sp vs H Q E →
    codeAny (model P w) A (.call (.ref f) args) (CR C out P w H t Q E) t
section
variable {P : Program} {w : World} {K : PySem.W.Frag} {mg : Str → Option Value} {base : Heap} {C : CXT} {k : Nat} {f : Addr} {fd : FuncData} {N ps : List Str} {sp : Sp} {x qual : Str} {st : Stmt}
theorem fnG_of (hF : Fun K x qual st f fd) (S : FnScope N ps (defScope st)) (fit : ∀ vs H Q E, sp vs H Q E → vs.length = ps.length)
    (body : ∀ (cd : Value) (A : Around) (out : List Env) (t : Shared) (H : Hp) (vs : List V) (Q : VK) (E : XK), A.guards = some [] → Room k (A.deeper (envOfC qual (defScope st) t.heap.objs.size f cd)) → sp vs H Q E →
      ∃ tt, PSs (cxOf C P w K mg base N qual (defScope st) f cd A out t H E) (defBody st) tt ∧ tt { nx := fun _ H' => Q .non H', rt := Q } (L2.start N vs) H) : FnG P w K mg base C (k + 1) f fd ps sp := by
  obtain ⟨oc, od, kV, doc, pm, an, cd, ct, osl, rfl, at_f, code⟩ := hF.ex
  refine ⟨fit, fun A out t H args us vs Q E gd room e0 bnd rel hsp => ?_⟩
  have inK : K.In t.heap := e0.mod.kin.keeps fun b o q => (e0.bs b o q).1
  have noLim : t.heap.NoLimit := e0.mod.nolimit.keeps fun b o q => (e0.bs b o q).1
  refine codeAny_call_function room.depth (inK _ _ at_f) rfl S.co S.gen rfl (PySem.W.codeRec_of inK code) (bnd _ _ _ _ ?_)
  refine wpAny_newFunctionEnv_cells S.kind (fun y hy => ?_) fun env he t1 call => ?_
  · obtain ⟨nm, v⟩ := y
    rcases S.par nm (List.of_mem_zip hy).1 with z | z
    · exact Or.inl z
    · exact Or.inr ⟨z, PySem.W.cellsFrom_some _ _ _ (.inl z)⟩
  · subst he
    refine ⟨noLim.keeps call.toInCall.keep, codeAny_func ?_⟩
    obtain ⟨tt, hb, hq⟩ := body cd A out t H vs Q E gd (room.deeper _) hsp
    have J : L2.Inv (cxOf C P w K mg base N qual (defScope st) f cd A out t H E) [] (L2.start N vs) H t1 := inv_start S room.hd e0 (fit _ _ _ _ hsp) rel call
    refine wpAny_mono (hb.run [] t1 (L2.start N vs) H _ J hq) (fun fl t2 h2 => ?_) fun e t2 h2 => h2
    cases fl with
    | ret u =>
      obtain ⟨v, σ2, H2, J2, rv, q⟩ := h2
      exact ⟨v, H2, J2.os, J2.bare, J2.base, J2.hok, rv, q⟩
    | next =>
      obtain ⟨σ2, H2, J2, q⟩ := h2
      exact ⟨V.non, H2, J2.os, J2.bare, J2.base, J2.hok, rfl, q⟩
    | brk => exact h2.elim fun _ z => z.elim fun _ z => z.2.elim
    | cont => exact h2.elim fun _ z => z.elim fun _ z => z.2.elim
end
section
variable {X : Cx} {C : CXT} {k : Nat} {f : Addr} {fd : FuncData} {ps : List Str} {sp : Sp} {E : L2.St → XK}
theorem runG {pins : List (Addr × Obj)} {σ : L2.St} {H : Hp} {t : Shared} {Q : VK} {us : List Value} {vs : List V} (F : FnG X.prog X.w X.K X.mg X.base C k f fd ps sp) (gd : X.A.guards = some []) (room : Room k X.A) (bnd : Binds X.K fd ps []) (pass : PassesAt C X σ (E σ))
    (J : L2.Inv X pins σ H t) (rel : Vals vs us) (h : sp vs H Q (E σ)) : wpAny (model X.prog X.w) X.A (call (.ref f) us) (EP X pins σ Q) X.xe t := by
  have l1 : us.length = ps.length := by rw [← rel.length]; exact F.fit _ _ _ _ h
  have b := bnd t us J.kIn (by rw [List.append_nil]; exact l1)
  rw [List.append_nil] at b
  refine wpAny_call (codeAny_mono (F.go X.A X.stack t H ⟨us, []⟩ us vs Q (E σ) gd room J.env0 b rel h) fun res t2 hres => ?_)
  cases res with
  | error e => exact pass pins H t e t2 J hres
  | ok fl =>
    cases fl with
    | ret u => exact J.after hres
    | next => exact hres.elim
    | brk => exact hres.elim
    | cont => exact hres.elim
end
end HD
namespace HD
open PySem L2
theorem ownedT_perm {T T' : Tmp} (p : T.Perm T') : (ownedT T).Perm (ownedT T') := by
  unfold ownedT
  induction p with
  | nil => exact .refl _
  | cons x _ ih => exact ih.append_left _
  | swap x y l =>
    rw [List.flatMap_cons, List.flatMap_cons, List.flatMap_cons, List.flatMap_cons, ← List.append_assoc, ← List.append_assoc]
    exact List.perm_append_comm.append_right _
  | trans _ _ i1 i2 => exact i1.trans i2
theorem Holds.perm {K : PySem.W.Frag} {e : Ent} {env : Env'} {T T' : Tmp} {F : Hp} {σ : St} {H : Hp} (h : Holds K e env T F σ H) (p : T.Perm T') : Holds K e env T' F σ H :=
  ⟨h.fh, h.len, h.slots, fun x hx => h.temps x (p.mem_iff.mpr hx), ((ownedT_perm p).append_left _).nodup h.nd, h.s1, h.s2, fun a ha => h.s3 a (((ownedT_perm p).append_left _).mem_iff.mpr ha)⟩
abbrev DX := Str → Env' → Prop
abbrev DT := DX → Env' → (Sl → Env' → Prop) → Prop
abbrev DTT := DX → Env' → (Bool → Env' → Prop) → Prop
abbrev DTA := DX → Env' → (List Sl → Env' → Prop) → Prop
def Link (K : PySem.W.Frag) (e : Ent) (W : WX) (Ex : DX) : Prop := ∀ c d env F σ H, Holds K e env [] F σ H → XD F c d → Ex c env → W (clsV K (xk c)) d σ H
def Im (K : PySem.W.Frag) (W : WX) (te : TE) (t : DT) : Prop :=
  ∀ (e : Ent) (Ex : DX), Link K e W Ex → ∀ (env : Env') (T : Tmp) (F : Hp) (σ : St) (H : Hp) (Q : Sl → Env' → Prop) (R : VK),
    Holds K e env T F σ H → t Ex env Q → (∀ v H' F' env' sl, Holds K e env' ((v, sl) :: T) F' σ H' → Q sl env' → R v H') → te σ H R
def ImT (K : PySem.W.Frag) (W : WX) (tt : TT) (t : DTT) : Prop :=
  ∀ (e : Ent) (Ex : DX), Link K e W Ex → ∀ (env : Env') (T : Tmp) (F : Hp) (σ : St) (H : Hp) (Q : Bool → Env' → Prop) (R : Bool → Hp → Prop),
    Holds K e env T F σ H → t Ex env Q → (∀ b H' F' env', Holds K e env' T F' σ H' → Q b env' → R b H') → tt σ H R
def ImA (K : PySem.W.Frag) (W : WX) (ta : TA) (t : DTA) : Prop :=
  ∀ (e : Ent) (Ex : DX), Link K e W Ex → ∀ (env : Env') (T : Tmp) (F : Hp) (σ : St) (H : Hp) (Q : List Sl → Env' → Prop) (R : List V → Hp → Prop),
    Holds K e env T F σ H → t Ex env Q → (∀ vs H' F' env' xs, vs.length = xs.length → Holds K e env' (vs.zip xs ++ T) F' σ H' → Q xs env' → R vs H') → ta σ H R
structure GG where
  P : Program
  w : World
  K : PySem.W.Frag
  mg : Str → Option Value
  base : Heap
structure SC where
  sc : Scope
  own : Str → Bool
  top : Bool
abbrev fnS (sc : Scope) : SC := ⟨sc, fun _ => true, true⟩
def relab (scope sc : Scope) : Scope :=
  { scope with names := scope.names.map fun (n, k) => if (k == .free && sc.kind == .function && sc.names.lookup n == some .cell) then (n, .cell) else (n, k) }
abbrev lcS (scope : Scope) (sc : SC) : SC := ⟨relab scope sc.sc, fun x => scope.names.lookup x == some .cell, false⟩
structure Sit (G : GG) (N : List Str) (sc : SC) (W : WX) (k : Nat) (X : Cx) : Prop where
  prog : X.prog = G.P
  w : X.w = G.w
  K : X.K = G.K
  mg : X.mg = G.mg
  base : X.base = G.base
  nms : X.N = N
  nd : N.Nodup
  scp : X.env.scope = sc.sc
  calm : X.calm = true
  room : Room k X.A
  tk : Takes X W
  fn : ∀ x, sc.own x = true → X.fn x = true
  own : PassesOwn (model X.prog X.w) X.A X.env X.xe
  stk : sc.top = true → X.stack = X.env :: X.outer ∧ X.env.frame = some X.env.locals
  gd : X.A.guards = some []
structure DE (G : GG) (N : List Str) (sc : SC) (k : Nat) (e : Expr) (t : DT) : Prop where
  ex : ∀ W : WX, ∃ te, (∀ X, Sit G N sc W k X → PE X e te) ∧ Im G.K W te t
structure DTe (G : GG) (N : List Str) (sc : SC) (k : Nat) (e : Expr) (t : DTT) : Prop where
  ex : ∀ W : WX, ∃ te, (∀ X, Sit G N sc W k X → PT X e te) ∧ ImT G.K W te t
structure DAs (G : GG) (N : List Str) (sc : SC) (k : Nat) (es : List Expr) (t : DTA) : Prop where
  ex : ∀ W : WX, ∃ te, (∀ X, Sit G N sc W k X → PA X es te) ∧ ImA G.K W te t
section
variable {G : GG} {N : List Str} {sc : SC} {k : Nat}
def dC (d : D) : DT := fun _ env Q => Q (.ext d) env
def dVar (i : Nat) : DT := fun _ env Q => match env[i]? with
  | some (.ext d) => Q (.ext d) env
  | some (.lst a _) => Q (.al i a) env
  | _ => False
theorem im_const {K : PySem.W.Frag} {W : WX} {v : V} {d : D} (h : ∀ F, Rep K F d v) : Im K W (tC v) (dC d) :=
  fun e Ex _ env T F σ H Q R hh ht hR => hR v H F env (.ext d) (hh.pushE (h F)) ht
theorem im_var {K : PySem.W.Frag} {W : WX} (i : Nat) : Im K W (tVar i) (dVar i) := fun e Ex _ env T F σ H Q R hh ht hR => by
  unfold dVar at ht
  split at ht
  · rename_i d q
    rcases hh.slots i _ q with z | ⟨v, hv, ok⟩
    · cases z
    · exact ⟨v, hv, hR v H F env (.ext d) (hh.pushE ok) ht⟩
  · rename_i a ds q
    rcases hh.slots i _ q with z | ⟨v, hv, ok⟩
    · cases z
    · obtain ⟨rfl, _⟩ := ok
      exact ⟨_, hv, hR _ H F env (.al i a) hh.pushA ht⟩
  · exact ht.elim
theorem Sit.vis {W : WX} {X : Cx} {x : Str} (S : Sit G N sc W k X) (h : Vis sc.sc x) : Vis X.env.scope x := by rw [S.scp]; exact h
theorem de_var (i : Nat) {x : Str} {pos : Pos} (hN : N[i]? = some x := by rfl) (hv : Vis sc.sc x := by first | exact Or.inl rfl | exact Or.inr (Or.inl rfl) | exact Or.inr (Or.inr rfl))
    (hd : (x == ("__debug__" : Str)) = false := by decide) (hcd : (x == ("__classdict__" : Str)) = false := by decide) : DE G N sc k (.Name x pos) (dVar i) :=
  ⟨fun W => ⟨tVar i, fun X S => pe_var (by rw [S.nms]; exact hN) (S.vis hv) hd hcd, im_var i⟩⟩
theorem de_int {i j pos} : DE G N sc k (.Constant (.int i) j pos) (dC (.int i)) := ⟨fun _ => ⟨_, fun _ _ => pe_int, im_const fun _ => rfl⟩⟩
theorem de_bl {i j pos} : DE G N sc k (.Constant (.bool i) j pos) (dC (.bl i)) := ⟨fun _ => ⟨_, fun _ _ => pe_bl, im_const fun _ => rfl⟩⟩
theorem de_str {i j pos} : DE G N sc k (.Constant (.str i) j pos) (dC (.str i)) := ⟨fun _ => ⟨_, fun _ _ => pe_str, im_const fun _ => rfl⟩⟩
def GlS (sc : SC) (x : Str) : Prop := sc.sc.names.lookup x = some .globalImplicit
theorem Sit.gl {W : WX} {X : Cx} {x : Str} (S : Sit G N sc W k X) (h : GlS sc x) : Gl X x := by
  show X.env.scope.names.lookup x = some .globalImplicit
  rw [S.scp]
  exact h
theorem de_glob {x : Str} {v : V} {u : Value} {d : D} {pos : Pos} (hg : GlS sc x) (hm : G.mg x = some u) (r : RelV v u) (hr : ∀ F, Rep G.K F d v) (hd : (x == ("__debug__" : Str)) = false := by decide) : DE G N sc k (.Name x pos) (dC d) :=
  ⟨fun _ => ⟨tC v, fun X S => pe_glob (S.gl hg) (by rw [S.mg]; exact hm) r hd, im_const hr⟩⟩
theorem de_bltn {x : Str} {v : V} {u : Value} {pos : Pos} (hg : GlS sc x) (hm : G.mg x = none) (hv : bootBuiltins x = some u) (r : RelV v u) (hn : x ≠ "__name__" := by decide) (hd : (x == ("__debug__" : Str)) = false := by decide) : DE G N sc k (.Name x pos) (dC (.val v)) :=
  ⟨fun _ => ⟨tC v, fun X S => pe_bltn (S.gl hg) (by rw [S.mg]; exact hm) hv r hn hd, im_const fun _ => rfl⟩⟩
def dNil : DTA := fun _ env Q => Q [] env
def dCons (t : DT) (u : DTA) : DTA := fun Ex env Q => t Ex env fun x env1 => u Ex env1 fun xs env2 => Q (x :: xs) env2
theorem im_nil {K : PySem.W.Frag} {W : WX} : ImA K W tNil dNil := fun e Ex _ env T F σ H Q R hh ht hR => hR [] H F env [] rfl hh ht
theorem im_cons {K : PySem.W.Frag} {W : WX} {te : TE} {ta : TA} {t : DT} {u : DTA} (h1 : Im K W te t) (h2 : ImA K W ta u) : ImA K W (tCons te ta) (dCons t u) := fun e Ex hl env T F σ H Q R hh ht hR => by
  refine h1 e Ex hl env T F σ H _ _ hh ht fun v H1 F1 env1 sl hh1 q1 => ?_
  refine h2 e Ex hl env1 _ F1 σ H1 _ _ hh1 q1 fun vs H2 F2 env2 xs le hh2 q2 => ?_
  exact hR (v :: vs) H2 F2 env2 (sl :: xs) (by rw [List.length_cons, List.length_cons, le]) (hh2.perm List.perm_middle) q2
theorem da_nil : DAs G N sc k [] dNil := ⟨fun _ => ⟨tNil, fun _ _ => pa_nil, im_nil⟩⟩
abbrev NoStar (e : Expr) (es : List Expr) : Prop := ∀ env, starEach (e :: es) env = (false, eval e env) :: starEach es env
theorem da_cons {e : Expr} {es : List Expr} {t : DT} {u : DTA} (h1 : DE G N sc k e t) (h2 : DAs G N sc k es u) (hs : NoStar e es := by intro _; rfl) : DAs G N sc k (e :: es) (dCons t u) :=
  ⟨fun W => by
    obtain ⟨te, p1, i1⟩ := h1.ex W
    obtain ⟨ta, p2, i2⟩ := h2.ex W
    exact ⟨tCons te ta, fun X S => pa_cons (p1 X S) (p2 X S) (hs _), im_cons i1 i2⟩⟩
theorem cellOf_mem : ∀ {cs : List (Addr × OC)} {b : Addr} {oc : OC}, cellOf cs b = some oc → (b, oc) ∈ cs
  | [], _, _, h => nomatch h
  | p :: r, b, oc, h => by
    unfold cellOf at h
    split at h
    · rename_i e
      cases h
      rw [← e]
      exact List.mem_cons_self
    · exact List.mem_cons_of_mem _ (cellOf_mem h)
theorem Holds.cell {K : PySem.W.Frag} {e : Ent} {env : Env'} {T : Tmp} {F : Hp} {σ : St} {H : Hp} {i : Nat} {d : D} {cs : List (Addr × OC)} {b : Addr} {oc : OC} (h : Holds K e env T F σ H) (hi : env[i]? = some (.reg d cs)) (hc : cellOf cs b = some oc) : F b = none ∧ ∃ o, H b = some o ∧ OC.ok K F b oc o := by
  rcases h.slots i _ hi with z | ⟨v, _, _, _, ok⟩
  · cases z
  · exact ok (b, oc) (cellOf_mem hc)
def RepT (K : PySem.W.Frag) (F H : Hp) (d : D) (v : V) : Prop := Rep K F d v ∨ ∃ a ds vs, d = .lst ds ∧ v = .ref a ∧ H a = some (.lst vs) ∧ Reps K F ds vs
def RepTs (K : PySem.W.Frag) (F H : Hp) : List D → List V → Prop
  | [], vs => vs = []
  | d :: ds, vs => ∃ v r, vs = v :: r ∧ RepT K F H d v ∧ RepTs K F H ds r
def wd (env : Env') (sl : Sl) (k : D → Prop) : Prop := match sl with
  | .ext d => k d
  | .lst _ ds => k (.lst ds)
  | .al i a => match env[i]? with
    | some (.lst b ds) => b = a ∧ k (.lst ds)
    | _ => False
  | .un => False
  | .reg _ _ => False
  | .ar i b => match env[i]? with
    | some (.reg _ cs) => match cellOf cs b with
      | some (.lst ds) => k (.lst ds)
      | _ => False
    | _ => False
def wds (env : Env') : List Sl → (List D → Prop) → Prop
  | [], k => k []
  | s :: ss, k => wd env s fun d => wds env ss fun ds => k (d :: ds)
theorem Holds.wd {K : PySem.W.Frag} {e : Ent} {env : Env'} {T : Tmp} {F : Hp} {σ : St} {H : Hp} {v : V} {sl : Sl} {q : D → Prop} (h : Holds K e env T F σ H) (m : (v, sl) ∈ T) (w : HD.wd env sl q) : ∃ d, RepT K F H d v ∧ q d := by
  have ok := h.temps _ m
  cases sl with
  | un => exact w.elim
  | reg _ _ => exact w.elim
  | ar i b =>
    have w' : (match env[i]? with | some (.reg _ cs) => (match cellOf cs b with | some (.lst ds) => q (.lst ds) | _ => False) | _ => False) := w
    split at w'
    · rename_i d cs hb
      split at w'
      · rename_i ds hc
        obtain ⟨_, o, ho, vs, rfl, hr⟩ := h.cell hb hc
        exact ⟨.lst ds, .inr ⟨b, ds, vs, rfl, ok, ho, hr⟩, w'⟩
      · exact w'.elim
    · exact w'.elim
  | ext d => exact ⟨d, .inl ok, w⟩
  | lst a ds =>
    obtain ⟨e1, _, vs, hv, hr⟩ := ok
    exact ⟨.lst ds, .inr ⟨a, ds, vs, rfl, e1, hv, hr⟩, w⟩
  | al i a =>
    have w' : (match env[i]? with | some (.lst b ds) => b = a ∧ q (.lst ds) | _ => False) := w
    split at w'
    · rename_i b ds hb
      obtain ⟨rfl, w'⟩ := w'
      rcases h.slots i _ hb with z | ⟨u, hu, e1, _, vs, hv, hr⟩
      · cases z
      · exact ⟨.lst ds, .inr ⟨b, ds, vs, rfl, ok, hv, hr⟩, w'⟩
    · exact w'.elim
theorem Holds.wds {K : PySem.W.Frag} {e : Ent} {env : Env'} {T : Tmp} {F : Hp} {σ : St} {H : Hp} (h : Holds K e env T F σ H) : ∀ {vs : List V} {xs : List Sl} {q : List D → Prop}, vs.length = xs.length → (∀ p ∈ vs.zip xs, p ∈ T) → HD.wds env xs q → ∃ ds, RepTs K F H ds vs ∧ q ds
  | [], [], q, _, _, w => ⟨[], rfl, w⟩
  | [], _ :: _, _, e, _, _ => by cases e
  | _ :: _, [], _, e, _, _ => by cases e
  | v :: vs, x :: xs, q, e, m, w => by
    obtain ⟨d, r1, w1⟩ := h.wd (m (v, x) List.mem_cons_self) w
    obtain ⟨ds, r2, w2⟩ := Holds.wds h (by simpa using e) (fun p hp => m p (List.mem_cons_of_mem _ hp)) w1
    exact ⟨d :: ds, ⟨v, vs, rfl, r1, r2⟩, w2⟩
section
variable {K : PySem.W.Frag} {F H : Hp} {v : V}
theorem RepT.int {i : Int} (h : RepT K F H (.int i) v) : v = .int i := by
  rcases h with h | ⟨_, _, _, z, _⟩
  · exact h
  · cases z
theorem RepT.str {x : Str} (h : RepT K F H (.str x) v) : v = .str x := by
  rcases h with h | ⟨_, _, _, z, _⟩
  · exact h
  · cases z
theorem RepT.bl {x : Bool} (h : RepT K F H (.bl x) v) : v = .bl x := by
  rcases h with h | ⟨_, _, _, z, _⟩
  · exact h
  · cases z
theorem RepT.val {x : V} (h : RepT K F H (.val x) v) : v = x := by
  rcases h with h | ⟨_, _, _, z, _⟩
  · exact h
  · cases z
theorem RepT.tup {ds : List D} (fh : Same F H) (h : RepT K F H (.tup ds) v) : ∃ a vs, v = .ref a ∧ SqT K H a vs ∧ TupD K F a vs ∧ Reps K F ds vs := by
  rcases h with ⟨a, vs, e, hs, hr⟩ | ⟨_, _, _, z, _⟩
  · exact ⟨a, vs, e, SqT.same fh hs.sq, hs, hr⟩
  · cases z
theorem RepT.tk {ds : List D} (fh : Same F H) (h : RepT K F H (.tk ds) v) : ∃ a vs, v = .ref a ∧ SqT K H a vs ∧ SqT K F a vs ∧ Reps K F ds vs := by
  rcases h with ⟨a, vs, e, hs, hr⟩ | ⟨_, _, _, z, _⟩
  · exact ⟨a, vs, e, SqT.same fh hs, hs, hr⟩
  · cases z
theorem RepT.lst {ds : List D} (fh : Same F H) (h : RepT K F H (.lst ds) v) : ∃ a vs, v = .ref a ∧ H a = some (.lst vs) ∧ Reps K F ds vs := by
  rcases h with ⟨a, vs, e, hs, hr⟩ | ⟨a, ds', vs, z, e, hs, hr⟩
  · exact ⟨a, vs, e, fh _ _ hs, hr⟩
  · cases z
    exact ⟨a, vs, e, hs, hr⟩
theorem RepT.fz {ds : List D} (fh : Same F H) (h : RepT K F H (.fz ds) v) : ∃ a vs, v = .ref a ∧ SqL K H a vs ∧ Reps K F ds vs := by
  rcases h with ⟨a, vs, e, hs, hr⟩ | ⟨a, ds', vs, z, e, hs, hr⟩
  · exact ⟨a, vs, e, fh.seq hs, hr⟩
  · cases z
theorem RepT.rep {d : D} (fh : Same F H) (h : RepT K F H d v) : Rep K H d v := by
  rcases h with h | ⟨a, ds, vs, rfl, rfl, hs, hr⟩
  · exact Rep.same fh h
  · exact ⟨a, vs, rfl, hs, hr.same fh⟩
theorem RepTs.one {d : D} {vs : List V} (h : RepTs K F H [d] vs) : ∃ v, vs = [v] ∧ RepT K F H d v := by
  obtain ⟨v, r, rfl, h1, h2⟩ := h
  have z : r = [] := h2
  exact ⟨v, by rw [z], h1⟩
theorem RepTs.two {d d' : D} {vs : List V} (h : RepTs K F H [d, d'] vs) : ∃ v v', vs = [v, v'] ∧ RepT K F H d v ∧ RepT K F H d' v' := by
  obtain ⟨v, r, rfl, h1, h2⟩ := h
  obtain ⟨v', e, h3⟩ := RepTs.one h2
  exact ⟨v, v', by rw [e], h1, h3⟩
end
def After (K : PySem.W.Frag) (F H : Hp) (Q : Sl → Prop) (R : VK) : Prop :=
  ∀ v F1 H1 sl, Grow F H F1 H1 → SlOk K F1 H1 v sl → (∀ a ∈ sl.owned, H a = none) → Q sl → R v H1
def Pr (K : PySem.W.Frag) (r : List V → Hp → VK → Prop) (f : List D → (Sl → Prop) → Prop) : Prop :=
  ∀ F H vs ds (Q : Sl → Prop) (R : VK), Same F H → RepTs K F H ds vs → f ds Q → After K F H Q R → r vs H R
def Pr2 (K : PySem.W.Frag) (r : R2) (f : D → D → (Sl → Prop) → Prop) : Prop :=
  ∀ F H v u d d' (Q : Sl → Prop) (R : VK), Same F H → RepT K F H d v → RepT K F H d' u → f d d' Q → After K F H Q R → r v u H R
section
variable {K : PySem.W.Frag} {F H : Hp} {Q : Sl → Prop} {R : VK}
theorem After.ext (h : After K F H Q R) (fh : Same F H) {v : V} {d : D} (r : Rep K F d v) (q : Q (.ext d)) : R v H := h v F H (.ext d) (Grow.refl fh) r (fun _ z => nomatch z) q
theorem After.int (h : After K F H Q R) (fh : Same F H) {i : Int} (q : Q (.ext (.int i))) : R (.int i) H := h.ext (d := .int i) fh rfl q
theorem After.bl (h : After K F H Q R) (fh : Same F H) {i : Bool} (q : Q (.ext (.bl i))) : R (.bl i) H := h.ext (d := .bl i) fh rfl q
theorem After.str (h : After K F H Q R) (fh : Same F H) {i : Str} (q : Q (.ext (.str i))) : R (.str i) H := h.ext (d := .str i) fh rfl q
theorem After.lst (h : After K F H Q R) (fh : Same F H) {p : Addr} {ds : List D} {vs : List V} (n : H p = none) (r : Reps K F ds vs) (q : Q (.lst p ds)) : R (.ref p) (upd H p (.lst vs)) :=
  h _ F _ (.lst p ds) (Grow.loose fh n) ⟨rfl, fh.free n, vs, upd_same, r⟩ (fun a z => by rw [List.mem_singleton.mp z]; exact n) q
theorem After.tup (h : After K F H Q R) (fh : Same F H) {ds : List D} {vs : List V} (r : Reps K F ds vs) (q : Q (.ext (.tup ds))) : newT H vs R := fun p o n d =>
  h _ (upd F p (.frz o (.tup vs))) _ (.ext (.tup ds)) (Grow.frozen fh n) ⟨p, vs, rfl, .inl ⟨o, upd_same, d⟩, r.same (Grow.frozen fh n).ff⟩ (fun _ z => nomatch z) q
end
theorem Holds.done {K : PySem.W.Frag} {e : Ent} {env : Env'} {T : Tmp} {F : Hp} {σ : St} {H : Hp} {Q : Sl → Env' → Prop} {R : VK} (h : Holds K e env T F σ H) (hR : ∀ v H' F' env' sl, Holds K e env' ((v, sl) :: T) F' σ H' → Q sl env' → R v H') : After K F H (fun sl => Q sl env) R :=
  fun v F1 H1 sl g ok own q => hR v H1 F1 env sl (h.push g ok own) q
def dOp (f : D → D → (Sl → Prop) → Prop) (ta tb : DT) : DT := fun Ex env Q => ta Ex env fun x env1 => tb Ex env1 fun y env2 => wd env2 x fun d => wd env2 y fun d' => f d d' fun sl => Q sl env2
theorem im_op {K : PySem.W.Frag} {W : WX} {r : R2} {f : D → D → (Sl → Prop) → Prop} {ta tb : TE} {sa sb : DT} (hr : Pr2 K r f) (ha : Im K W ta sa) (hb : Im K W tb sb) : Im K W (tOp r ta tb) (dOp f sa sb) := fun e Ex hl env T F σ H Q R hh ht hR => by
  refine ha e Ex hl env T F σ H _ _ hh ht fun v H1 F1 env1 x hh1 q1 => ?_
  refine hb e Ex hl env1 _ F1 σ H1 _ _ hh1 q1 fun u H2 F2 env2 y hh2 q2 => ?_
  obtain ⟨d, rd, q3⟩ := hh2.wd (v := v) (sl := x) (List.mem_cons_of_mem _ List.mem_cons_self) q2
  obtain ⟨d', rd', q4⟩ := hh2.wd (v := u) (sl := y) List.mem_cons_self q3
  exact hr F2 H2 v u d d' _ R hh2.fh rd rd' q4 (hh2.pop.pop.done hR)
theorem Sit.units {W : WX} {X : Cx} (S : Sit G N sc W k X) : X.A.units + 64 < cLine := S.room.units
end
end HD
namespace HD
open PySem L2
def fAdd : D → D → (Sl → Prop) → Prop
  | .int i, .int j, Q => Q (.ext (.int (i + j)))
  | .str x, .str y, Q => x.length + y.length ≤ sizeLine ∧ Q (.ext (.str (x ++ y)))
  | .lst xs, .lst ys, Q => xs.length + ys.length ≤ sizeLine ∧ ∀ a, Q (.lst a (xs ++ ys))
  | .tup xs, .tup ys, Q => xs.length + ys.length ≤ sizeLine ∧ Q (.ext (.tup (xs ++ ys)))
  | _, _, _ => False
def rAddD (K : PySem.W.Frag) : R2 := fun x y H Q => (rI0 fun i j => .int (i + j)) x y H Q ∨ (∃ i j, x = .str i ∧ y = .str j ∧ i.length + j.length ≤ sizeLine ∧ Q (.str (i ++ j)) H) ∨ rCat x y H Q ∨ rCatF K x y H Q
theorem op_addD {X : Cx} : OpR X (binaryOp .Add) (rAddD X.K) := op_add.or (op_add_str.or (op_cat.or op_catF))
theorem pr_add {K : PySem.W.Frag} : Pr2 K (rAddD K) fAdd := fun F H v u d d' Q R fh h1 h2 hf ha => by
  unfold fAdd at hf
  split at hf
  · exact .inl ⟨_, _, h1.int, h2.int, ha.int fh hf⟩
  · exact .inr (.inl ⟨_, _, h1.str, h2.str, hf.1, ha.str fh hf.2⟩)
  · obtain ⟨a, vs, rfl, e1, r1⟩ := h1.lst fh
    obtain ⟨b, us, rfl, e2, r2⟩ := h2.lst fh
    exact .inr (.inr (.inl ⟨a, b, vs, us, rfl, rfl, e1, e2, by rw [← r1.length, ← r2.length]; exact hf.1, fun p n => ha.lst fh n (r1.append r2) (hf.2 p)⟩))
  · obtain ⟨a, vs, rfl, e1, e1', r1⟩ := h1.tup fh
    obtain ⟨b, us, rfl, e2, e2', r2⟩ := h2.tup fh
    refine .inr (.inr (.inr ⟨a, b, vs, us, rfl, rfl, e1, e2, by rw [← r1.length, ← r2.length]; exact hf.1, fun z => ?_, fun _ z => ?_, fun _ _ => ha.tup fh (r1.append r2) hf.2⟩))
    · refine ha.ext (d := .tup _) fh ⟨b, us, rfl, e2', ?_⟩ hf.2
      have q := r1.append r2
      rw [z] at q
      exact q
    · refine ha.ext (d := .tup _) fh ⟨a, vs, rfl, e1', ?_⟩ hf.2
      have q := r1.append r2
      rw [z, List.append_nil] at q
      exact q
  · exact hf.elim
def fSub : D → D → (Sl → Prop) → Prop
  | .int i, .int j, Q => Q (.ext (.int (i - j)))
  | _, _, _ => False
theorem pr_sub {K : PySem.W.Frag} : Pr2 K (rI0 fun i j => .int (i - j)) fSub := fun F H v u d d' Q R fh h1 h2 hf ha => by
  unfold fSub at hf
  split at hf
  · exact ⟨_, _, h1.int, h2.int, ha.int fh hf⟩
  · exact hf.elim
def fMul : D → D → (Sl → Prop) → Prop
  | .int i, .int j, Q => CMulW i j ∧ Q (.ext (.int (i * j)))
  | .lst xs, .int k, Q => k < 2 ^ 63 ∧ 0 ≤ k ∧ xs.length * k.toNat ≤ sizeLine ∧ ∀ a, Q (.lst a (List.replicate k.toNat xs).flatten)
  | _, _, _ => False
theorem Reps.rep {K : PySem.W.Frag} {F : Hp} {ds : List D} {vs : List V} (h : Reps K F ds vs) : ∀ k : Nat, Reps K F (List.replicate k ds).flatten (List.replicate k vs).flatten
  | 0 => rfl
  | k + 1 => by
    rw [List.replicate_succ, List.replicate_succ, List.flatten_cons, List.flatten_cons]
    exact h.append (Reps.rep h k)
theorem pr_mul {K : PySem.W.Frag} : Pr2 K (fun x y H Q => (rI CMulW fun i j => .int (i * j)) x y H Q ∨ rRep x y H Q) fMul := fun F H v u d d' Q R fh h1 h2 hf ha => by
  unfold fMul at hf
  split at hf
  · exact .inl ⟨_, _, h1.int, h2.int, hf.1, ha.int fh hf.2⟩
  · obtain ⟨a, vs, rfl, e1, r1⟩ := h1.lst fh
    obtain ⟨hf1, hf0, hf2, hf3⟩ := hf
    exact .inr ⟨a, _, vs, rfl, h2.int, e1, Int.le_trans (by decide) hf0, hf1, by rw [← r1.length]; exact hf2, fun p n => ha.lst fh n (r1.rep _) (hf3 p)⟩
  · exact hf.elim
theorem op_mulD {X : Cx} : OpR X (binaryOp .Mult) (fun x y H Q => (rI CMulW fun i j => .int (i * j)) x y H Q ∨ rRep x y H Q) := op_mulW.or op_rep
def fDiv : D → D → (Sl → Prop) → Prop
  | .int i, .int j, Q => CDivW i j ∧ Q (.ext (.int (i / j)))
  | _, _, _ => False
theorem pr_div {K : PySem.W.Frag} : Pr2 K (rI CDivW fun i j => .int (i / j)) fDiv := fun F H v u d d' Q R fh h1 h2 hf ha => by
  unfold fDiv at hf
  split at hf
  · exact ⟨_, _, h1.int, h2.int, hf.1, ha.int fh hf.2⟩
  · exact hf.elim
def fMod : D → D → (Sl → Prop) → Prop
  | .int i, .int j, Q => 0 < j ∧ Q (.ext (.int (i % j)))
  | _, _, _ => False
theorem pr_mod {K : PySem.W.Frag} : Pr2 K (rI (fun _ j => 0 < j) fun i j => .int (i % j)) fMod := fun F H v u d d' Q R fh h1 h2 hf ha => by
  unfold fMod at hf
  split at hf
  · exact ⟨_, _, h1.int, h2.int, hf.1, ha.int fh hf.2⟩
  · exact hf.elim
def fPow : D → D → (Sl → Prop) → Prop
  | .int i, .int j, Q => CPow i j ∧ Q (.ext (.int (i ^ j.toNat)))
  | _, _, _ => False
theorem pr_pow {K : PySem.W.Frag} : Pr2 K (rI CPow fun i j => .int (i ^ j.toNat)) fPow := fun F H v u d d' Q R fh h1 h2 hf ha => by
  unfold fPow at hf
  split at hf
  · exact ⟨_, _, h1.int, h2.int, hf.1, ha.int fh hf.2⟩
  · exact hf.elim
section
variable {G : GG} {N : List Str} {sc : SC} {k : Nat} {a b : Expr} {ta tb : DT} {pos : Pos}
theorem de_bin {op : Operator} {r : PySem.W.Frag → R2} {f : D → D → (Sl → Prop) → Prop} (hr : ∀ K, Pr2 K (r K) f) (ho : ∀ X : Cx, OpR X (binaryOp op) (r X.K)) (ha : DE G N sc k a ta) (hb : DE G N sc k b tb) : DE G N sc k (.BinOp a op b pos) (dOp f ta tb) :=
  ⟨fun W => by
    obtain ⟨te, p1, i1⟩ := ha.ex W
    obtain ⟨tf, p2, i2⟩ := hb.ex W
    exact ⟨tOp (r G.K) te tf, fun X S => pe_op (by rw [← S.K]; exact ho X) (p1 X S) (p2 X S), im_op (hr _) i1 i2⟩⟩
theorem de_add (ha : DE G N sc k a ta) (hb : DE G N sc k b tb) : DE G N sc k (.BinOp a .Add b pos) (dOp fAdd ta tb) := de_bin (r := rAddD) (fun _ => pr_add) (fun _ => op_addD) ha hb
theorem de_sub (ha : DE G N sc k a ta) (hb : DE G N sc k b tb) : DE G N sc k (.BinOp a .Sub b pos) (dOp fSub ta tb) := de_bin (r := fun _ => _) (fun _ => pr_sub) (fun _ => op_sub) ha hb
theorem de_mul (ha : DE G N sc k a ta) (hb : DE G N sc k b tb) : DE G N sc k (.BinOp a .Mult b pos) (dOp fMul ta tb) := de_bin (r := fun _ => _) (fun _ => pr_mul) (fun _ => op_mulD) ha hb
theorem de_div (ha : DE G N sc k a ta) (hb : DE G N sc k b tb) : DE G N sc k (.BinOp a .FloorDiv b pos) (dOp fDiv ta tb) := de_bin (r := fun _ => _) (fun _ => pr_div) (fun _ => op_fdivW) ha hb
theorem de_mod (ha : DE G N sc k a ta) (hb : DE G N sc k b tb) : DE G N sc k (.BinOp a .Mod b pos) (dOp fMod ta tb) := de_bin (r := fun _ => _) (fun _ => pr_mod) (fun _ => op_mod) ha hb
theorem de_pow (ha : DE G N sc k a ta) (hb : DE G N sc k b tb) : DE G N sc k (.BinOp a .Pow b pos) (dOp fPow ta tb) := de_bin (r := fun _ => _) (fun _ => pr_pow) (fun _ => op_pow) ha hb
end
def dNeg (ta : DT) : DT := fun Ex env Q => ta Ex env fun x env1 => wd env1 x fun d => match d with
  | .int i => Q (.ext (.int (-i))) env1
  | _ => False
mutual
def D.py : D → PyData
  | .non => .none
  | .bl b => .bool b
  | .int i => .int i
  | .str x => .str x
  | .val _ => .none
  | .lst ds => .list (D.pys ds)
  | .fz ds => .list (D.pys ds)
  | .tup ds => .tuple (D.pys ds)
  | .tk ds => .tuple (D.pys ds)
  | .exc _ => .none
  | .glo _ => .none
  | .dk _ _ => .none
  | .dt _ _ => .none
def D.pys : List D → List PyData
  | [] => []
  | d :: ds => D.py d :: D.pys ds
end
mutual
def D.noVal : D → Bool
  | .val _ => false
  | .exc _ => false
  | .glo _ => false
  | .dk _ _ => false
  | .dt _ _ => false
  | .lst ds => D.noVals ds
  | .fz ds => D.noVals ds
  | .tup ds => D.noVals ds
  | .tk ds => D.noVals ds
  | _ => true
def D.noVals : List D → Bool
  | [] => true
  | d :: ds => D.noVal d && D.noVals ds
end
section
variable {K : PySem.W.Frag} {H : Hp}
mutual
theorem Rep.dp : ∀ {d : D} {v : V}, d.noVal = true → Rep K H d v → Dp K H v d.py
  | .non, _, _, h => by
    have e : _ = V.non := h
    rw [e]
    exact .non
  | .bl b, _, _, h => by
    have e : _ = V.bl b := h
    rw [e]
    exact .bl b
  | .int b, _, _, h => by
    have e : _ = V.int b := h
    rw [e]
    exact .int b
  | .str b, _, _, h => by
    have e : _ = V.str b := h
    rw [e]
    exact .str b
  | .val _, _, n, _ => nomatch n
  | .exc _, _, n, _ => nomatch n
  | .glo _, _, n, _ => nomatch n
  | .dk _ _, _, n, _ => nomatch n
  | .dt _ _, _, n, _ => nomatch n
  | .lst ds, _, n, h => by
    obtain ⟨a, xs, rfl, hs, hr⟩ := h
    exact .lst (SqL.of hs) (Reps.dp n hr)
  | .fz ds, _, n, h => by
    obtain ⟨a, xs, rfl, hs, hr⟩ := h
    exact .lst hs (Reps.dp n hr)
  | .tup ds, _, n, h => by
    obtain ⟨a, xs, rfl, hs, hr⟩ := h
    exact .tup hs.sq (Reps.dp n hr)
  | .tk ds, _, n, h => by
    obtain ⟨a, xs, rfl, hs, hr⟩ := h
    exact .tup hs (Reps.dp n hr)
theorem Reps.dp : ∀ {ds : List D} {vs : List V}, D.noVals ds = true → Reps K H ds vs → DpAll K H vs (D.pys ds)
  | [], _, _, h => by
    have e : _ = [] := h
    rw [e]
    exact .nil
  | d :: ds, _, n, h => by
    obtain ⟨v, r, rfl, h1, h2⟩ := h
    have n' : (D.noVal d && D.noVals ds) = true := n
    rw [Bool.and_eq_true] at n'
    exact .cons (Rep.dp n'.1 h1) (Reps.dp n'.2 h2)
end
end
def D.cmp (d : D) : Prop := d.noVal = true ∧ SeqAt.shaped d.py = true
def D.eqv (d e : D) : Bool := PyData.eqv d.py e.py
def fEq : D → D → (Sl → Prop) → Prop
  | .int i, .int j, Q => Q (.ext (.bl (i == j)))
  | .str i, .str j, Q => Q (.ext (.bl (i == j)))
  | .bl i, .bl j, Q => Q (.ext (.bl (i == j)))
  | d, e, Q => d.cmp ∧ e.cmp ∧ Q (.ext (.bl (d.eqv e)))
def fNe : D → D → (Sl → Prop) → Prop
  | .int i, .int j, Q => Q (.ext (.bl (!(i == j))))
  | .str i, .str j, Q => Q (.ext (.bl (!(i == j))))
  | .bl i, .bl j, Q => Q (.ext (.bl (!(i == j))))
  | d, e, Q => d.cmp ∧ e.cmp ∧ Q (.ext (.bl (!d.eqv e)))
def rEqA (K : PySem.W.Frag) : R2 := fun x y H Q => rEq x y H Q ∨ rEqD K x y H Q
def rNeA (K : PySem.W.Frag) : R2 := fun x y H Q => rNe x y H Q ∨ rNeD K x y H Q
theorem pr_eq {K : PySem.W.Frag} : Pr2 K (rEqA K) fEq := fun F H v u d d' Q R fh h1 h2 hf ha => by
  unfold fEq at hf
  split at hf
  · rw [h1.int, h2.int]
    exact .inl ⟨rfl, by rw [dec_int]; exact ha.bl fh hf⟩
  · rw [h1.str, h2.str]
    exact .inl ⟨rfl, by rw [dec_str]; exact ha.bl fh hf⟩
  · rw [h1.bl, h2.bl]
    exact .inl ⟨rfl, by rw [dec_bl]; exact ha.bl fh hf⟩
  · obtain ⟨c1, c2, q⟩ := hf
    exact .inr ⟨d.py, d'.py, Rep.dp c1.1 (h1.rep fh), Rep.dp c2.1 (h2.rep fh), c1.2, c2.2, ha.bl fh q⟩
theorem pr_ne {K : PySem.W.Frag} : Pr2 K (rNeA K) fNe := fun F H v u d d' Q R fh h1 h2 hf ha => by
  unfold fNe at hf
  split at hf
  · rw [h1.int, h2.int]
    exact .inl ⟨rfl, by rw [dec_int]; exact ha.bl fh hf⟩
  · rw [h1.str, h2.str]
    exact .inl ⟨rfl, by rw [dec_str]; exact ha.bl fh hf⟩
  · rw [h1.bl, h2.bl]
    exact .inl ⟨rfl, by rw [dec_bl]; exact ha.bl fh hf⟩
  · obtain ⟨c1, c2, q⟩ := hf
    exact .inr ⟨d.py, d'.py, Rep.dp c1.1 (h1.rep fh), Rep.dp c2.1 (h2.rep fh), c1.2, c2.2, ha.bl fh q⟩
def fCmp (p : Int → Int → Bool) : D → D → (Sl → Prop) → Prop
  | .int i, .int j, Q => Q (.ext (.bl (p i j)))
  | _, _, _ => False
theorem pr_cmp {K : PySem.W.Frag} {p : Int → Int → Bool} : Pr2 K (rI0 fun i j => .bl (p i j)) (fCmp p) := fun F H v u d d' Q R fh h1 h2 hf ha => by
  unfold fCmp at hf
  split at hf
  · exact ⟨_, _, h1.int, h2.int, ha.bl fh hf⟩
  · exact hf.elim
def D.flat : D → Bool
  | .non => true
  | .bl _ => true
  | .int _ => true
  | .str _ => true
  | _ => false
def D.toV : D → V
  | .non => .non
  | .bl b => .bl b
  | .int i => .int i
  | .str x => .str x
  | .val v => v
  | _ => .non
def D.isIn (x : D) (xs : List D) : Bool := inV x.toV (xs.map D.toV)
def fIn (neg : Bool) : D → D → (Sl → Prop) → Prop
  | d, .lst ds, Q => d.flat = true ∧ ds.all D.flat = true ∧ Q (.ext (.bl (if neg then !d.isIn ds else d.isIn ds)))
  | d, .tup ds, Q => d.flat = true ∧ ds.all D.flat = true ∧ Q (.ext (.bl (if neg then !d.isIn ds else d.isIn ds)))
  | _, _, _ => False
theorem flat_rep {K : PySem.W.Frag} {F : Hp} {d : D} {v : V} (h : Rep K F d v) (f : d.flat = true) : v = d.toV ∧ flatV v = true := by
  cases d with
  | non =>
    have e : v = .non := h
    rw [e]
    exact ⟨rfl, rfl⟩
  | bl b =>
    have e : v = .bl b := h
    rw [e]
    exact ⟨rfl, rfl⟩
  | int b =>
    have e : v = .int b := h
    rw [e]
    exact ⟨rfl, rfl⟩
  | str b =>
    have e : v = .str b := h
    rw [e]
    exact ⟨rfl, rfl⟩
  | val u => exact nomatch f
  | lst ds => exact nomatch f
  | fz ds => exact nomatch f
  | tup ds => exact nomatch f
  | tk ds => exact nomatch f
  | exc c => exact nomatch f
  | glo c => exact nomatch f
  | dk _ _ => exact nomatch f
  | dt _ _ => exact nomatch f
theorem flat_reps {K : PySem.W.Frag} {F : Hp} : ∀ {ds : List D} {vs : List V}, Reps K F ds vs → ds.all D.flat = true → vs = ds.map D.toV ∧ vs.all flatV = true
  | [], _, h, _ => by
    have e : _ = [] := h
    rw [e]
    exact ⟨rfl, rfl⟩
  | d :: ds, _, h, f => by
    obtain ⟨v, r, rfl, h1, h2⟩ := h
    rw [List.all_cons, Bool.and_eq_true] at f
    obtain ⟨e1, f1⟩ := flat_rep h1 f.1
    obtain ⟨e2, f2⟩ := flat_reps h2 f.2
    rw [List.all_cons, f1, f2, List.map_cons, ← e1, ← e2]
    exact ⟨rfl, rfl⟩
theorem pr_in {K : PySem.W.Frag} (neg : Bool) : Pr2 K (rIn K neg) (fIn neg) := fun F H v u d d' Q R fh h1 h2 hf ha => by
  unfold fIn at hf
  split at hf
  · rename_i ds
    obtain ⟨b, us, rfl, e2, r2⟩ := h2.lst fh
    obtain ⟨f1, f2, q⟩ := hf
    obtain ⟨x1, x2⟩ := flat_rep (h1.rep fh) f1
    obtain ⟨y1, y2⟩ := flat_reps r2 f2
    refine ⟨b, us, rfl, .inl (SqL.of e2), x2, y2, ?_⟩
    rw [x1, y1]
    exact ha.bl fh q
  · rename_i ds
    obtain ⟨b, us, rfl, e2, _, r2⟩ := h2.tup fh
    obtain ⟨f1, f2, q⟩ := hf
    obtain ⟨x1, x2⟩ := flat_rep (h1.rep fh) f1
    obtain ⟨y1, y2⟩ := flat_reps r2 f2
    refine ⟨b, us, rfl, .inr e2, x2, y2, ?_⟩
    rw [x1, y1]
    exact ha.bl fh q
  · exact hf.elim
section
variable {G : GG} {N : List Str} {sc : SC} {k : Nat} {a b c : Expr} {ta tb tc : DT} {pos : Pos}
def CmpR (op : CmpOp) (f : D → D → (Sl → Prop) → Prop) : Prop := ∃ r : PySem.W.Frag → R2, (∀ K, Pr2 K (r K) f) ∧ ∀ X : Cx, X.A.units + 64 < cLine → OpR X (compareOp op) (r X.K)
theorem c_eq : CmpR .Eq fEq := ⟨rEqA, fun _ => pr_eq, fun _ h => op_eq.or (op_eqD h)⟩
theorem c_ne : CmpR .NotEq fNe := ⟨rNeA, fun _ => pr_ne, fun _ h => op_ne.or (op_neD h)⟩
theorem c_lt : CmpR .Lt (fCmp fun i j => decide (i < j)) := ⟨fun _ => _, fun _ => pr_cmp, fun _ _ => op_lt⟩
theorem c_le : CmpR .LtE (fCmp fun i j => decide (i ≤ j)) := ⟨fun _ => _, fun _ => pr_cmp, fun _ _ => op_le⟩
theorem c_gt : CmpR .Gt (fCmp fun i j => decide (j < i)) := ⟨fun _ => _, fun _ => pr_cmp, fun _ _ => op_gt⟩
theorem c_ge : CmpR .GtE (fCmp fun i j => decide (j ≤ i)) := ⟨fun _ => _, fun _ => pr_cmp, fun _ _ => op_ge⟩
theorem c_in : CmpR .In (fIn false) := ⟨fun K => rIn K false, fun _ => pr_in false, fun _ _ => op_in_seq⟩
def D.knN : D → Bool
  | .val _ => false
  | _ => true
def D.isNon : D → Bool
  | .non => true
  | _ => false
def fIsN : D → D → (Sl → Prop) → Prop
  | d, .non, Q => d.knN = true ∧ Q (.ext (.bl d.isNon))
  | _, _, _ => False
def fNotN : D → D → (Sl → Prop) → Prop
  | d, .non, Q => d.knN = true ∧ Q (.ext (.bl (!d.isNon)))
  | _, _, _ => False
theorem de_cmp {op : CmpOp} {f : D → D → (Sl → Prop) → Prop} (hr : CmpR op f) (ha : DE G N sc k a ta) (hb : DE G N sc k b tb) (hm : behindInMarks op b = false := by first | exact nomark _ | rfl) : DE G N sc k (.Compare a [op] [b] pos) (dOp f ta tb) :=
  ⟨fun W => by
    obtain ⟨r, h1, h2⟩ := hr
    obtain ⟨te, p1, i1⟩ := ha.ex W
    obtain ⟨tf, p2, i2⟩ := hb.ex W
    exact ⟨tOp (r G.K) te tf, fun X S => pe_cmpR (by rw [← S.K]; exact h2 X S.units) (p1 X S) (p2 X S) hm, im_op (h1 _) i1 i2⟩⟩
def dTest (t : DT) : DTT := fun Ex env Q => t Ex env fun x env1 => match x with
  | .ext (.bl b) => Q b env1
  | _ => False
theorem imT_of {K : PySem.W.Frag} {W : WX} {te : TE} {t : DT} {tt : TT} (h : Im K W te t) (hs : ∀ σ H Q, te σ H (fun x H1 => ∃ c, x = .bl c ∧ Q c H1) → tt σ H Q) : ImT K W tt (dTest t) := fun e Ex hl env T F σ H Q R hh ht hR => by
  refine hs _ _ _ (h e Ex hl env T F σ H _ _ hh ht fun v H1 F1 env1 x hh1 q1 => ?_)
  cases x with
  | ext d =>
    cases d with
    | bl b => exact ⟨b, hh1.temps (v, .ext (.bl b)) List.mem_cons_self, hR b H1 F1 env1 hh1.pop q1⟩
    | _ => exact q1.elim
  | _ => exact q1.elim
theorem dt_cmp {op : CmpOp} {f : D → D → (Sl → Prop) → Prop} (hr : CmpR op f) (ha : DE G N sc k a ta) (hb : DE G N sc k b tb) (hm : behindInMarks op b = false := by first | exact nomark _ | rfl) : DTe G N sc k (.Compare a [op] [b] pos) (dTest (dOp f ta tb)) :=
  ⟨fun W => by
    obtain ⟨r, h1, h2⟩ := hr
    obtain ⟨te, p1, i1⟩ := ha.ex W
    obtain ⟨tf, p2, i2⟩ := hb.ex W
    exact ⟨tTest (tOp (r G.K) te tf), fun X S => pt_cmpR (by rw [← S.K]; exact h2 X S.units) (p1 X S) (p2 X S) hm, imT_of (im_op (h1 _) i1 i2) fun _ _ _ h => h⟩⟩
theorem dt_val {e : Expr} {t : DT} (h : DE G N sc k e t) (he : ∀ env whole, isTrue e env whole = (do let v ← whole; standAt e.pos; holding [v] (truthy v)) := by intro _ _; rfl) : DTe G N sc k e (dTest t) :=
  ⟨fun W => by
    obtain ⟨te, p1, i1⟩ := h.ex W
    exact ⟨tB te, fun X S => pt_val (p1 X S) (he _), imT_of i1 fun _ _ _ h => h⟩⟩
def dChain (f f' : D → D → (Sl → Prop) → Prop) (ta tb tc : DT) : DT := fun Ex env Q => ta Ex env fun x env1 => tb Ex env1 fun y env2 => wd env2 x fun d => wd env2 y fun d' => f d d' fun z => match z with
  | .ext (.bl true) => tc Ex env2 fun w env3 => wd env3 y fun d1 => wd env3 w fun d2 => f' d1 d2 fun sl => Q sl env3
  | .ext (.bl false) => Q (.ext (.bl false)) env2
  | _ => False
theorem de_chain {op op' : CmpOp} {f f' : D → D → (Sl → Prop) → Prop} (hr : CmpR op f) (hr' : CmpR op' f') (ha : DE G N sc k a ta) (hb : DE G N sc k b tb) (hc : DE G N sc k c tc)
    (hm : lastMarks [op, op'] [b, c] = false := by with_unfolding_all rfl) : DE G N sc k (.Compare a [op, op'] [b, c] pos) (dChain f f' ta tb tc) :=
  ⟨fun W => by
    obtain ⟨r, h1, h2⟩ := hr
    obtain ⟨r', h1', h2'⟩ := hr'
    obtain ⟨te, p1, i1⟩ := ha.ex W
    obtain ⟨tf, p2, i2⟩ := hb.ex W
    obtain ⟨tg, p3, i3⟩ := hc.ex W
    refine ⟨tChain (r G.K) (r' G.K) te tf tg, fun X S => pe_chain (by rw [← S.K]; exact h2 X S.units) (by rw [← S.K]; exact h2' X S.units) (p1 X S) (p2 X S) (p3 X S) hm, fun e Ex hl env T F σ H Q R hh ht hR => ?_⟩
    refine i1 e Ex hl env T F σ H _ _ hh ht fun v H1 F1 env1 x hh1 q1 => ?_
    refine i2 e Ex hl env1 _ F1 σ H1 _ _ hh1 q1 fun u H2 F2 env2 y hh2 q2 => ?_
    obtain ⟨d, rd, q3⟩ := hh2.wd (v := v) (sl := x) (List.mem_cons_of_mem _ List.mem_cons_self) q2
    obtain ⟨d', rd', q4⟩ := hh2.wd (v := u) (sl := y) List.mem_cons_self q3
    refine h1 _ F2 H2 v u d d' _ _ hh2.fh rd rd' q4 fun z F3 H3 sl g ok own q5 => ?_
    have hh3 := hh2.push g ok own
    cases sl with
    | ext dz =>
      cases dz with
      | bl bb =>
        refine ⟨bb, hh3.temps (z, .ext (.bl bb)) List.mem_cons_self, ?_⟩
        cases bb with
        | true =>
          rw [if_pos rfl]
          refine i3 e Ex hl env2 _ F3 σ H3 _ _ hh3.pop q5 fun w H4 F4 env4 x4 hh4 q6 => ?_
          obtain ⟨d1, rd1, q7⟩ := hh4.wd (v := u) (sl := y) (List.mem_cons_of_mem _ List.mem_cons_self) q6
          obtain ⟨d2, rd2, q8⟩ := hh4.wd (v := w) (sl := x4) List.mem_cons_self q7
          exact h1' _ F4 H4 u w d1 d2 _ R hh4.fh rd1 rd2 q8 (hh4.pop.pop.pop.done hR)
        | false =>
          rw [if_neg Bool.false_ne_true]
          exact hR (.bl false) H3 F3 env2 (.ext (.bl false)) (hh3.pop.pop.pop.pushE rfl) q5
      | _ => exact q5.elim
    | _ => exact q5.elim⟩
def dAnd (t u : DTT) : DTT := fun Ex env Q => t Ex env fun b env1 => if b = true then u Ex env1 Q else Q false env1
def dOr (t u : DTT) : DTT := fun Ex env Q => t Ex env fun b env1 => if b = true then Q true env1 else u Ex env1 Q
def dNot (t : DTT) : DTT := fun Ex env Q => t Ex env fun b env1 => Q (!b) env1
structure DWe (G : GG) (N : List Str) (sc : SC) (k : Nat) (e : Expr) (t : DTT) : Prop where
  ex : ∀ W : WX, ∃ te, (∀ X, Sit G N sc W k X → PW X e te) ∧ ImT G.K W te t
variable {rest : List Expr} {t u : DTT}
theorem imT_or {K : PySem.W.Frag} {W : WX} {te tf : TT} (h : ImT K W te t) (g : ImT K W tf u) : ImT K W (tOr te tf) (dOr t u) := fun e Ex hl env T F σ H Q R hh ht hR => by
  refine h e Ex hl env T F σ H _ _ hh ht fun b H1 F1 env1 hh1 q1 => ?_
  cases b with
  | true =>
    rw [if_pos rfl] at q1 ⊢
    exact hR true H1 F1 env1 hh1 q1
  | false =>
    rw [if_neg Bool.false_ne_true] at q1 ⊢
    exact g e Ex hl env1 T F1 σ H1 _ _ hh1 q1 hR
theorem dw_or1 (h : DTe G N sc k a t) : DWe G N sc k (.BoolOp .Or [a] pos) t := ⟨fun W => by
  obtain ⟨te, p1, i1⟩ := h.ex W
  exact ⟨te, fun X S => pw_or1 (p1 X S), i1⟩⟩
theorem dw_or (h : DTe G N sc k a t) (g : DWe G N sc k (.BoolOp .Or (b :: rest) pos) u) : DWe G N sc k (.BoolOp .Or (a :: b :: rest) pos) (dOr t u) := ⟨fun W => by
  obtain ⟨te, p1, i1⟩ := h.ex W
  obtain ⟨tf, p2, i2⟩ := g.ex W
  exact ⟨tOr te tf, fun X S => pw_or (p1 X S) (p2 X S), imT_or i1 i2⟩⟩
theorem DWe.te {e : Expr} (h : DWe G N sc k e t) : DTe G N sc k e t := ⟨fun W => by
  obtain ⟨te, p1, i1⟩ := h.ex W
  exact ⟨te, fun X S => (p1 X S).pt, i1⟩⟩
theorem dt_not (h : DTe G N sc k a t) : DTe G N sc k (.UnaryOp .Not a pos) (dNot t) := ⟨fun W => by
  obtain ⟨te, p1, i1⟩ := h.ex W
  exact ⟨tNot te, fun X S => pt_not (p1 X S), fun e Ex hl env T F σ H Q R hh ht hR => i1 e Ex hl env T F σ H _ _ hh ht fun b H1 F1 env1 hh1 q1 => hR (!b) H1 F1 env1 hh1 q1⟩⟩
def dAndV (ta tb : DT) : DT := fun Ex env Q => ta Ex env fun x env1 => match x with
  | .ext (.bl true) => tb Ex env1 Q
  | .ext (.bl false) => Q (.ext (.bl false)) env1
  | _ => False
def dOrV (ta tb : DT) : DT := fun Ex env Q => ta Ex env fun x env1 => match x with
  | .ext (.bl false) => tb Ex env1 Q
  | .ext (.bl true) => Q (.ext (.bl true)) env1
  | _ => False
def dNotV (ta : DT) : DT := fun Ex env Q => ta Ex env fun x env1 => match x with
  | .ext (.bl b) => Q (.ext (.bl (!b))) env1
  | _ => False
theorem de_one {op} {t : DT} (h : DE G N sc k a t) : DE G N sc k (.BoolOp op [a] pos) t := ⟨fun W => by
  obtain ⟨te, p1, i1⟩ := h.ex W
  exact ⟨te, fun X S => pe_one (p1 X S), i1⟩⟩
theorem de_and (h : DE G N sc k a ta) (g : DE G N sc k (.BoolOp .And (b :: rest) pos) tb) : DE G N sc k (.BoolOp .And (a :: b :: rest) pos) (dAndV ta tb) := ⟨fun W => by
  obtain ⟨te, p1, i1⟩ := h.ex W
  obtain ⟨tf, p2, i2⟩ := g.ex W
  refine ⟨tAndV te tf, fun X S => pe_and (p1 X S) (p2 X S), fun e Ex hl env T F σ H Q R hh ht hR => ?_⟩
  refine i1 e Ex hl env T F σ H _ _ hh ht fun v H1 F1 env1 x hh1 q1 => ?_
  cases x with
  | ext d =>
    cases d with
    | bl bb =>
      refine ⟨bb, hh1.temps (v, .ext (.bl bb)) List.mem_cons_self, ?_⟩
      cases bb with
      | true =>
        rw [if_pos rfl]
        exact i2 e Ex hl env1 T F1 σ H1 _ _ hh1.pop q1 hR
      | false =>
        rw [if_neg Bool.false_ne_true]
        exact hR (.bl false) H1 F1 env1 (.ext (.bl false)) (hh1.pop.pushE rfl) q1
    | _ => exact q1.elim
  | _ => exact q1.elim⟩
theorem de_or (h : DE G N sc k a ta) (g : DE G N sc k (.BoolOp .Or (b :: rest) pos) tb) : DE G N sc k (.BoolOp .Or (a :: b :: rest) pos) (dOrV ta tb) := ⟨fun W => by
  obtain ⟨te, p1, i1⟩ := h.ex W
  obtain ⟨tf, p2, i2⟩ := g.ex W
  refine ⟨tOrV te tf, fun X S => pe_or (p1 X S) (p2 X S), fun e Ex hl env T F σ H Q R hh ht hR => ?_⟩
  refine i1 e Ex hl env T F σ H _ _ hh ht fun v H1 F1 env1 x hh1 q1 => ?_
  cases x with
  | ext d =>
    cases d with
    | bl bb =>
      refine ⟨bb, hh1.temps (v, .ext (.bl bb)) List.mem_cons_self, ?_⟩
      cases bb with
      | false =>
        rw [if_neg Bool.false_ne_true]
        exact i2 e Ex hl env1 T F1 σ H1 _ _ hh1.pop q1 hR
      | true =>
        rw [if_pos rfl]
        exact hR (.bl true) H1 F1 env1 (.ext (.bl true)) (hh1.pop.pushE rfl) q1
    | _ => exact q1.elim
  | _ => exact q1.elim⟩
theorem de_not (h : DE G N sc k a ta) : DE G N sc k (.UnaryOp .Not a pos) (dNotV ta) := ⟨fun W => by
  obtain ⟨te, p1, i1⟩ := h.ex W
  refine ⟨tNotV te, fun X S => pe_not (p1 X S), fun e Ex hl env T F σ H Q R hh ht hR => ?_⟩
  refine i1 e Ex hl env T F σ H _ _ hh ht fun v H1 F1 env1 x hh1 q1 => ?_
  cases x with
  | ext d =>
    cases d with
    | bl bb => exact ⟨bb, hh1.temps (v, .ext (.bl bb)) List.mem_cons_self, hR _ H1 F1 env1 (.ext (.bl (!bb))) (hh1.pop.pushE rfl) q1⟩
    | _ => exact q1.elim
  | _ => exact q1.elim⟩
def dIf (t : DTT) (ta tb : DT) : DT := fun Ex env Q => t Ex env fun b env1 => if b = true then ta Ex env1 Q else tb Ex env1 Q
theorem de_if {t : DTT} (hc : DTe G N sc k c t) (ha : DE G N sc k a ta) (hb : DE G N sc k b tb) : DE G N sc k (.IfExp c a b pos) (dIf t ta tb) := ⟨fun W => by
  obtain ⟨tc, p0, i0⟩ := hc.ex W
  obtain ⟨te, p1, i1⟩ := ha.ex W
  obtain ⟨tf, p2, i2⟩ := hb.ex W
  refine ⟨tIf tc te tf, fun X S => pe_ifExp (p0 X S) (p1 X S) (p2 X S), fun e Ex hl env T F σ H Q R hh ht hR => ?_⟩
  refine i0 e Ex hl env T F σ H _ _ hh ht fun bb H1 F1 env1 hh1 q1 => ?_
  cases bb with
  | true =>
    rw [if_pos rfl] at q1 ⊢
    exact i1 e Ex hl env1 T F1 σ H1 _ _ hh1 q1 hR
  | false =>
    rw [if_neg Bool.false_ne_true] at q1 ⊢
    exact i2 e Ex hl env1 T F1 σ H1 _ _ hh1 q1 hR⟩
def froz (env : Env') : Sl → (D → Prop) → Prop
  | .ext d, q => q d
  | .lst _ ds, q => q (.lst ds)
  | _, _ => False
def frozs (env : Env') : List Sl → (List D → Prop) → Prop
  | [], q => q []
  | s :: ss, q => froz env s fun d => frozs env ss fun ds => q (d :: ds)
theorem Holds.froz1 {K : PySem.W.Frag} {e : Ent} {env : Env'} {T : Tmp} {F : Hp} {σ : St} {H : Hp} {v : V} {sl : Sl} {q : D → Prop} (h : Holds K e env ((v, sl) :: T) F σ H) (w : froz env sl q) : ∃ d F1, Same F F1 ∧ Holds K e env T F1 σ H ∧ Rep K F1 d v ∧ q d := by
  cases sl with
  | un => exact w.elim
  | reg _ _ => exact w.elim
  | ar _ _ => exact w.elim
  | al i a => exact w.elim
  | ext d => exact ⟨d, F, Same.refl _, h.pop, h.temps (v, .ext d) List.mem_cons_self, w⟩
  | lst a ds =>
    obtain ⟨F1, sm, h1⟩ := h.freezeT
    exact ⟨.lst ds, F1, sm, h1.pop, h1.temps (v, .ext (.lst ds)) List.mem_cons_self, w⟩
theorem Holds.frozs {K : PySem.W.Frag} {e : Ent} {env : Env'} {T : Tmp} {σ : St} {H : Hp} : ∀ {vs : List V} {xs : List Sl} {q : List D → Prop} {F : Hp}, vs.length = xs.length → Holds K e env (vs.zip xs ++ T) F σ H → HD.frozs env xs q → ∃ ds F1, Same F F1 ∧ Holds K e env T F1 σ H ∧ Reps K F1 ds vs ∧ q ds
  | [], [], q, F, _, h, w => ⟨[], F, Same.refl _, h, rfl, w⟩
  | [], _ :: _, _, _, e, _, _ => by cases e
  | _ :: _, [], _, _, e, _, _ => by cases e
  | v :: vs, x :: xs, q, F, le, h, w => by
    obtain ⟨d, F1, sm, h1, r1, w1⟩ := h.froz1 w
    obtain ⟨ds, F2, sm2, h2, r2, w2⟩ := Holds.frozs (vs := vs) (xs := xs) (by simpa using le) h1 w1
    exact ⟨d :: ds, F2, sm.trans sm2, h2, ⟨v, vs, rfl, Rep.same sm2 r1, r2⟩, w2⟩
def frzD (env : Env') : Sl → (D → Env' → Prop) → Prop
  | .ext d, q => q d env
  | .lst _ ds, q => q (.lst ds) env
  | .al i a, q => match env[i]? with
    | some (.lst b ds) => b = a ∧ q (.lst ds) (env.set i (.ext (.lst ds)))
    | some (.ext (.lst ds)) => False
    | _ => False
  | .un, _ => False
  | .reg _ _, _ => False
  | .ar _ _, _ => False
def frzDs (env : Env') : List Sl → (List D → Env' → Prop) → Prop
  | [], q => q [] env
  | s :: ss, q => frzD env s fun d env1 => frzDs env1 ss fun ds env2 => q (d :: ds) env2
theorem Holds.frz1 {K : PySem.W.Frag} {e : Ent} {env : Env'} {T : Tmp} {F : Hp} {σ : St} {H : Hp} {v : V} {sl : Sl} {q : D → Env' → Prop} (h : Holds K e env ((v, sl) :: T) F σ H) (w : frzD env sl q) : ∃ d F1 env', Same F F1 ∧ Holds K e env' T F1 σ H ∧ Rep K F1 d v ∧ q d env' := by
  cases sl with
  | un => exact w.elim
  | reg _ _ => exact w.elim
  | ar _ _ => exact w.elim
  | ext d => exact ⟨d, F, env, Same.refl _, h.pop, h.temps (v, .ext d) List.mem_cons_self, w⟩
  | lst a ds =>
    obtain ⟨F1, sm, h1⟩ := h.freezeT
    exact ⟨.lst ds, F1, env, sm, h1.pop, h1.temps (v, .ext (.lst ds)) List.mem_cons_self, w⟩
  | al i a =>
    have ev : v = .ref a := h.temps (v, .al i a) List.mem_cons_self
    have w' : (match env[i]? with | some (.lst b ds) => b = a ∧ q (.lst ds) (env.set i (.ext (.lst ds))) | some (.ext (.lst ds)) => False | _ => False) := w
    split at w'
    · rename_i b ds hb
      obtain ⟨rfl, w'⟩ := w'
      obtain ⟨F1, sm, h1⟩ := h.pop.freeze hb
      refine ⟨.lst ds, F1, _, sm, h1, ?_, w'⟩
      have hi : i < env.length := (List.getElem?_eq_some_iff.mp hb).1
      rcases h.slots i _ hb with z | ⟨u, hu, e1, _⟩
      · cases z
      · rcases h1.slots i (.ext (.lst ds)) (by rw [List.getElem?_set, if_pos rfl, if_pos hi]) with z | ⟨u', hu', ok⟩
        · cases z
        · rw [hu] at hu'
          cases hu'
          rw [ev, ← e1]
          exact ok
    · exact w'.elim
    · exact w'.elim
theorem Holds.frzs {K : PySem.W.Frag} {e : Ent} {T : Tmp} {σ : St} {H : Hp} : ∀ {vs : List V} {xs : List Sl} {q : List D → Env' → Prop} {F : Hp} {env : Env'}, vs.length = xs.length → Holds K e env (vs.zip xs ++ T) F σ H → HD.frzDs env xs q → ∃ ds F1 env', Same F F1 ∧ Holds K e env' T F1 σ H ∧ Reps K F1 ds vs ∧ q ds env'
  | [], [], q, F, env, _, h, w => ⟨[], F, env, Same.refl _, h, rfl, w⟩
  | [], _ :: _, _, _, _, e, _, _ => by cases e
  | _ :: _, [], _, _, _, e, _, _ => by cases e
  | v :: vs, x :: xs, q, F, env, le, h, w => by
    obtain ⟨d, F1, env1, sm, h1, r1, w1⟩ := h.frz1 w
    obtain ⟨ds, F2, env2, sm2, h2, r2, w2⟩ := Holds.frzs (vs := vs) (xs := xs) (by simpa using le) h1 w1
    exact ⟨d :: ds, F2, env2, sm.trans sm2, h2, ⟨v, vs, rfl, Rep.same sm2 r1, r2⟩, w2⟩
def dTup (t : DTA) : DT := fun Ex env Q => t Ex env fun xs env1 => xs.length ≤ sizeLine ∧ frzDs env1 xs fun ds env2 => Q (.ext (.tup ds)) env2
def dLst (t : DTA) : DT := fun Ex env Q => t Ex env fun xs env1 => xs.length ≤ sizeLine ∧ frzDs env1 xs fun ds env2 => ∀ a, Q (.lst a ds) env2
variable {es : List Expr} {tA : DTA}
theorem de_tup {x1} (h : DAs G N sc k es tA) : DE G N sc k (.Tuple es x1 pos) (dTup tA) := ⟨fun W => by
  obtain ⟨te, p1, i1⟩ := h.ex W
  refine ⟨tTupF te, fun X S => pe_tupF (p1 X S), fun e Ex hl env T F σ H Q R hh ht hR => ?_⟩
  refine i1 e Ex hl env T F σ H _ _ hh ht fun vs H1 F1 env1 xs le hh1 q1 => ⟨by rw [le]; exact q1.1, ?_⟩
  obtain ⟨ds, F2, env2, sm, hh2, r2, q2⟩ := hh1.frzs le q1.2
  exact (hh2.done hR).tup hh2.fh r2 q2⟩
theorem de_lst (h : DAs G N sc k es tA) : DE G N sc k (.List es pos) (dLst tA) := ⟨fun W => by
  obtain ⟨te, p1, i1⟩ := h.ex W
  refine ⟨tLst te, fun X S => pe_lst (p1 X S), fun e Ex hl env T F σ H Q R hh ht hR => ?_⟩
  refine i1 e Ex hl env T F σ H _ _ hh ht fun vs H1 F1 env1 xs le hh1 q1 => ⟨by rw [le]; exact q1.1, fun p n => ?_⟩
  obtain ⟨ds, F2, env2, sm, hh2, r2, q2⟩ := hh1.frzs le q1.2
  exact (hh2.done hR).lst hh2.fh n r2 (q2 p)⟩
def fIx : D → D → (Sl → Prop) → Prop
  | .lst ds, .int i, Q => ∃ d, atI ds i = some d ∧ Q (.ext d)
  | .tup ds, .int i, Q => ∃ d, atI ds i = some d ∧ Q (.ext d)
  | .tk ds, .int i, Q => ∃ d, atI ds i = some d ∧ Q (.ext d)
  | .fz ds, .int i, Q => ∃ d, atI ds i = some d ∧ Q (.ext d)
  | .str z, .int i, Q => z.length ≤ sizeLine ∧ ∃ c, atI z.cps.toList i = some c ∧ Q (.ext (.str ⟨#[c]⟩))
  | _, _, _ => False
theorem Reps.atI {K : PySem.W.Frag} {F : Hp} {ds : List D} {vs : List V} {i : Int} {d : D} (h : Reps K F ds vs) (e : L2.atI ds i = some d) : ∃ v, L2.atI vs i = some v ∧ Rep K F d v := by
  unfold L2.atI at e ⊢
  rw [← h.length]
  cases q : ixN ds.length i with
  | none =>
    rw [q] at e
    cases e
  | some j =>
    rw [q] at e
    exact h.get e
theorem pr_ix {K : PySem.W.Frag} : Pr2 K (rIx K) fIx := fun F H v u d d' Q R fh h1 h2 hf ha => by
  unfold fIx at hf
  split at hf
  · obtain ⟨a, vs, rfl, e1, r1⟩ := h1.lst fh
    obtain ⟨d, e, q⟩ := hf
    obtain ⟨w, e', r⟩ := r1.atI e
    exact .inl ⟨a, vs, _, w, rfl, h2.int, SqL.of e1, e', ha.ext fh r q⟩
  · obtain ⟨a, vs, rfl, e1, _, r1⟩ := h1.tup fh
    obtain ⟨d, e, q⟩ := hf
    obtain ⟨w, e', r⟩ := r1.atI e
    exact .inr (.inl ⟨a, vs, _, w, rfl, h2.int, e1, e', ha.ext fh r q⟩)
  · obtain ⟨a, vs, rfl, e1, _, r1⟩ := h1.tk fh
    obtain ⟨d, e, q⟩ := hf
    obtain ⟨w, e', r⟩ := r1.atI e
    exact .inr (.inl ⟨a, vs, _, w, rfl, h2.int, e1, e', ha.ext fh r q⟩)
  · obtain ⟨a, vs, rfl, e1, r1⟩ := h1.fz fh
    obtain ⟨d, e, q⟩ := hf
    obtain ⟨w, e', r⟩ := r1.atI e
    exact .inl ⟨a, vs, _, w, rfl, h2.int, e1, e', ha.ext fh r q⟩
  · obtain ⟨hz, c, e, q⟩ := hf
    exact .inr (.inr ⟨_, _, c, h1.str, h2.int, hz, e, ha.str fh q⟩)
  · exact hf.elim
theorem de_ix (ha : DE G N sc k a ta) (hb : DE G N sc k b tb) (hs : PlainIx b := by intro _ _; rfl) : DE G N sc k (.Subscript a b pos) (dOp fIx ta tb) := ⟨fun W => by
  obtain ⟨te, p1, i1⟩ := ha.ex W
  obtain ⟨tf, p2, i2⟩ := hb.ex W
  exact ⟨tOp (rIx G.K) te tf, fun X S => pe_ix (by rw [← S.K]; exact ix_seq) (p1 X S) (p2 X S) hs, im_op pr_ix i1 i2⟩⟩
abbrev DTO := DX → Env' → (Option Int → Env' → Prop) → Prop
def ImO (K : PySem.W.Frag) (W : WX) (to : TO) (t : DTO) : Prop :=
  ∀ (e : Ent) (Ex : DX), Link K e W Ex → ∀ (env : Env') (T : Tmp) (F : Hp) (σ : St) (H : Hp) (Q : Option Int → Env' → Prop) (R : Option Int → Hp → Prop),
    Holds K e env T F σ H → t Ex env Q → (∀ o H' F' env', Holds K e env' T F' σ H' → Q o env' → R o H') → to σ H R
structure DO' (G : GG) (N : List Str) (sc : SC) (k : Nat) (e : Option Expr) (t : DTO) : Prop where
  ex : ∀ W : WX, ∃ te, (∀ X, Sit G N sc W k X → PO X e te) ∧ ImO G.K W te t
def dNoPart : DTO := fun _ env Q => Q none env
def dPart (t : DT) : DTO := fun Ex env Q => t Ex env fun x env1 => match x with
  | .ext (.int i) => Q (some i) env1
  | _ => False
theorem do_none : DO' G N sc k none dNoPart := ⟨fun W => ⟨tNoPart, fun X S => po_none, fun e Ex hl env T F σ H Q R hh ht hR => hR none H F env hh ht⟩⟩
theorem do_some (h : DE G N sc k a ta) : DO' G N sc k (some a) (dPart ta) := ⟨fun W => by
  obtain ⟨te, p1, i1⟩ := h.ex W
  refine ⟨tPart te, fun X S => po_some (p1 X S), fun e Ex hl env T F σ H Q R hh ht hR => ?_⟩
  refine i1 e Ex hl env T F σ H _ _ hh ht fun v H1 F1 env1 x hh1 q1 => ?_
  cases x with
  | ext d =>
    cases d with
    | int i => exact ⟨i, hh1.temps (v, .ext (.int i)) List.mem_cons_self, hR (some i) H1 F1 env1 hh1.pop q1⟩
    | _ => exact q1.elim
  | _ => exact q1.elim⟩
def cutD (xs : List D) (lo hi : Option Int) : List D := (xs.drop (HT.sIx xs.length 0 lo)).take (HT.sIx xs.length xs.length hi - HT.sIx xs.length 0 lo)
theorem Reps.cut {K : PySem.W.Frag} {F : Hp} {ds : List D} {vs : List V} (h : Reps K F ds vs) (lo hi : Option Int) : Reps K F (cutD ds lo hi) (cutV vs lo hi) := by
  unfold cutD cutV
  rw [h.length]
  exact (h.drop _).take _
def fSl (d : D) (lo hi : Option Int) (Q : Sl → Prop) : Prop := match d with
  | .lst ds => ∀ a, Q (.lst a (cutD ds lo hi))
  | .fz ds => ∀ a, Q (.lst a (cutD ds lo hi))
  | .tup ds => Q (.ext (.tup (cutD ds lo hi)))
  | _ => False
def dSl (ta : DT) (tl th : DTO) : DT := fun Ex env Q => ta Ex env fun x env1 => tl Ex env1 fun lo env2 => th Ex env2 fun hi env3 => wd env3 x fun d => fSl d lo hi fun sl => Q sl env3
theorem cut_whole {α : Type} {xs : List α} {lo hi : Option Int} (h : HT.sIx xs.length 0 lo = 0 ∧ HT.sIx xs.length xs.length hi = xs.length) : (xs.drop (HT.sIx xs.length 0 lo)).take (HT.sIx xs.length xs.length hi - HT.sIx xs.length 0 lo) = xs := by
  rw [h.1, h.2, List.drop_zero, Nat.sub_zero, List.take_length]
theorem de_slice {lo hi : Option Expr} {tl th : DTO} {p2 : Pos} (h : DE G N sc k a ta) (hl : DO' G N sc k lo tl) (hh : DO' G N sc k hi th) : DE G N sc k (.Subscript a (.Slice lo hi none p2) pos) (dSl ta tl th) := ⟨fun W => by
  obtain ⟨te, p1, i1⟩ := h.ex W
  obtain ⟨tl', p2', i2⟩ := hl.ex W
  obtain ⟨th', p3, i3⟩ := hh.ex W
  refine ⟨tSl (fun x lo hi H Q => rSlL G.K x lo hi H Q ∨ rSlF G.K x lo hi H Q) te tl' th', fun X S => pe_slice (by rw [← S.K]; exact sl_list.or sl_tupF) (p1 X S) (p2' X S) (p3 X S), fun e Ex hl env T F σ H Q R hh ht hR => ?_⟩
  refine i1 e Ex hl env T F σ H _ _ hh ht fun v H1 F1 env1 x hh1 q1 => ?_
  refine i2 e Ex hl env1 _ F1 σ H1 _ _ hh1 q1 fun lo' H2 F2 env2 hh2 q2 => ?_
  refine i3 e Ex hl env2 _ F2 σ H2 _ _ hh2 q2 fun hi' H3 F3 env3 hh3 q3 => ?_
  obtain ⟨d, rd, q4⟩ := hh3.wd (v := v) (sl := x) List.mem_cons_self q3
  have dn := hh3.pop.done hR
  cases d with
  | lst ds =>
    obtain ⟨b, vs, rfl, e1, r1⟩ := rd.lst hh3.fh
    exact .inl ⟨b, vs, rfl, SqL.of e1, fun p n => dn.lst hh3.fh n (r1.cut lo' hi') (q4 p)⟩
  | fz ds =>
    obtain ⟨b, vs, rfl, e1, r1⟩ := rd.fz hh3.fh
    exact .inl ⟨b, vs, rfl, e1, fun p n => dn.lst hh3.fh n (r1.cut lo' hi') (q4 p)⟩
  | tup ds =>
    obtain ⟨b, vs, rfl, e1, e2, r1⟩ := rd.tup hh3.fh
    refine .inr ⟨b, vs, rfl, e1, fun z => ?_, fun _ => dn.tup hh3.fh (r1.cut lo' hi') q4⟩
    refine dn.ext (d := .tup (cutD ds lo' hi')) hh3.fh ⟨b, vs, rfl, e2, ?_⟩ q4
    have q := r1.cut lo' hi'
    unfold cutV at q
    rw [cut_whole z] at q
    exact q
  | _ => exact q4.elim⟩
end
end HD
namespace HD
open PySem L2
abbrev DSpec := List Sl → (Sl → List Sl → Prop) → (Str → List Sl → Prop) → Prop
abbrev entOf (F H : Hp) (args : Env') : Ent := ⟨F, H, ownedE args⟩
def toSp (K : PySem.W.Frag) (n : Nat) (spec : DSpec) : Sp := fun vs H Q E => ∃ (F : Hp) (args : Env') (Qd : Sl → List Sl → Prop) (Xd : Str → List Sl → Prop),
  vs.length = n ∧ Holds K (entOf F H args) args [] F (vs.map some) H ∧ spec args Qd Xd ∧
  (∀ v H' F' r fin, Holds K (entOf F H args) fin [(v, r)] F' (vs.map some) H' → Qd r fin → Q v H') ∧
  (∀ c d H' F' fin, Holds K (entOf F H args) fin [] F' (vs.map some) H' → XD F' c d → Xd c fin → E (clsV K (xk c)) d H')
def rootOf : D → Option Addr
  | .val (.ref a) => some a
  | _ => none
theorem rootOf_some {d : D} {a : Addr} (h : rootOf d = some a) : d = .val (.ref a) := by
  unfold rootOf at h
  split at h
  · cases h; rfl
  · cases h
theorem rootOf_eq {d d' : D} (h : (rootOf d).isSome = true ∧ rootOf d = rootOf d') : d = d' := by
  obtain ⟨h1, h2⟩ := h
  cases e : rootOf d with
  | none => rw [e] at h1; cases h1
  | some a =>
    have e2 : rootOf d' = some a := by rw [← h2]; exact e
    rw [rootOf_some e, rootOf_some e2]
def fin1 : Sl → Option Sl → Sl
  | .ext d, _ => .ext d
  | .lst a _, some (.lst b ds) => if a = b then .lst a ds else .un
  | .reg d _, some (.reg d' cs) => if (rootOf d).isSome = true ∧ rootOf d = rootOf d' then .reg d cs else .un
  | _, _ => .un
def finals (args env : Env') : Env' := (List.range args.length).map fun i => fin1 (args.getD i .un) env[i]?
theorem finals_get {args env : Env'} {i : Nat} {sl : Sl} (h : (finals args env)[i]? = some sl) : ∃ s, args[i]? = some s ∧ sl = fin1 s env[i]? := by
  unfold finals at h
  rw [List.getElem?_map] at h
  by_cases hi : i < args.length
  · rw [List.getElem?_range hi] at h
    have e := Option.some.inj h
    refine ⟨args[i], List.getElem?_eq_getElem hi, ?_⟩
    rw [← e]
    show fin1 (args.getD i .un) _ = _
    rw [List.getD_eq_getElem?_getD, List.getElem?_eq_getElem hi]
    rfl
  · rw [List.getElem?_eq_none (by rw [List.length_range]; omega)] at h
    cases h
theorem fin1_owned (s : Sl) (o : Option Sl) : (fin1 s o).owned.Sublist ((o.getD .un).owned) := by
  cases s with
  | un => exact List.nil_sublist _
  | ext d => exact List.nil_sublist _
  | al i a => exact List.nil_sublist _
  | ar i a => exact List.nil_sublist _
  | reg d cs =>
    cases o with
    | none => exact List.nil_sublist _
    | some s' =>
      cases s' with
      | reg d' cs' =>
        show (if (rootOf d).isSome = true ∧ rootOf d = rootOf d' then Sl.reg d cs' else .un).owned.Sublist (cs'.map (·.1))
        split
        · exact List.Sublist.refl _
        · exact List.nil_sublist _
      | _ => exact List.nil_sublist _
  | lst a ds =>
    cases o with
    | none => exact List.nil_sublist _
    | some s' =>
      cases s' with
      | lst b es =>
        show (if a = b then Sl.lst a es else .un).owned.Sublist [b]
        split
        · rename_i e
          subst e
          exact List.Sublist.refl _
        · exact List.nil_sublist _
      | _ => exact List.nil_sublist _
theorem finals_owned (args env : Env') : (ownedE (finals args env)).Sublist (ownedE env) := by
  have key : ∀ (n : Nat), (ownedE ((List.range n).map fun i => fin1 (args.getD i .un) env[i]?)).Sublist (ownedE (env.take n)) := by
    intro n
    induction n with
    | zero => exact List.nil_sublist _
    | succ n ih =>
      rw [List.range_succ, List.map_append]
      unfold ownedE at ih ⊢
      rw [List.flatMap_append, List.take_add_one, List.flatMap_append]
      refine ih.append ?_
      rw [List.map_cons, List.map_nil, List.flatMap_cons, List.flatMap_nil, List.append_nil]
      refine (fin1_owned _ _).trans ?_
      cases env[n]? with
      | none => exact List.Sublist.refl _
      | some s =>
        show s.owned.Sublist ([s].flatMap Sl.owned)
        rw [List.flatMap_cons, List.flatMap_nil, List.append_nil]
        exact List.Sublist.refl _
  refine (key args.length).trans ?_
  unfold ownedE
  have z := congrArg (List.flatMap Sl.owned) (List.take_append_drop args.length env)
  rw [List.flatMap_append] at z
  rw [← z]
  exact List.sublist_append_left _ _
theorem Holds.finals {K : PySem.W.Frag} {F H F' H' : Hp} {args env : Env'} {T : Tmp} {σ' : St} {vs : List V} (h0 : Holds K (entOf F H args) args [] F (vs.map some) H) (h : Holds K (entOf F H args) env T F' σ' H') : Holds K (entOf F H args) (HD.finals args env) T F' (vs.map some) H' := by
  have sub : (ownedE (HD.finals args env) ++ ownedT T).Sublist (ownedE env ++ ownedT T) := (finals_owned args env).append (List.Sublist.refl _)
  refine ⟨h.fh, ?_, fun i sl q => ?_, h.temps, h.nd.sublist sub, h.s1, h.s2, fun a ha => h.s3 a (sub.subset ha)⟩
  · rw [← h0.len]
    unfold HD.finals
    rw [List.length_map, List.length_range]
  · obtain ⟨s, hs, rfl⟩ := finals_get q
    rcases h0.slots i s hs with z | ⟨v, hv, ok⟩
    · subst z
      exact .inl rfl
    · cases s with
      | un => exact .inl rfl
      | al j a => exact .inl rfl
      | ar j a => exact .inl rfl
      | reg d cs =>
        cases e : env[i]? with
        | none => exact .inl rfl
        | some s' =>
          cases s' with
          | reg d' cs' =>
            show (if (rootOf d).isSome = true ∧ rootOf d = rootOf d' then Sl.reg d cs' else .un) = .un ∨ ∃ v, _ ∧ SlOk K F' H' v (if (rootOf d).isSome = true ∧ rootOf d = rootOf d' then Sl.reg d cs' else .un)
            split
            · rename_i dd
              have ed := rootOf_eq dd
              subst ed
              rcases h.slots i _ e with z | ⟨w, _, ok'⟩
              · cases z
              · exact .inr ⟨v, hv, Rep.same h.s1 ok.1, ok'.2⟩
            · exact .inl rfl
          | _ => exact .inl rfl
      | ext d => exact .inr ⟨v, hv, Rep.same h.s1 ok⟩
      | lst a ds =>
        obtain ⟨rfl, _⟩ := ok
        cases e : env[i]? with
        | none => exact .inl rfl
        | some s' =>
          cases s' with
          | lst b es =>
            show (if a = b then Sl.lst a es else .un) = .un ∨ ∃ v, _ ∧ SlOk K F' H' v (if a = b then Sl.lst a es else .un)
            split
            · rename_i ab
              subst ab
              rcases h.slots i _ e with z | ⟨w, _, ok'⟩
              · cases z
              · obtain ⟨rfl, r⟩ := ok'
                exact .inr ⟨_, hv, rfl, r⟩
            · exact .inl rfl
          | _ => exact .inl rfl
mutual
def D.imm : D → Bool
  | .lst _ => false
  | .exc _ => false
  | .fz _ => false
  | .dk _ _ => false
  | .dt _ _ => false
  | .tup ds => D.imms ds
  | .tk ds => D.imms ds
  | _ => true
def D.imms : List D → Bool
  | [] => true
  | d :: ds => D.imm d && D.imms ds
end
mutual
theorem Rep.ofT {K : PySem.W.Frag} {F F' : Hp} (t : ∀ a xs, SqT K F a xs → SqT K F' a xs) (t2 : ∀ a xs, TupD K F a xs → TupD K F' a xs) : ∀ {d : D} {v : V}, d.imm = true → Rep K F d v → Rep K F' d v
  | .non, _, _, h => h
  | .bl _, _, _, h => h
  | .int _, _, _, h => h
  | .str _, _, _, h => h
  | .val _, _, _, h => h
  | .lst _, _, n, _ => nomatch n
  | .fz _, _, n, _ => nomatch n
  | .exc _, _, n, _ => nomatch n
  | .dk _ _, _, n, _ => nomatch n
  | .dt _ _, _, n, _ => nomatch n
  | .glo _, _, _, h => h
  | .tup _, _, n, h => by
    obtain ⟨a, xs, rfl, hs, hr⟩ := h
    exact ⟨a, xs, rfl, t2 _ _ hs, Reps.ofT t t2 n hr⟩
  | .tk _, _, n, h => by
    obtain ⟨a, xs, rfl, hs, hr⟩ := h
    exact ⟨a, xs, rfl, t _ _ hs, Reps.ofT t t2 n hr⟩
theorem Reps.ofT {K : PySem.W.Frag} {F F' : Hp} (t : ∀ a xs, SqT K F a xs → SqT K F' a xs) (t2 : ∀ a xs, TupD K F a xs → TupD K F' a xs) : ∀ {ds : List D} {vs : List V}, D.imms ds = true → Reps K F ds vs → Reps K F' ds vs
  | [], _, _, h => h
  | d :: ds, _, n, h => by
    obtain ⟨v, r, rfl, h1, h2⟩ := h
    have n' : (D.imm d && D.imms ds) = true := n
    rw [Bool.and_eq_true] at n'
    exact ⟨v, r, rfl, Rep.ofT t t2 n'.1 h1, Reps.ofT t t2 n'.2 h2⟩
end
def Sl.imm : Sl → Bool
  | .ext d => d.imm
  | .lst _ ds => D.imms ds
  | _ => false
section
variable {K : PySem.W.Frag} {e : Ent} {env : Env'} {T : Tmp} {F : Hp} {σ : St} {H : Hp}
structure Left (A : List Addr) (F H F' H' : Hp) : Prop where
  ff : Same F F'
  fh : Same F' H'
  out : ∀ b o, H b = some o → b ∉ A → H' b = some o ∧ (F b = none → F' b = none)
theorem SlOk.left {A : List Addr} {F' H' : Hp} {v : V} {sl : Sl} (l : Left A F H F' H') (n : ∀ a ∈ sl.owned, a ∉ A) (h : SlOk K F H v sl) : SlOk K F' H' v sl := by
  cases sl with
  | un => trivial
  | ext d => exact Rep.same l.ff h
  | al i b => exact h
  | lst b ds =>
    obtain ⟨rfl, q, us, hv, hr⟩ := h
    obtain ⟨q1, q2⟩ := l.out b _ hv (n b (List.mem_singleton.mpr rfl))
    exact ⟨rfl, q2 q, us, q1, hr.same l.ff⟩
  | ar i b => exact h
  | reg b cs =>
    obtain ⟨rd, nd, hc⟩ := h
    refine ⟨Rep.same l.ff rd, nd, fun p hp => ?_⟩
    obtain ⟨q, o', ho, ok⟩ := hc p hp
    obtain ⟨q1, q2⟩ := l.out p.1 _ ho (n p.1 (List.mem_map.mpr ⟨p, hp, rfl⟩))
    exact ⟨q2 q, o', q1, ok.same l.ff⟩
theorem Holds.left0 {F' H' : Hp} {v : V} {r : Sl} (h : Holds K e env T F σ H) (l : Left [] F H F' H') (ok : SlOk K F' H' v r) (own : ∀ a ∈ r.owned, H a = none) : Holds K e env ((v, r) :: T) F' σ H' := by
  have h1 : Holds K e env T F' σ H' := by
    refine ⟨l.fh, h.len, fun i sl q => ?_, fun p hp => (h.temps p hp).left l (fun _ _ z => nomatch z), h.nd, h.s1.trans l.ff, fun a o q n => ?_, h.s3⟩
    · rcases h.slots i sl q with z | ⟨w, hw, ok⟩
      · exact .inl z
      · exact .inr ⟨w, hw, ok.left l fun _ _ z => nomatch z⟩
    · obtain ⟨q1, q2⟩ := h.s2 a o q n
      obtain ⟨r1, r2⟩ := l.out a o q1 (fun z => nomatch z)
      exact ⟨r1, fun z => r2 (q2 z)⟩
  have old := h.ownedH
  have ndo : r.owned.Nodup := ok.ndo
  have dis : ∀ a ∈ r.owned, a ∉ ownedE env ++ ownedT T := fun a ha hb => by
    obtain ⟨_, vs, q⟩ := old a hb
    rw [own a ha] at q
    cases q
  refine ⟨h1.fh, h1.len, h1.slots, fun p hp => ?_, ?_, h1.s1, h1.s2, fun a ha => ?_⟩
  · rcases List.mem_cons.mp hp with rfl | hp
    · exact ok
    · exact h1.temps p hp
  · show (ownedE env ++ (r.owned ++ ownedT T)).Nodup
    have z := h.nd
    rw [List.nodup_append] at z ⊢
    obtain ⟨z1, z2, z3⟩ := z
    refine ⟨z1, ?_, fun a ha b hb => ?_⟩
    · rw [List.nodup_append]
      exact ⟨ndo, z2, fun a ha b hb e => dis a ha (by rw [e]; exact List.mem_append_right _ hb)⟩
    · rcases List.mem_append.mp hb with hb | hb
      · exact fun e => dis b hb (by rw [← e]; exact List.mem_append_left _ ha)
      · exact z3 a ha b hb
  · have ha' : a ∈ ownedE env ++ (r.owned ++ ownedT T) := ha
    rcases List.mem_append.mp ha' with hb | hb
    · exact h.s3 a (List.mem_append_left _ hb)
    · rcases List.mem_append.mp hb with hb | hb
      · have hn := own a hb
        cases q : e.H0 a with
        | none => exact .inr rfl
        | some o =>
          by_cases hA : a ∈ e.A0
          · exact .inl hA
          · rw [(h.s2 a o q hA).1] at hn
            cases hn
      · exact h.s3 a (List.mem_append_right _ hb)
theorem Holds.left1 {F' H' : Hp} {v : V} {r s' : Sl} {i : Nat} {a : Addr} {ds : List D} (h : Holds K e env T F σ H) (hi : env[i]? = some (.lst a ds)) (l : Left [a] F H F' H') (ok : SlOk K F' H' v r) (ok' : SlOk K F' H' (.ref a) s')
    (own : ∀ b ∈ s'.owned ++ r.owned, b = a ∨ H b = none) (nd : (s'.owned ++ r.owned).Nodup) (hp : s'.plain) : Holds K e (env.set i s') ((v, r) :: T) F' σ H' := by
  obtain ⟨hv0, hF0⟩ : (∃ w, σ[i]? = some (some w) ∧ w = .ref a) ∧ F a = none := by
    rcases h.slots i _ hi with z | ⟨w, hw, e1, e2, _⟩
    · cases z
    · exact ⟨⟨w, hw, e1⟩, e2⟩
  obtain ⟨w, hw, rfl⟩ := hv0
  -- the slot's object as a temp, then dropped: the others
  have h0 := (h.take hi hw).pop
  have hx := h.take hi hw
  have na : ∀ b ∈ ownedE (env.set i .un) ++ ownedT T, b ≠ a := fun b hb z => by
    subst z
    have nd := hx.nd
    have perm : (ownedE (env.set i .un) ++ (([b] : List Addr) ++ ownedT T)).Perm ([b] ++ (ownedE (env.set i .un) ++ ownedT T)) := by
      rw [← List.append_assoc, ← List.append_assoc]
      exact List.Perm.append_right _ List.perm_append_comm
    have nd' : ([b] ++ (ownedE (env.set i .un) ++ ownedT T)).Nodup := perm.nodup nd
    exact (List.nodup_append.mp nd').2.2 b (List.mem_singleton.mpr rfl) b hb rfl
  have h1 : Holds K e (env.set i .un) T F' σ H' := by
    refine ⟨l.fh, h0.len, fun j sl q => ?_, fun p hp => (h0.temps p hp).left l (fun b hb z => ?_), h0.nd, h0.s1.trans l.ff, fun b o q n => ?_, h0.s3⟩
    · rcases h0.slots j sl q with z | ⟨w, hw, ok⟩
      · exact .inl z
      · refine .inr ⟨w, hw, ok.left l fun b hb z => ?_⟩
        exact na b (List.mem_append_left _ (mem_ownedE q hb)) (List.mem_singleton.mp z)
    · exact na b (List.mem_append_right _ (List.mem_flatMap.mpr ⟨p, hp, hb⟩)) (List.mem_singleton.mp z)
    · obtain ⟨q1, q2⟩ := h0.s2 b o q n
      have nb : b ∉ [a] := fun z => by
        rw [List.mem_singleton.mp z] at q n
        have mm : a ∈ ownedE env ++ ownedT T := List.mem_append_left _ (mem_ownedE hi (List.mem_singleton.mpr rfl))
        rcases h.s3 a mm with y | y
        · exact n y
        · rw [q] at y
          cases y
      obtain ⟨r1, r2⟩ := l.out b o q1 nb
      exact ⟨r1, fun z => r2 (q2 z)⟩
  have old := h0.ownedH
  have dis : ∀ b ∈ s'.owned ++ r.owned, b ∉ ownedE (env.set i .un) ++ ownedT T := fun b hb hc => by
    rcases own b hb with z | z
    · exact na b hc z
    · obtain ⟨_, vs, q⟩ := old b hc
      rw [z] at q
      cases q
  have fin3 : ∀ b ∈ s'.owned ++ r.owned, b ∈ e.A0 ∨ e.H0 b = none := fun b hb => by
    rcases own b hb with z | z
    · subst z
      exact h.s3 b (List.mem_append_left _ (mem_ownedE hi (List.mem_singleton.mpr rfl)))
    · cases q : e.H0 b with
      | none => exact .inr rfl
      | some o =>
        by_cases hA : b ∈ e.A0
        · exact .inl hA
        · rw [(h.s2 b o q hA).1] at z
          cases z
  -- both come in as temps, then the slot is set
  have h2 : Holds K e (env.set i .un) ((.ref a, s') :: (v, r) :: T) F' σ H' := by
    refine ⟨h1.fh, h1.len, h1.slots, fun p hp => ?_, ?_, h1.s1, h1.s2, fun b hb => ?_⟩
    · rcases List.mem_cons.mp hp with rfl | hp
      · exact ok'
      · rcases List.mem_cons.mp hp with rfl | hp
        · exact ok
        · exact h1.temps p hp
    · show (ownedE (env.set i .un) ++ (s'.owned ++ (r.owned ++ ownedT T))).Nodup
      have z := h0.nd
      rw [← List.append_assoc s'.owned]
      rw [List.nodup_append] at z ⊢
      obtain ⟨z1, z2, z3⟩ := z
      refine ⟨z1, ?_, fun b hb c hc => ?_⟩
      · rw [List.nodup_append]
        exact ⟨nd, z2, fun b hb c hc e => dis b hb (by rw [e]; exact List.mem_append_right _ hc)⟩
      · rcases List.mem_append.mp hc with hc | hc
        · exact fun e => dis c hc (by rw [← e]; exact List.mem_append_left _ hb)
        · exact z3 b hb c hc
    · have hb' : b ∈ ownedE (env.set i .un) ++ (s'.owned ++ (r.owned ++ ownedT T)) := hb
      rw [← List.append_assoc s'.owned] at hb'
      rcases List.mem_append.mp hb' with hc | hc
      · exact h0.s3 b (List.mem_append_left _ hc)
      · rcases List.mem_append.mp hc with hc | hc
        · exact fin3 b hc
        · exact h0.s3 b (List.mem_append_right _ hc)
  have h3 := h2.assign i hp
  rw [List.set_set] at h3
  have z : σ.set i (some (.ref a)) = σ := by
    obtain ⟨hl, q⟩ := List.getElem?_eq_some_iff.mp hw
    rw [← q]
    exact List.set_getElem_self hl
  rw [z] at h3
  exact h3
end
def anyAl : List Sl → Bool
  | [] => false
  | .al _ _ :: _ => true
  | .ar _ _ :: _ => true
  | _ :: r => anyAl r
section
variable {K : PySem.W.Frag} {e : Ent} {env : Env'} {T : Tmp} {σ : St} {H : Hp}
theorem Holds.lend : ∀ {vs : List V} {xs : List Sl} {q : List D → Prop} {F : Hp}, vs.length = xs.length → Holds K e env (vs.zip xs ++ T) F σ H → HD.wds env xs q →
    ∃ ds F1 Fc, q ds ∧ Holds K e env T F1 σ H ∧ Same F F1 ∧ Same F1 Fc ∧ Reps K Fc ds vs ∧ Same Fc H ∧ (∀ b, Fc b ≠ none → F1 b ≠ none ∨ b ∈ ownedE env) ∧ (anyAl xs = false → Fc = F1)
  | [], [], q, F, _, h, w => ⟨[], F, F, w, h, Same.refl _, Same.refl _, rfl, h.fh, fun _ z => .inl z, fun _ => rfl⟩
  | [], _ :: _, _, _, le, _, _ => by cases le
  | _ :: _, [], _, _, le, _, _ => by cases le
  | v :: vs, x :: xs, q, F, le, h, w => by
    have le' : vs.length = xs.length := by simpa using le
    cases x with
    | un => exact w.elim
    | reg _ _ => exact w.elim
    | ar i b =>
      have ev : v = .ref b := h.temps (v, .ar i b) List.mem_cons_self
      have h' : Holds K e env (vs.zip xs ++ T) F σ H := h.pop
      have w' : (match env[i]? with | some (.reg _ cs) => (match cellOf cs b with | some (.lst ds) => HD.wds env xs (fun es => q (.lst ds :: es)) | _ => False) | _ => False) := w
      split at w'
      · rename_i dr cs hb
        split at w'
        · rename_i es hc
          obtain ⟨ds, F1, Fc, w1, h1, s1, s2, r, fh, nw, na⟩ := Holds.lend (q := fun ds => q (.lst es :: ds)) le' h' w'
          obtain ⟨e2, o, hv, us, rfl, hr⟩ := h1.cell hb hc
          have s3 : Same Fc (upd Fc b (.lst us)) := fun c o qc => by
            by_cases nc : c = b
            · rw [nc] at qc ⊢
              have := fh _ _ qc
              rw [hv] at this
              rw [upd_same]
              exact this
            · rw [upd_ne nc]
              exact qc
          refine ⟨.lst es :: ds, F1, upd Fc b (.lst us), w1, h1, s1, s2.trans s3, ⟨v, vs, rfl, ⟨b, us, ev, upd_same, hr.same (s2.trans s3)⟩, r.same s3⟩, fun c o qc => ?_, fun c nc => ?_, fun z => nomatch z⟩
          · by_cases ec : c = b
            · rw [ec, upd_same] at qc
              rw [ec, hv]
              exact qc
            · rw [upd_ne ec] at qc
              exact fh _ _ qc
          · by_cases ec : c = b
            · rw [ec]
              exact .inr (mem_ownedE hb (List.mem_map.mpr ⟨(b, .lst es), cellOf_mem hc, rfl⟩))
            · rw [upd_ne ec] at nc
              exact nw c nc
        · exact w'.elim
      · exact w'.elim
    | ext d =>
      have rd : Rep K F d v := h.temps (v, .ext d) List.mem_cons_self
      have h' : Holds K e env (vs.zip xs ++ T) F σ H := h.pop
      obtain ⟨ds, F1, Fc, w1, h1, s1, s2, r, fh, nw, na⟩ := Holds.lend (q := fun ds => q (d :: ds)) le' h' w
      exact ⟨d :: ds, F1, Fc, w1, h1, s1, s2, ⟨v, vs, rfl, Rep.same (s1.trans s2) rd, r⟩, fh, nw, na⟩
    | lst a es =>
      obtain ⟨F0, s0, h0⟩ := h.freezeT
      have rd : Rep K F0 (.lst es) v := h0.temps (v, .ext (.lst es)) List.mem_cons_self
      have h' : Holds K e env (vs.zip xs ++ T) F0 σ H := h0.pop
      obtain ⟨ds, F1, Fc, w1, h1, s1, s2, r, fh, nw, na⟩ := Holds.lend (q := fun ds => q (.lst es :: ds)) le' h' w
      exact ⟨.lst es :: ds, F1, Fc, w1, h1, s0.trans s1, s2, ⟨v, vs, rfl, Rep.same (s1.trans s2) rd, r⟩, fh, nw, na⟩
    | al i a =>
      have ev : v = .ref a := h.temps (v, .al i a) List.mem_cons_self
      have h' : Holds K e env (vs.zip xs ++ T) F σ H := h.pop
      have w' : (match env[i]? with | some (.lst b ds) => b = a ∧ HD.wds env xs (fun es => q (.lst ds :: es)) | _ => False) := w
      split at w'
      · rename_i b es hb
        obtain ⟨rfl, w'⟩ := w'
        obtain ⟨ds, F1, Fc, w1, h1, s1, s2, r, fh, nw, na⟩ := Holds.lend (q := fun ds => q (.lst es :: ds)) le' h' w'
        rcases h1.slots i _ hb with z | ⟨u, hu, e1, e2, us, hv, hr⟩
        · cases z
        · have s3 : Same Fc (upd Fc b (.lst us)) := fun c o qc => by
            by_cases nc : c = b
            · rw [nc] at qc ⊢
              have := fh _ _ qc
              rw [hv] at this
              rw [upd_same]
              exact this
            · rw [upd_ne nc]
              exact qc
          refine ⟨.lst es :: ds, F1, upd Fc b (.lst us), w1, h1, s1, s2.trans s3, ⟨v, vs, rfl, ⟨b, us, ev, upd_same, hr.same (s2.trans s3)⟩, r.same s3⟩, fun c o qc => ?_, fun c nc => ?_, fun z => nomatch z⟩
          · by_cases ec : c = b
            · rw [ec, upd_same] at qc
              rw [ec, hv]
              exact qc
            · rw [upd_ne ec] at qc
              exact fh _ _ qc
          · by_cases ec : c = b
            · rw [ec]
              exact .inr (mem_ownedE hb (List.mem_singleton.mpr rfl))
            · rw [upd_ne ec] at nc
              exact nw c nc
      · exact w'.elim
theorem Holds.thaw {F1 Fc F' H' : Hp} (h : Holds K e env T F1 σ H) (s2 : Same F1 Fc) (nw : ∀ b, Fc b ≠ none → F1 b ≠ none ∨ b ∈ ownedE env) (l : Left [] Fc H F' H') :
    ∃ F2, Left [] F1 H F2 H' ∧ (∀ (d : D) (v : V), d.imm = true → Rep K F' d v → Rep K F2 d v) ∧ (∀ (ds : List D) (vs : List V), D.imms ds = true → Reps K F' ds vs → Reps K F2 ds vs) ∧ (∀ b, F' b = none → F2 b = none) ∧ ∀ c d, XD F' c d → XD F2 c d := by
  have old := h.ownedL
  have sT : ∀ a xs, SqT K F' a xs → SqT K (fun b => if b ∈ ownedE env then none else F' b) a xs := fun a xs hs => by
    have out : ∀ o, F' a = some o → a ∈ ownedE env → Loose o := fun o q m => by
      obtain ⟨_, us, hu, lo⟩ := old a (List.mem_append_left _ m)
      have z := (l.out a _ hu (fun z => nomatch z)).1
      rw [l.fh _ _ q] at z
      rw [Option.some.inj z]
      exact lo
    rcases hs with (hs | ⟨o, hs⟩) | hs
    · refine .inl (.inl ?_)
      have n : a ∉ ownedE env := fun m => by
        obtain ⟨z1, z2, _⟩ := out _ hs m
        first | exact z1 _ rfl | exact z2 _ _ rfl
      show (if a ∈ ownedE env then none else F' a) = _
      rw [if_neg n]
      exact hs
    · refine .inl (.inr ⟨o, ?_⟩)
      have n : a ∉ ownedE env := fun m => by
        obtain ⟨z1, z2, _⟩ := out _ hs m
        first | exact z1 _ rfl | exact z2 _ _ rfl
      show (if a ∈ ownedE env then none else F' a) = _
      rw [if_neg n]
      exact hs
    · exact .inr hs
  have sD : ∀ a xs, TupD K F' a xs → TupD K (fun b => if b ∈ ownedE env then none else F' b) a xs := fun a xs hs => by
    rcases hs with ⟨o, hs, d⟩ | hs
    · refine .inl ⟨o, ?_, d⟩
      have n : a ∉ ownedE env := fun m => by
        obtain ⟨_, us, hu, lo⟩ := old a (List.mem_append_left _ m)
        have z := (l.out a _ hu (fun z => nomatch z)).1
        rw [l.fh _ _ hs] at z
        cases z
        obtain ⟨z1, z2, _⟩ := lo
        first | exact z1 _ rfl | exact z2 _ _ rfl
      show (if a ∈ ownedE env then none else F' a) = _
      rw [if_neg n]
      exact hs
    · exact .inr hs
  refine ⟨fun b => if b ∈ ownedE env then none else F' b, ⟨fun b o q => ?_, fun b o q => ?_, fun b o q n => ?_⟩, fun d v n r => Rep.ofT sT sD n r, fun ds vs n r => Reps.ofT sT sD n r, fun b q => ?_, fun c d x => ?_⟩
  · have n : b ∉ ownedE env := fun m => by
      rw [(old b (List.mem_append_left _ m)).1] at q
      cases q
    show (if b ∈ ownedE env then none else F' b) = _
    rw [if_neg n]
    exact l.ff _ _ (s2 _ _ q)
  · have q' : (if b ∈ ownedE env then none else F' b) = some o := q
    split at q'
    · cases q'
    · exact l.fh _ _ q'
  · obtain ⟨r1, r2⟩ := l.out b o q n
    refine ⟨r1, fun z => ?_⟩
    show (if b ∈ ownedE env then none else F' b) = none
    by_cases m : b ∈ ownedE env
    · rw [if_pos m]
    · rw [if_neg m]
      refine r2 ?_
      cases y : Fc b with
      | none => rfl
      | some o' =>
        rcases nw b (by rw [y]; simp) with t | t
        · exact absurd z t
        · exact absurd t m
  · show (if b ∈ ownedE env then none else F' b) = none
    split
    · rfl
    · exact q
  · rcases x with x | ⟨n, dd, fs, h1, h2, h3, h4⟩
    · exact .inl x
    · refine .inr ⟨n, dd, fs, h1, h2, ?_, h4⟩
      have m : dd ∉ ownedE env := fun m => by
        obtain ⟨_, us, hu, lo⟩ := old dd (List.mem_append_left _ m)
        have z := (l.out dd _ hu (fun z => nomatch z)).1
        rw [l.fh _ _ h3] at z
        cases z
        exact lo.2.2 _ rfl
      show (if dd ∈ ownedE env then none else F' dd) = _
      rw [if_neg m]
      exact h3
theorem ownedE_ext (ds : List D) : ownedE (ds.map Sl.ext) = [] := by
  unfold ownedE
  rw [List.flatMap_eq_nil_iff]
  intro x hx
  obtain ⟨d, _, rfl⟩ := List.mem_map.mp hx
  rfl
theorem argsE {F : Hp} {ds : List D} {vs : List V} (fh : Same F H) (r : Reps K F ds vs) : Holds K (entOf F H (ds.map .ext)) (ds.map .ext) [] F (vs.map some) H := by
  have own := ownedE_ext ds
  refine ⟨fh, by rw [List.length_map, List.length_map, r.length], fun i sl q => ?_, (fun p hp => nomatch hp), by rw [own]; exact List.nodup_nil, Same.refl _, fun a o q _ => ⟨q, fun z => z⟩, fun a ha => ?_⟩
  · rw [List.getElem?_map] at q
    cases z : ds[i]? with
    | none =>
      rw [z] at q
      cases q
    | some d =>
      rw [z] at q
      have e := Option.some.inj q
      subst e
      obtain ⟨v, hv, rd⟩ := r.get z
      exact .inr ⟨v, by rw [List.getElem?_map, hv]; rfl, rd⟩
  · rw [own] at ha
    cases ha
end
def dCall (spec : DSpec) (ta : DTA) : DT := fun Ex env Q => ta Ex env fun xs env1 => wds env1 xs fun ds =>
  spec (ds.map .ext) (fun r _ => (anyAl xs = false ∨ r.imm = true) ∧ r.plain ∧ Q r env1) (fun c _ => Ex c env1)
theorem im_call {K : PySem.W.Frag} {W : WX} {spec : DSpec} {n : Nat} {ta : TA} {t : DTA} (h : ImA K W ta t) (hn : ∀ ds Q X, spec ds Q X → ds.length = n) : Im K W (tCallS (toSp K n spec) (WE W) ta) (dCall spec t) := fun e Ex hl env T F σ H Q R hh ht hR => by
  refine h e Ex hl env T F σ H _ _ hh ht fun vs H1 F1 env1 xs le hh1 q1 => ?_
  obtain ⟨ds, F2, Fc, q2, hh2, sm1, sm2, rr, fh, nw, na⟩ := hh1.lend le q1
  have back : ∀ (H' F' : Hp), Same Fc F' → Same F' H' → (∀ a o, H1 a = some o → a ∉ ownedE (ds.map Sl.ext) → H' a = some o ∧ (Fc a = none → F' a = none)) → Left [] Fc H1 F' H' := fun H' F' a b c => ⟨a, b, fun x o q _ => c x o q (by rw [ownedE_ext]; exact fun z => nomatch z)⟩
  refine ⟨Fc, ds.map .ext, _, _, ?_, argsE fh rr, q2, fun v H' F' r fin hf hq => ?_, fun c dx H' F' fin hf hx hq => ?_⟩
  · rw [← hn _ _ _ q2, List.length_map, rr.length]
  · obtain ⟨qi, qp, q3⟩ := hq
    have l := back H' F' hf.s1 hf.fh hf.s2
    have own : ∀ a ∈ r.owned, H1 a = none := fun a ha => by
      have m : a ∈ ownedE fin ++ ownedT [(v, r)] := List.mem_append_right _ (by
        show a ∈ r.owned ++ []
        rw [List.append_nil]
        exact ha)
      rcases hf.s3 a m with z | z
      · have z' : a ∈ ownedE (ds.map Sl.ext) := z
        rw [ownedE_ext] at z'
        cases z'
      · exact z
    have ok := hf.temps (v, r) List.mem_cons_self
    by_cases al : anyAl xs = false
    · have ec := na al
      subst ec
      exact hR v H' F' env1 r (hh2.left0 l ok own) q3
    · have im : r.imm = true := by
        rcases qi with z | z
        · exact absurd z al
        · exact z
      obtain ⟨F3, l3, t1, t2, t3, _⟩ := hh2.thaw sm2 nw l
      refine hR v H' F3 env1 r (hh2.left0 l3 ?_ own) q3
      cases r with
      | un => exact nomatch im
      | al i a => exact nomatch im
      | reg _ _ => exact nomatch im
      | ar _ _ => exact nomatch im
      | ext d => exact t1 d v im ok
      | lst a es =>
        obtain ⟨e1, e2, us, hu, hr⟩ := ok
        exact ⟨e1, t3 _ e2, us, hu, t2 es us im hr⟩
  · have l := back H' F' hf.s1 hf.fh hf.s2
    obtain ⟨F3, l3, _, _, _, t4⟩ := hh2.thaw sm2 nw l
    have h4 := hh2.left0 (v := .non) (r := .ext .non) l3 rfl (fun a z => nomatch z)
    exact hl c dx env1 F3 σ H' h4.bare (t4 _ _ hx) hq
def dCallJ (spec : DSpec) (i : Nat) (ta : DTA) : DT := fun Ex env Q => match env[i]? with
  | some (.lst a _) => ta Ex env fun xs env1 => match env1[i]? with
    | some (.lst b ds) => b = a ∧ frozs env1 xs fun es => spec (.lst a ds :: es.map .ext)
        (fun r fin => match fin with | s' :: _ => s'.plain ∧ r.plain ∧ Q r (env1.set i s') | [] => False) (fun c fin => match fin with | s' :: _ => s'.plain ∧ Ex c (env1.set i s') | [] => False)
    | _ => False
  | _ => False
theorem im_callJ {K : PySem.W.Frag} {W : WX} {spec : DSpec} {n i : Nat} {ta : TA} {t : DTA} (h : ImA K W ta t) (hn : ∀ ds Q X, spec ds Q X → ds.length = n) : Im K W (tCallS (toSp K n spec) (WE W) (tCons (tVar i) ta)) (dCallJ spec i t) := fun e Ex hl env T F σ H Q R hh ht hR => by
  unfold dCallJ at ht
  split at ht
  · rename_i a ds0 hi0
    rcases hh.slots i _ hi0 with z | ⟨v0, hv0, e0, _⟩
    · cases z
    · subst e0
      refine ⟨_, hv0, ?_⟩
      refine h e Ex hl env T F σ H _ _ hh ht fun vs H1 F1 env1 xs le hh1 q1 => ?_
      split at q1
      · rename_i b ds hi
        obtain ⟨rfl, q1⟩ := q1
        obtain ⟨es, F2, sm, hh2, rr, q2⟩ := hh1.frozs le q1
        have own0 : ownedE (Sl.lst b ds :: es.map Sl.ext) = [b] := by
          show [b] ++ ownedE (es.map Sl.ext) = [b]
          rw [ownedE_ext, List.append_nil]
        have hs := hh2.slots i _ hi
        have okJ : SlOk K F2 H1 (.ref b) (.lst b ds) := by
          rcases hs with z | ⟨w, _, e1, r⟩
          · cases z
          · exact ⟨rfl, r⟩
        have hE := argsE (K := K) hh2.fh rr
        have hA : Holds K (entOf F2 H1 (Sl.lst b ds :: es.map Sl.ext)) (Sl.lst b ds :: es.map Sl.ext) [] F2 ((V.ref b :: vs).map some) H1 := by
          refine ⟨hh2.fh, ?_, fun j sl q => ?_, (fun p hp => nomatch hp), ?_, Same.refl _, fun a o q _ => ⟨q, fun z => z⟩, fun a ha => ?_⟩
          · have z := hE.len
            show (es.map Sl.ext).length + 1 = (vs.map some).length + 1
            rw [z]
          · cases j with
            | zero =>
              have z := Option.some.inj q
              subst z
              exact .inr ⟨.ref b, rfl, okJ⟩
            | succ j => exact hE.slots j sl q
          · rw [own0]
            show ([b] ++ ([] : List Addr)).Nodup
            simp
          · rw [show ownedT ([] : Tmp) = [] from rfl, List.append_nil] at ha
            exact .inl ha
        have back : ∀ (H' F' : Hp) (fin : Env') (U : Tmp), Holds K (entOf F2 H1 (Sl.lst b ds :: es.map Sl.ext)) fin U F' ((V.ref b :: vs).map some) H' → Left [b] F2 H1 F' H' := fun H' F' fin U hf =>
          ⟨hf.s1, hf.fh, fun x o q nx => hf.s2 x o q (by
            show x ∉ ownedE (Sl.lst b ds :: es.map Sl.ext)
            rw [own0]
            exact nx)⟩
        have ownF : ∀ (H' F' : Hp) (fin : Env') (U : Tmp), Holds K (entOf F2 H1 (Sl.lst b ds :: es.map Sl.ext)) fin U F' ((V.ref b :: vs).map some) H' → ∀ x ∈ ownedE fin ++ ownedT U, x = b ∨ H1 x = none := fun H' F' fin U hf x hx => by
          rcases hf.s3 x hx with z | z
          · have z' : x ∈ ownedE (Sl.lst b ds :: es.map Sl.ext) := z
            rw [own0] at z'
            exact .inl (List.mem_singleton.mp z')
          · exact .inr z
        refine ⟨F2, Sl.lst b ds :: es.map Sl.ext, _, _, ?_, hA, q2, fun v H' F' r fin hf hq => ?_, fun c dx H' F' fin hf hx hq => ?_⟩
        · rw [← hn _ _ _ q2]
          show vs.length + 1 = (es.map Sl.ext).length + 1
          rw [List.length_map, rr.length]
        · cases fin with
          | nil => exact hq.elim
          | cons s' fr =>
            obtain ⟨qs, qr, q3⟩ := hq
            have ok' : SlOk K F' H' (.ref b) s' := by
              rcases hf.slots 0 s' rfl with z | ⟨w, hw, ok⟩
              · subst z
                trivial
              · have z := Option.some.inj (Option.some.inj hw)
                subst z
                exact ok
            have sub : (s'.owned ++ r.owned).Sublist (ownedE (s' :: fr) ++ ownedT [(v, r)]) := by
              show (s'.owned ++ r.owned).Sublist ((s'.owned ++ ownedE fr) ++ (r.owned ++ []))
              rw [List.append_nil]
              exact (List.sublist_append_left _ _).append (List.Sublist.refl _)
            exact hR v H' F' _ r (hh2.left1 hi (back H' F' _ _ hf) (hf.temps (v, r) List.mem_cons_self) ok' (fun x hx => ownF H' F' _ _ hf x (sub.subset hx)) (hf.nd.sublist sub) qs) q3
        · cases fin with
          | nil => exact hq.elim
          | cons s' fr =>
            obtain ⟨qs, q3⟩ := hq
            have ok' : SlOk K F' H' (.ref b) s' := by
              rcases hf.slots 0 s' rfl with z | ⟨w, hw, ok⟩
              · subst z
                trivial
              · have z := Option.some.inj (Option.some.inj hw)
                subst z
                exact ok
            have sub : (s'.owned ++ (Sl.ext .non).owned).Sublist (ownedE (s' :: fr) ++ ownedT []) := by
              show (s'.owned ++ []).Sublist ((s'.owned ++ ownedE fr) ++ [])
              rw [List.append_nil, List.append_nil]
              exact List.sublist_append_left _ _
            have h5 := hh2.left1 (v := .non) (r := .ext .non) hi (back H' F' _ _ hf) rfl ok' (fun x hx => ownF H' F' _ _ hf x (sub.subset hx)) (hf.nd.sublist sub) qs
            exact hl c dx _ F' σ H' h5.bare hx q3
      · exact q1.elim
  · exact ht.elim
structure Def (G : GG) (kf : Nat) (x : Str) (n : Nat) (spec : DSpec) : Prop where
  ex : ∃ f fd ps, FnG G.P G.w G.K G.mg G.base (L2.CX G.P G.w) kf f fd ps (toSp G.K n spec) ∧ G.mg x = some (.ref f) ∧ PySem.W.keepIn G.K (.ref f) = true ∧ Binds G.K fd ps []
  len : ∀ ds Q X, spec ds Q X → ds.length = n
section
variable {G : GG} {N : List Str} {sc : SC} {k kf n : Nat} {x : Str} {spec : DSpec} {e : Expr} {es : List Expr} {p pos : Pos}
theorem Def.pe {W : WX} {X : Cx} {ta : TA} (d : Def G kf x n spec) (S : Sit G N sc W k X) (hk : kf ≤ k) (hg : GlS sc x) (ha : PA X (e :: es) ta) (hdb : (x == ("__debug__" : Str)) = false) (he : NoStar e es) (hpl : ∀ env, (backTo pos (starEach es env)).any (·.1) = false) :
    PE X (.Call (.Name x p) (e :: es) [] pos) (tCallS (toSp G.K n spec) (WE W) ta) := by
  obtain ⟨f, fd, ps, h1, h2, h3, h4⟩ := d.ex
  have pass : ∀ σ, PassesAt (L2.CX X.prog X.w) X σ (WE W σ) := fun σ => passAt S.tk σ
  rw [← S.prog, ← S.w, ← S.K, ← S.mg, ← S.base] at h1
  rw [← S.K] at h3 h4 ⊢
  rw [← S.mg] at h2
  refine ⟨fun pins s σ H Q I h => ?_⟩
  refine wpAny_Call_Name_kw (ld_glob I (S.gl hg) h2 ?_ hdb)
  refine PySem.W.callWith_K (h₀ := X.base) I.ok.mod.kin h3 (thn (ha.run pos pins s σ H _ I h) fun us s1 ⟨vs, H1, I1, r, q⟩ => ⟨I1.kIn, ?_⟩) (he _) (hpl _)
  exact runG h1 S.gd (S.room.mono hk) h4 (pass σ) I1 r q
theorem de_call {ta : DTA} (d : Def G kf x n spec) (ha : DAs G N sc k (e :: es) ta) (hk : kf ≤ k := by decide) (hg : GlS sc x := by rfl) (hdb : (x == ("__debug__" : Str)) = false := by decide) (he : NoStar e es := by intro _; rfl) (hpl : ∀ env, (backTo pos (starEach es env)).any (·.1) = false := by intro _; rfl) :
    DE G N sc k (.Call (.Name x p) (e :: es) [] pos) (dCall spec ta) := ⟨fun W => by
  obtain ⟨te, p1, i1⟩ := ha.ex W
  exact ⟨tCallS (toSp G.K n spec) (WE W) te, fun X S => d.pe S hk hg (p1 X S) hdb he hpl, im_call i1 d.len⟩⟩
theorem de_callJ {ta : DTA} {y : Str} {py : Pos} (i : Nat) (d : Def G kf x n spec) (ha : DAs G N sc k es ta) (hk : kf ≤ k := by decide) (hg : GlS sc x := by rfl) (hN : N[i]? = some y := by rfl)
    (hv : Vis sc.sc y := by first | exact Or.inl rfl | exact Or.inr (Or.inl rfl) | exact Or.inr (Or.inr rfl)) (hdb : (x == ("__debug__" : Str)) = false := by decide) (hdy : (y == ("__debug__" : Str)) = false := by decide) (hcy : (y == ("__classdict__" : Str)) = false := by decide)
    (he : NoStar (.Name y py) es := by intro _; rfl) (hpl : ∀ env, (backTo pos (starEach es env)).any (·.1) = false := by intro _; rfl) :
    DE G N sc k (.Call (.Name x p) (.Name y py :: es) [] pos) (dCallJ spec i ta) := ⟨fun W => by
  obtain ⟨te, p1, i1⟩ := ha.ex W
  refine ⟨tCallS (toSp G.K n spec) (WE W) (tCons (tVar i) te), fun X S => d.pe S hk hg (pa_cons (pe_var (by rw [S.nms]; exact hN) (S.vis hv) hdy hcy) (p1 X S) (he _)) hdb he hpl, im_callJ i1 d.len⟩⟩
end
end HD
namespace HD
open PySem L2
structure DEnds where
  nx : Env' → Prop
  rt : Sl → Env' → Prop
  bk : Env' → Prop := fun _ => False
  ct : Env' → Prop := fun _ => False
abbrev DTS := DX → DEnds → Env' → Prop
structure EndsOk (K : PySem.W.Frag) (e : Ent) (E : DEnds) (Dn : Ends) : Prop where
  nx : ∀ env F σ H, Holds K e env [] F σ H → E.nx env → Dn.nx σ H
  rt : ∀ env F σ H v r, Holds K e env [(v, r)] F σ H → E.rt r env → Dn.rt v H
  bk : ∀ env F σ H, Holds K e env [] F σ H → E.bk env → Dn.bk σ H
  ct : ∀ env F σ H, Holds K e env [] F σ H → E.ct env → Dn.ct σ H
def ImS (K : PySem.W.Frag) (W : WX) (ts : TS) (t : DTS) : Prop :=
  ∀ (e : Ent) (Ex : DX), Link K e W Ex → ∀ (env : Env') (F : Hp) (σ : St) (H : Hp) (E : DEnds) (Dn : Ends), Holds K e env [] F σ H → t Ex E env → EndsOk K e E Dn → ts Dn σ H
structure DS (G : GG) (N : List Str) (sc : SC) (k : Nat) (st : Stmt) (t : DTS) : Prop where
  ex : ∀ W : WX, ∃ ts, (∀ X, Sit G N sc W k X → PS X st ts) ∧ ImS G.K W ts t
structure DSs (G : GG) (N : List Str) (sc : SC) (k : Nat) (st : List Stmt) (t : DTS) : Prop where
  ex : ∀ W : WX, ∃ ts, (∀ X, Sit G N sc W k X → PSs X st ts) ∧ ImS G.K W ts t
section
variable {G : GG} {N : List Str} {sc : SC} {k : Nat} {st : Stmt} {rest : List Stmt} {t u : DTS} {a : Expr} {ta : DT} {pos : Pos}
def sNext : DTS := fun _ E env => E.nx env
def sSeq (t u : DTS) : DTS := fun Ex E env => t Ex { E with nx := fun env1 => u Ex E env1 } env
theorem dss_nil : DSs G N sc k [] sNext := ⟨fun W => ⟨tNext, fun X S => pss_nil, fun e Ex hl env F σ H E Dn hh ht ok => ok.nx env F σ H hh ht⟩⟩
theorem dss_cons (h1 : DS G N sc k st t) (h2 : DSs G N sc k rest u) : DSs G N sc k (st :: rest) (sSeq t u) := ⟨fun W => by
  obtain ⟨ts, p1, i1⟩ := h1.ex W
  obtain ⟨us, p2, i2⟩ := h2.ex W
  refine ⟨tSeq ts us, fun X S => pss_cons (p1 X S) (p2 X S), fun e Ex hl env F σ H E Dn hh ht ok => ?_⟩
  exact i1 e Ex hl env F σ H _ _ hh ht ⟨fun env1 F1 σ1 H1 hh1 q1 => i2 e Ex hl env1 F1 σ1 H1 E Dn hh1 q1 ok, ok.rt, ok.bk, ok.ct⟩⟩
theorem dss_one (h1 : DS G N sc k st t) : DSs G N sc k [st] t := ⟨fun W => by
  obtain ⟨ts, p1, i1⟩ := h1.ex W
  exact ⟨ts, fun X S => pss_one (p1 X S), i1⟩⟩
def sBreak : DTS := fun _ E env => E.bk env
def sCont : DTS := fun _ E env => E.ct env
def sDrop (t : DT) : DTS := fun Ex E env => t Ex env fun _ env1 => E.nx env1
theorem ds_expr (h : DE G N sc k a ta) (hs : ∀ env, swapsWith a none pos.line env = pure false := by intro _; rfl) : DS G N sc k (.Expr a pos) (sDrop ta) := ⟨fun W => by
  obtain ⟨te, p1, i1⟩ := h.ex W
  refine ⟨tDrop te, fun X S => ps_expr (p1 X S) (hs _), fun e Ex hl env F σ H E Dn hh ht ok => ?_⟩
  exact i1 e Ex hl env [] F σ H _ _ hh ht fun v H1 F1 env1 x hh1 q1 => ok.nx env1 F1 σ H1 hh1.pop q1⟩
def retD (env : Env') (x : Sl) (q : Sl → Env' → Prop) : Prop := match x with
  | .al i a => match env[i]? with
    | some (.lst b ds) => b = a ∧ q (.lst a ds) (env.set i .un)
    | _ => False
  | .un => False
  | .ext d => q (.ext d) env
  | .lst a ds => q (.lst a ds) env
  | .reg a cs => q (.reg a cs) env
  | .ar _ _ => False
def sRet (t : DT) : DTS := fun Ex E env => t Ex env fun x env1 => retD env1 x E.rt
theorem Holds.ret {K : PySem.W.Frag} {e : Ent} {env : Env'} {T : Tmp} {F : Hp} {σ : St} {H : Hp} {v : V} {x : Sl} {q : Sl → Env' → Prop} (h : Holds K e env ((v, x) :: T) F σ H) (w : retD env x q) : ∃ r env', Holds K e env' ((v, r) :: T) F σ H ∧ r.plain ∧ q r env' := by
  cases x with
  | un => exact w.elim
  | ext d => exact ⟨_, _, h, trivial, w⟩
  | lst a ds => exact ⟨_, _, h, trivial, w⟩
  | reg a ds => exact ⟨_, _, h, trivial, w⟩
  | ar _ _ => exact w.elim
  | al i a =>
    have ev : v = .ref a := h.temps (v, .al i a) List.mem_cons_self
    have w' : (match env[i]? with | some (.lst b ds) => b = a ∧ q (.lst a ds) (env.set i .un) | _ => False) := w
    split at w'
    · rename_i b ds hb
      obtain ⟨rfl, w'⟩ := w'
      rcases h.slots i _ hb with z | ⟨u, hu, e1, _⟩
      · cases z
      · subst e1
        subst ev
        exact ⟨_, _, h.pop.take hb hu, trivial, w'⟩
    · exact w'.elim
theorem ds_ret (h : DE G N sc k a ta) : DS G N sc k (.Return (some a) pos) (sRet ta) := ⟨fun W => by
  obtain ⟨te, p1, i1⟩ := h.ex W
  refine ⟨tRet te, fun X S => ps_ret (p1 X S), fun e Ex hl env F σ H E Dn hh ht ok => ?_⟩
  refine i1 e Ex hl env [] F σ H _ _ hh ht fun v H1 F1 env1 x hh1 q1 => ?_
  obtain ⟨r, env2, hh2, _, q2⟩ := hh1.ret q1
  exact ok.rt env2 F1 σ H1 v r hh2 q2⟩
def sRetN : DTS := fun _ E env => E.rt (.ext .non) env
def sIf (c : DTT) (t u : DTS) : DTS := fun Ex E env => c Ex env fun b env1 => if b = true then t Ex E env1 else u Ex E env1
theorem ds_if {c : Expr} {x y : List Stmt} {tc : DTT} (hc : DTe G N sc k c tc) (h1 : DSs G N sc k x t) (h2 : DSs G N sc k y u) : DS G N sc k (.If c x y pos) (sIf tc t u) := ⟨fun W => by
  obtain ⟨tt, p0, i0⟩ := hc.ex W
  obtain ⟨ts, p1, i1⟩ := h1.ex W
  obtain ⟨us, p2, i2⟩ := h2.ex W
  refine ⟨tIfS tt ts us, fun X S => ps_if (p0 X S) (p1 X S) (p2 X S), fun e Ex hl env F σ H E Dn hh ht ok => ?_⟩
  refine i0 e Ex hl env [] F σ H _ _ hh ht fun b H1 F1 env1 hh1 q1 => ?_
  cases b with
  | true =>
    rw [if_pos rfl] at q1 ⊢
    exact i1 e Ex hl env1 F1 σ H1 E Dn hh1 q1 ok
  | false =>
    rw [if_neg Bool.false_ne_true] at q1 ⊢
    exact i2 e Ex hl env1 F1 σ H1 E Dn hh1 q1 ok⟩
def sFz (i : Nat) (t : DTS) : DTS := fun Ex E env => match env[i]? with
  | some (.lst _ ds) => t Ex E (env.set i (.ext (.lst ds)))
  | _ => t Ex E env
abbrev DTG := D → Env' → (Env' → Prop) → Prop
def Only (vs : List Nat) (σ σ' : St) : Prop := (∀ i, i ∉ vs → σ'[i]? = σ[i]?) ∧ σ'.length = σ.length
def ImG (K : PySem.W.Frag) (vs : List Nat) (g : TG) (t : DTG) : Prop := ∀ (e : Ent) (env : Env') (T : Tmp) (F : Hp) (σ : St) (H : Hp) (v : V) (d : D) (Q : Env' → Prop) (R : St → Hp → Prop),
  Holds K e env T F σ H → Rep K F d v → t d env Q → (∀ env' σ', Holds K e env' T F σ' H → Only vs σ σ' → Q env' → R σ' H) → g v σ H R
structure DG (G : GG) (N : List Str) (sc : SC) (tg : Expr) (vs : List Nat) (t : DTG) : Prop where
  ex : ∃ g, (∀ W k X, Sit G N sc W k X → PG X tg g) ∧ ImG G.K vs g t
def LocS (sc : SC) (x : Str) : Prop := sc.sc.names.lookup x = some .local ∨ (sc.sc.names.lookup x = some .cell ∧ sc.own x = true)
theorem Sit.loc {W : WX} {X : Cx} {x : Str} (S : Sit G N sc W k X) (h : LocS sc x) : Loc X.env.scope x ∧ (X.fn x = true ∨ X.env.scope.names.lookup x = some .local) := by
  rcases h with h | h
  · exact ⟨.inl (by rw [S.scp]; exact h), .inr (by rw [S.scp]; exact h)⟩
  · exact ⟨.inr (by rw [S.scp]; exact h.1), .inl (S.fn x h.2)⟩
def gSet (i : Nat) : DTG := fun d env Q => Q (env.set i (.ext d))
theorem dg_name {x : Str} (i : Nat) (hi : N[i]? = some x := by rfl) (hx : LocS sc x := by first | exact Or.inl rfl | exact Or.inr ⟨rfl, rfl⟩) : DG G N sc (.Name x pos) [i] (gSet i) :=
  ⟨gName i, fun W k X S => pg_name (by rw [S.nms]; exact S.nd) (by rw [S.nms]; exact hi) (S.loc hx).1 (S.loc hx).2,
    fun e env T F σ H v d Q R hh rd ht hR => hR _ _ ((hh.pushE rd).assign i trivial) ⟨fun j hj => List.getElem?_set_ne (fun z => hj (by rw [← z]; exact List.mem_singleton.mpr rfl)), List.length_set⟩ ht⟩
abbrev DTGs := List D → Env' → (Env' → Prop) → Prop
def ImGs (K : PySem.W.Frag) (us : List Nat) (g : TGs) (t : DTGs) : Prop := ∀ (e : Ent) (env : Env') (T : Tmp) (F : Hp) (σ : St) (H : Hp) (vs : List V) (ds : List D) (Q : Env' → Prop) (R : St → Hp → Prop),
  Holds K e env T F σ H → Reps K F ds vs → t ds env Q → (∀ env' σ', Holds K e env' T F σ' H → Only us σ σ' → Q env' → R σ' H) → g vs σ H R
structure DGs (G : GG) (N : List Str) (sc : SC) (tgs : List Expr) (vs : List Nat) (t : DTGs) : Prop where
  ex : ∃ g, (∀ W k X, Sit G N sc W k X → PGs X tgs g) ∧ ImGs G.K vs g t
def gsNil : DTGs := fun ds env Q => ds = [] ∧ Q env
def gsCons (t : DTG) (u : DTGs) : DTGs := fun ds env Q => match ds with
  | d :: r => t d env fun env1 => u r env1 Q
  | [] => False
theorem dgs_nil : DGs G N sc [] [] gsNil := ⟨gNil, fun W k X S => pgs_nil, fun e env T F σ H vs ds Q R hh rd ht hR => by
    obtain ⟨rfl, ht⟩ := ht
    exact ⟨rd, hR env σ hh ⟨fun _ _ => rfl, rfl⟩ ht⟩⟩
theorem dgs_cons {e : Expr} {es : List Expr} {vs us : List Nat} {t : DTG} {u : DTGs} (h1 : DG G N sc e vs t) (h2 : DGs G N sc es us u)
    (hs : ∀ env, (assignEach (e :: es) env).map (·.2) = assign e env :: (assignEach es env).map (·.2) := by intro _; rfl) : DGs G N sc (e :: es) (vs ++ us) (gsCons t u) := by
  obtain ⟨g, p1, i1⟩ := h1.ex
  obtain ⟨gs, p2, i2⟩ := h2.ex
  refine ⟨gCons g gs, fun W k X S => pgs_cons (p1 W k X S) (p2 W k X S) (hs _), fun en env T F σ H xs ds Q R hh rd ht hR => ?_⟩
  cases ds with
  | nil => exact ht.elim
  | cons d r =>
    obtain ⟨v, vr, rfl, r1, r2⟩ := rd
    refine ⟨v, vr, rfl, i1 en env T F σ H v d _ _ hh r1 ht fun env1 σ1 hh1 o1 q1 => ?_⟩
    exact i2 en env1 T F σ1 H vr r Q R hh1 r2 q1 fun env2 σ2 hh2 o2 q2 => hR env2 σ2 hh2 ⟨fun i hi => (o2.1 i fun z => hi (List.mem_append_right _ z)).trans (o1.1 i fun z => hi (List.mem_append_left _ z)), o2.2.trans o1.2⟩ q2
def gTupD (n : Nat) (t : DTGs) : DTG := fun d env Q => match d with
  | .tup ds => ds.length = n ∧ t ds env Q
  | .tk ds => ds.length = n ∧ t ds env Q
  | _ => False
theorem dg_tup {es : List Expr} {kk : Nat} {vs : List Nat} {t : DTGs} {n : Nat} (h : DGs G N sc es vs t) (hn : ∀ env, (assignEach es env).length = n := by intro _; rfl) (hst : ∀ env, (assignEach es env).findIdx? (·.1) = none := by intro _; rfl) : DG G N sc (.Tuple es kk pos) vs (gTupD n t) := by
  obtain ⟨g, p1, i1⟩ := h.ex
  refine ⟨gTup G.K n g, fun W k X S => ?_, fun en env T F σ H v d Q R hh rd ht hR => ?_⟩
  · rw [← S.K]
    exact pg_tup S.calm (p1 W k X S) (hn _) (hst _)
  · cases d with
    | tup ds =>
      obtain ⟨a, xs, rfl, hs, hr⟩ := rd
      obtain ⟨hl, ht⟩ := ht
      exact ⟨a, xs, rfl, SqT.same hh.fh hs.sq, by rw [← hr.length]; exact hl, i1 en env T F σ H xs ds Q R hh hr ht hR⟩
    | tk ds =>
      obtain ⟨a, xs, rfl, hs, hr⟩ := rd
      obtain ⟨hl, ht⟩ := ht
      exact ⟨a, xs, rfl, SqT.same hh.fh hs, by rw [← hr.length]; exact hl, i1 en env T F σ H xs ds Q R hh hr ht hR⟩
    | _ => exact ht.elim
def sSet (i : Nat) (t : DT) : DTS := fun Ex E env => t Ex env fun x env1 => retD env1 x fun r env2 => E.nx (env2.set i r)
theorem imS_set {K : PySem.W.Frag} {W : WX} {te : TE} {t : DT} (i : Nat) (h : Im K W te t) : ImS K W (tAsg te (gName i)) (sSet i t) := fun e Ex hl env F σ H E Dn hh ht ok => by
  refine h e Ex hl env [] F σ H _ _ hh ht fun v H1 F1 env1 x hh1 q1 => ?_
  obtain ⟨r, env2, hh2, hp, q2⟩ := hh1.ret q1
  exact ok.nx _ F1 _ H1 (hh2.assign i hp) q2
theorem ds_set {x : Str} {pos' : Pos} (i : Nat) (h : DE G N sc k a ta) (hi : N[i]? = some x := by rfl) (hx : LocS sc x := by first | exact Or.inl rfl | exact Or.inr ⟨rfl, rfl⟩) (hs : ∀ env, env.scope = sc.sc → swapsWith a (some (.Name x pos')) pos.line env = pure false := by intro _ _; rfl) : DS G N sc k (.Assign [.Name x pos'] a pos) (sSet i ta) := ⟨fun W => by
  obtain ⟨te, p1, i1⟩ := h.ex W
  exact ⟨tAsg te (gName i), fun X S => ps_set (by rw [S.nms]; exact S.nd) (by rw [S.nms]; exact hi) (S.loc hx).1 (p1 X S) (hs _ S.scp) (S.loc hx).2, imS_set i i1⟩⟩
def sSetE (i : Nat) (t : DT) : DTS := fun Ex E env => t Ex env fun x env1 => frzD env1 x fun d env2 => E.nx (env2.set i (.ext d))
theorem imS_setE {K : PySem.W.Frag} {W : WX} {te : TE} {t : DT} (i : Nat) (h : Im K W te t) : ImS K W (tAsg te (gName i)) (sSetE i t) := fun e Ex hl env F σ H E Dn hh ht ok => by
  refine h e Ex hl env [] F σ H _ _ hh ht fun v H1 F1 env1 x hh1 q1 => ?_
  obtain ⟨d, F2, env2, _, hh2, rd, q2⟩ := hh1.frz1 q1
  exact ok.nx _ F2 _ H1 ((hh2.pushE rd).assign i trivial) q2
theorem ds_setE {x : Str} {pos' : Pos} (i : Nat) (h : DE G N sc k a ta) (hi : N[i]? = some x := by rfl) (hx : LocS sc x := by first | exact Or.inl rfl | exact Or.inr ⟨rfl, rfl⟩) (hs : ∀ env, env.scope = sc.sc → swapsWith a (some (.Name x pos')) pos.line env = pure false := by intro _ _; rfl) : DS G N sc k (.Assign [.Name x pos'] a pos) (sSetE i ta) := ⟨fun W => by
  obtain ⟨te, p1, i1⟩ := h.ex W
  exact ⟨tAsg te (gName i), fun X S => ps_set (by rw [S.nms]; exact S.nd) (by rw [S.nms]; exact hi) (S.loc hx).1 (p1 X S) (hs _ S.scp) (S.loc hx).2, imS_setE i i1⟩⟩
def sAsg (t : DT) (g : DTG) : DTS := fun Ex E env => t Ex env fun x env1 => frzD env1 x fun d env2 => g d env2 E.nx
theorem ds_asg {tg : Expr} {vs : List Nat} {g : DTG} (h : DE G N sc k a ta) (hg : DG G N sc tg vs g) (hs : ∀ env, swapsWithSole [tg] a pos.line env = pure false := by intro _; rfl) (hw : ∀ env, swappedStores [tg] a env = pure none := by intro _; rfl)
    (h1 : ∀ env, (assignEach [tg] env).map (·.2) = [assign tg env] := by intro _; rfl) : DS G N sc k (.Assign [tg] a pos) (sAsg ta g) := ⟨fun W => by
  obtain ⟨te, p1, i1⟩ := h.ex W
  obtain ⟨gg, p2, i2⟩ := hg.ex
  refine ⟨tAsg te gg, fun X S => ps_asg (p1 X S) (p2 W k X S) (hs _) (hw _) (h1 _), fun e Ex hl env F σ H E Dn hh ht ok => ?_⟩
  refine i1 e Ex hl env [] F σ H _ _ hh ht fun v H1 F1 env1 x hh1 q1 => ?_
  obtain ⟨d, F2, env2, _, hh2, rd, q2⟩ := hh1.frz1 q1
  exact i2 e env2 [] F2 σ H1 v d E.nx Dn.nx hh2 rd q2 fun env3 σ3 hh3 _ q3 => ok.nx env3 F2 σ3 H1 hh3 q3⟩
def Src (K : PySem.W.Frag) (J : It) (items : List D) (keep : Env' → Prop) (F0 : Hp) : Prop :=
  ∀ (e : Ent) (env : Env') (T : Tmp) (F : Hp) (σ : St) (H : Hp) (i : Nat), Holds K e env T F σ H → Same F0 F → keep env →
    (items.length = i → J.stop i H) ∧ ∀ d, items[i]? = some d → J.go i H ∧ ∀ x H2, J.yld i H x H2 → ∃ F2, Grow F H F2 H2 ∧ Rep K F2 d x
abbrev DTI := DX → Env' → (List D → (Env' → Prop) → Env' → Prop) → Prop
def ImI (K : PySem.W.Frag) (W : WX) (wi : TI) (t : DTI) : Prop := ∀ (e : Ent) (Ex : DX), Link K e W Ex → ∀ (env : Env') (T : Tmp) (F : Hp) (σ : St) (H : Hp) (Q : List D → (Env' → Prop) → Env' → Prop) (R : It → Hp → Prop),
  Holds K e env T F σ H → t Ex env Q → (∀ J H' F' env' items keep, Holds K e env' T F' σ H' → Src K J items keep F' → Q items keep env' → R J H') → wi σ H R
structure DI (G : GG) (N : List Str) (sc : SC) (k : Nat) (tg iter : Expr) (t : DTI) : Prop where
  ex : ∀ W : WX, ∃ wi, (∀ X, Sit G N sc W k X → PI X tg iter wi) ∧ ImI G.K W wi t
def atC (i : Nat) (b : Addr) (ds : List D) (env : Env') : Prop := ∃ d cs, env[i]? = some (.reg d cs) ∧ cellOf cs b = some (.lst ds)
def iterD (env : Env') (x : Sl) (q : List D → (Env' → Prop) → Prop) : Prop := match x with
  | .ext (.lst ds) => q ds fun _ => True
  | .lst _ ds => q ds fun _ => True
  | .al i a => match env[i]? with
    | some (.lst b ds) => b = a ∧ q ds fun env' => env'[i]? = some (.lst a ds)
    | _ => False
  | .ar i b => match env[i]? with
    | some (.reg _ cs) => match cellOf cs b with
      | some (.lst ds) => q ds (atC i b ds)
      | _ => False
    | _ => False
  | _ => False
def dIterT (t : DT) : DTI := fun Ex env Q => t Ex env fun x env1 => match x with
  | .ext (.tup ds) => Q ds (fun _ => True) env1
  | _ => False
def rgD (lo hi : Int) : List D := (List.range (hi - lo).toNat).map fun i => D.int (lo + (i : Nat))
theorem src_range {K : PySem.W.Frag} {F0 : Hp} {lo hi : Int} : Src K (Itr lo (hi - lo).toNat) (rgD lo hi) (fun _ => True) F0 := fun e env T F σ H i hh sm _ => by
  have hl : (rgD lo hi).length = (hi - lo).toNat := by
    unfold rgD
    rw [List.length_map, List.length_range]
  refine ⟨fun h => by rw [hl] at h; exact Nat.le_of_eq h, fun d hd => ?_⟩
  have hi' : i < (hi - lo).toNat := by
    rw [← hl]
    exact (List.getElem?_eq_some_iff.mp hd).1
  unfold rgD at hd
  rw [List.getElem?_map, List.getElem?_range hi'] at hd
  have ed := Option.some.inj hd
  refine ⟨hi', fun x H2 hy => ?_⟩
  obtain ⟨rfl, ex⟩ := hy
  refine ⟨F, Grow.refl hh.fh, ?_⟩
  rw [ex, ← ed]
  exact rfl
def small62 (i : Int) : Prop := -(2 ^ 62) ≤ i ∧ i < 2 ^ 62
def dRange1 (t : DTA) : DTI := fun Ex env Q => t Ex env fun xs env1 => match xs with
  | [.ext (.int j)] => small62 j ∧ Q (rgD 0 j) (fun _ => True) env1
  | _ => False
def dRange2 (t : DTA) : DTI := fun Ex env Q => t Ex env fun xs env1 => match xs with
  | [.ext (.int i), .ext (.int j)] => small62 i ∧ small62 j ∧ Q (rgD i j) (fun _ => True) env1
  | _ => False
theorem di_range1 {tg : Expr} {t : DTA} {p : Pos} (h : DAs G N sc k [a] t) (hm : G.mg "range" = none) (hg : GlS sc "range" := by rfl) (hs : ∀ env, starEach [a] env = [(false, eval a env)] := by intro _; rfl) : DI G N sc k tg (.Call (.Name "range" p) [a] [] pos) (dRange1 t) := ⟨fun W => by
  obtain ⟨te, p1, i1⟩ := h.ex W
  refine ⟨iRng1 te, fun X S => pi_range1 (S.gl hg) (by rw [S.mg]; exact hm) (p1 X S) (hs _), fun e Ex hl env T F σ H Q R hh ht hR => ?_⟩
  refine i1 e Ex hl env T F σ H _ _ hh ht fun vs H1 F1 env1 xs le hh1 q1 => ?_
  split at q1
  · rename_i j
    match vs, le, hh1 with
    | [v], _, hh1 =>
      have ev : v = .int j := hh1.temps (v, .ext (.int j)) List.mem_cons_self
      have z := src_range (K := G.K) (F0 := F1) (lo := 0) (hi := j)
      rw [Int.sub_zero] at z
      exact ⟨j, by rw [ev], q1.1.1, q1.1.2, hR _ H1 F1 env1 _ _ hh1.pop z q1.2⟩
  · exact q1.elim⟩
theorem di_range2 {b : Expr} {tg : Expr} {t : DTA} {p : Pos} (h : DAs G N sc k [a, b] t) (hm : G.mg "range" = none) (hg : GlS sc "range" := by rfl) (hs : ∀ env, starEach [a, b] env = [(false, eval a env), (false, eval b env)] := by intro _; rfl) (hs2 : ∀ env, starEach [b] env = [(false, eval b env)] := by intro _; rfl) :
    DI G N sc k tg (.Call (.Name "range" p) [a, b] [] pos) (dRange2 t) := ⟨fun W => by
  obtain ⟨te, p1, i1⟩ := h.ex W
  refine ⟨iRng2 te, fun X S => pi_range2 (S.gl hg) (by rw [S.mg]; exact hm) (p1 X S) (hs _) (hs2 _), fun e Ex hl env T F σ H Q R hh ht hR => ?_⟩
  refine i1 e Ex hl env T F σ H _ _ hh ht fun vs H1 F1 env1 xs le hh1 q1 => ?_
  split at q1
  · rename_i i j
    match vs, le, hh1 with
    | [v, w], _, hh1 =>
      have ev : v = .int i := hh1.temps (v, .ext (.int i)) List.mem_cons_self
      have ew : w = .int j := hh1.temps (w, .ext (.int j)) (List.mem_cons_of_mem _ List.mem_cons_self)
      exact ⟨i, j, by rw [ev, ew], ⟨q1.1.1, q1.1.2, q1.2.1.1, q1.2.1.2⟩, hR _ H1 F1 env1 _ _ hh1.pop.pop src_range q1.2.2⟩
  · exact q1.elim⟩
abbrev Ent.at (e : Ent) (F1 : Hp) : Ent := ⟨F1, e.H0, e.A0⟩
section
variable {K : PySem.W.Frag} {e : Ent} {env env1 : Env'} {T T1 : Tmp} {F F1 : Hp} {σ σ1 : St} {H H1 : Hp}
theorem Holds.on (h1 : Holds K e env1 T1 F1 σ1 H1) (h : Holds K e env T F σ H) (sm : Same F1 F) : Holds K (e.at F1) env T F σ H :=
  ⟨h.fh, h.len, h.slots, h.temps, h.nd, sm, fun a o q n => ⟨(h.s2 a o q n).1, fun z => (h.s2 a o q n).2 (h1.s1.free z)⟩, h.s3⟩
theorem Holds.off (h1 : Holds K e env1 T1 F1 σ1 H1) (h : Holds K (e.at F1) env T F σ H) : Holds K e env T F σ H :=
  ⟨h.fh, h.len, h.slots, h.temps, h.nd, h1.s1.trans h.s1, fun a o q n => ⟨(h.s2 a o q n).1, fun z => (h.s2 a o q n).2 ((h1.s2 a o q n).2 z)⟩, h.s3⟩
theorem Link.on {W : WX} {Ex : DX} (h1 : Holds K e env1 T1 F1 σ1 H1) (hl : Link K e W Ex) : Link K (e.at F1) W Ex := fun c d env F σ H h hx q => hl c d env F σ H (h1.off h) hx q
theorem EndsOk.on {E : DEnds} {Dn : Ends} (h1 : Holds K e env1 T1 F1 σ1 H1) (ok : EndsOk K e E Dn) : EndsOk K (e.at F1) E Dn :=
  ⟨fun env F σ H h q => ok.nx env F σ H (h1.off h) q, fun env F σ H v r h q => ok.rt env F σ H v r (h1.off h) q, fun env F σ H h q => ok.bk env F σ H (h1.off h) q, fun env F σ H h q => ok.ct env F σ H (h1.off h) q⟩
end
def forD (g : DTG) (body : DTS) (keep : Env' → Prop) (Ex : DX) (E : DEnds) : List D → Env' → Prop
  | [], env => keep env ∧ E.nx env
  | d :: ds, env => keep env ∧ g d env fun env1 => body Ex { E with nx := forD g body keep Ex E ds, ct := forD g body keep Ex E ds, bk := E.nx } env1
def sFor (ti : DTI) (g : DTG) (body : DTS) : DTS := fun Ex E env => ti Ex env fun items keep env1 => forD g body keep Ex E items env1
theorem forD_keep {g : DTG} {body : DTS} {keep : Env' → Prop} {Ex : DX} {E : DEnds} : ∀ {ds : List D} {env : Env'}, forD g body keep Ex E ds env → keep env
  | [], _, h => h.1
  | _ :: _, _, h => h.1
theorem ds_for {tg iter : Expr} {body : List Stmt} {ti : DTI} {vs : List Nat} {g : DTG} {tb : DTS} (hi : DI G N sc k tg iter ti) (hg : DG G N sc tg vs g) (hb : DSs G N sc k body tb) (hs : ∀ env x, foldedSetIterable iter env x = pure x := by intro _ _; rfl) : DS G N sc k (.For tg iter body [] pos) (sFor ti g tb) := ⟨fun W => by
  obtain ⟨wi, p1, i1⟩ := hi.ex W
  obtain ⟨gg, p2, i2⟩ := hg.ex
  obtain ⟨ts, p3, i3⟩ := hb.ex W
  refine ⟨tFor wi gg ts, fun X S => ps_for S.own S.calm (p1 X S) (p2 W k X S) (p3 X S) (hs _), fun e Ex hl env F σ H E Dn hh ht ok => ?_⟩
  refine i1 e Ex hl env [] F σ H _ _ hh ht fun J H1 F1 env1 items keep hh1 src q1 => ?_
  have ok' := ok.on hh1
  refine ⟨fun i m σ' H' => ∃ env' F', Holds G.K (e.at F1) env' [] F' σ' H' ∧ i + m = items.length ∧ forD g tb keep Ex E (items.drop i) env', ⟨items.length, env1, F1, hh1.on hh1 (Same.refl _), by omega, q1⟩, ?_⟩
  rintro i m σ2 H2 ⟨env2, F2, hh2, em, q2⟩
  obtain ⟨s1, s2⟩ := src (e.at F1) env2 [] F2 σ2 H2 i hh2 hh2.s1 (forD_keep q2)
  cases hd : items[i]? with
  | none =>
    have hi : items.length ≤ i := List.getElem?_eq_none_iff.mp hd
    rw [List.drop_eq_nil_of_le hi] at q2
    exact .inl ⟨s1 (by omega), ok'.nx env2 F2 σ2 H2 hh2 q2.2⟩
  | some d =>
    obtain ⟨hi, ed⟩ := List.getElem?_eq_some_iff.mp hd
    rw [List.drop_eq_getElem_cons hi, ed] at q2
    obtain ⟨_, q2⟩ := q2
    obtain ⟨go, yl⟩ := s2 d hd
    refine .inr ⟨go, fun σ' H' => ∃ env' F', Holds G.K (e.at F1) env' [] F' σ' H' ∧ forD g tb keep Ex E (items.drop (i + 1)) env', fun σ' H' ⟨env', F', a1, a3⟩ => ⟨m - 1, by omega, env', F', a1, by omega, a3⟩, fun x H3 hy => ?_⟩
    obtain ⟨F3, gr, rd⟩ := yl x H3 hy
    refine i2 (e.at F1) env2 [] F3 σ2 H3 x d _ _ (hh2.grow gr) rd q2 fun env4 σ4 hh4 _ q4 => ?_
    exact i3 (e.at F1) Ex (hl.on hh1) env4 F3 σ4 H3 _ _ hh4 q4 ⟨fun env5 F5 σ5 H5 hh5 q5 => ⟨env5, F5, hh5, q5⟩, ok'.rt, fun env5 F5 σ5 H5 hh5 q5 => ok'.nx env5 F5 σ5 H5 hh5 q5, fun env5 F5 σ5 H5 hh5 q5 => ⟨env5, F5, hh5, q5⟩⟩⟩
end
end HD
namespace HD
open PySem L2
def wipeE (env : Env') : List Nat → Env'
  | [] => env
  | v :: vs => (wipeE env vs).set v .un
section
variable {K : PySem.W.Frag} {e : Ent} {env : Env'} {T : Tmp} {F : Hp} {σ : St} {H : Hp}
theorem Holds.wipe1 (h : Holds K e env T F σ H) (i : Nat) : Holds K e (env.set i .un) T F (σ.set i none) H := by
  have h1 := h.unset i
  refine ⟨h1.fh, by rw [List.length_set, List.length_set]; exact h.len, fun j sl q => ?_, h1.temps, h1.nd, h1.s1, h1.s2, h1.s3⟩
  by_cases ij : i = j
  · subst ij
    rw [List.getElem?_set] at q
    rw [if_pos rfl] at q
    split at q
    · cases q
      exact .inl rfl
    · cases q
  · rcases h1.slots j sl q with z | ⟨v, hv, ok⟩
    · exact .inl z
    · exact .inr ⟨v, by rw [List.getElem?_set_ne ij]; exact hv, ok⟩
theorem Holds.wipe (h : Holds K e env T F σ H) : ∀ vs : List Nat, Holds K e (wipeE env vs) T F (wipe σ vs) H
  | [] => h
  | v :: vs => (Holds.wipe h vs).wipe1 v
theorem Holds.unwipe {vs : List Nat} (h : Holds K e env T F (L2.wipe σ vs) H) : Holds K e env T F σ H :=
  ⟨h.fh, by rw [h.len, wipe_length], fun j sl q => by
    rcases h.slots j sl q with z | ⟨v, hv, ok⟩
    · exact .inl z
    · exact .inr ⟨v, (wipe_some hv).1, ok⟩, h.temps, h.nd, h.s1, h.s2, h.s3⟩
end
theorem wipe_in {σ : St} {i : Nat} : ∀ {vs : List Nat}, i ∈ vs → i < σ.length → (wipe σ vs)[i]? = some none
  | [], h, _ => nomatch h
  | v :: vs, h, hl => by
    unfold wipe
    rw [List.getElem?_set]
    by_cases e : v = i
    · rw [if_pos e, if_pos (by rw [wipe_length, e]; exact hl)]
    · rw [if_neg e]
      rcases List.mem_cons.mp h with z | z
      · exact absurd z.symm e
      · exact wipe_in z hl
theorem wipe_only {σ σ2 : St} {vs : List Nat} (h : Only vs (wipe σ vs) σ2) : wipe σ2 vs = wipe σ vs := by
  have hl : σ2.length = σ.length := by rw [h.2, wipe_length]
  refine List.ext_getElem? fun i => ?_
  by_cases m : i ∈ vs
  · by_cases il : i < σ.length
    · rw [wipe_in m il, wipe_in m (by rw [hl]; exact il)]
    · rw [List.getElem?_eq_none (by rw [wipe_length, hl]; omega), List.getElem?_eq_none (by rw [wipe_length]; omega)]
  · rw [wipe_out m, h.1 i m]
section
variable {G : GG} {N : List Str} {sc : SC} {k : Nat}
theorem Sit.blk {W : WX} {X : Cx} (S : Sit G N sc W k X) (s : Shared) (H : Hp) (scope : Scope) (C : Addr) (cl : List (Str × Addr)) (fp : List Addr) : Sit G N (lcS scope sc) (fun _ _ _ _ => False) k (X.blk s H scope (compEnvC scope cl C X.env) fp) where
  prog := S.prog
  w := S.w
  K := S.K
  mg := S.mg
  base := S.base
  nms := S.nms
  nd := S.nd
  scp := by
    show relabel scope X.env = relab scope sc.sc
    unfold relabel relab
    rw [← S.scp]
    rfl
  calm := S.calm
  room := S.room
  tk := L2.takes0
  fn := fun x h => h
  own := PassesOwn.never
  stk := fun z => by cases z
  gd := S.gd
def dYes : DTT := fun _ env Q => Q true env
structure DTl (G : GG) (N : List Str) (sc : SC) (k : Nat) (ifs : List Expr) (t : DTT) : Prop where
  ex : ∀ W : WX, ∃ te, (∀ X, Sit G N sc W k X → PTs X ifs te) ∧ ImT G.K W te t
theorem dtl_nil : DTl G N sc k [] dYes := ⟨fun W => ⟨tYes, fun X S => pts_nil, fun e Ex hl env T F σ H Q R hh ht hR => hR true H F env hh ht⟩⟩
abbrev noX : DX := fun _ _ => False
def lcD (g : DTG) (tt : DTT) (te : DT) (vs : List Nat) (keep : Env' → Prop) (Q : Sl → Env' → Prop) : List D → List D → Env' → Prop
  | [], acc, env => keep env ∧ ∀ a, Q (.lst a acc) env
  | d :: ds, acc, env => keep env ∧ acc.length < sizeLine ∧ g d env fun env1 => tt noX env1 fun b env2 =>
      if b = true then te noX env2 fun x env3 => frzD env3 x fun d' env4 => lcD g tt te vs keep Q ds (acc ++ [d']) (wipeE env4 vs) else lcD g tt te vs keep Q ds acc (wipeE env2 vs)
def dLc (ti : DTI) (g : DTG) (tt : DTT) (te : DT) (vs : List Nat) : DT := fun Ex env Q => ti Ex env fun items keep env1 => lcD g tt te vs keep Q items [] (wipeE env1 vs)
theorem lcD_keep {g : DTG} {tt : DTT} {te : DT} {vs : List Nat} {keep : Env' → Prop} {Q : Sl → Env' → Prop} : ∀ {ds acc : List D} {env : Env'}, lcD g tt te vs keep Q ds acc env → keep env
  | [], _, _, h => h.1
  | _ :: _, _, _, h => h.1
theorem im_lc {K : PySem.W.Frag} {W : WX} {wi : TI} {gg : TG} {tt' : TT} {te' : TE} {ti : DTI} {g : DTG} {tt : DTT} {te : DT} {vs : List Nat} (i1 : ImI K W wi ti) (i2 : ImG K vs gg g) (i3 : ImT K (fun _ _ _ _ => False) tt' tt) (i4 : Im K (fun _ _ _ _ => False) te' te) : Im K W (tLc wi gg tt' te' vs) (dLc ti g tt te vs) := fun e Ex hl env T F σ H Q R hh ht hR => by
  refine i1 e Ex hl env T F σ H _ _ hh ht fun J H1 F1 env1 items keep hh1 src q1 => fun D hD => ?_
  have nl : Link K (e.at F1) (fun _ _ _ _ => False) noX := fun _ _ _ _ _ _ _ _ z => z
  have h0 : Holds K e env1 ((V.ref D, Sl.lst D []) :: T) F1 σ (upd H1 D (.lst [])) := hh1.push (Grow.loose hh1.fh hD) ⟨rfl, hh1.fh.free hD, [], upd_same, rfl⟩ fun a ha => by
    rw [List.mem_singleton.mp ha]
    exact hD
  refine ⟨fun i m H' => ∃ env' F' acc, Holds K (e.at F1) env' ((V.ref D, Sl.lst D acc) :: T) F' (wipe σ vs) H' ∧ i + m = items.length ∧ lcD g tt te vs keep Q (items.drop i) acc env',
    ⟨items.length, wipeE env1 vs, F1, [], (hh1.on h0 (Same.refl _)).wipe vs, by omega, q1⟩, ?_⟩
  rintro i m H2 ⟨env2, F2, acc, hh2, em, q2⟩
  obtain ⟨s1, s2⟩ := src (e.at F1) env2 _ F2 _ H2 i hh2 hh2.s1 (lcD_keep q2)
  cases hd : items[i]? with
  | none =>
    have hi : items.length ≤ i := List.getElem?_eq_none_iff.mp hd
    rw [List.drop_eq_nil_of_le hi] at q2
    exact .inl ⟨s1 (by omega), hR _ H2 F2 env2 _ (hh1.off hh2.unwipe) (q2.2 D)⟩
  | some d =>
    obtain ⟨hi, ed⟩ := List.getElem?_eq_some_iff.mp hd
    rw [List.drop_eq_getElem_cons hi, ed] at q2
    obtain ⟨_, hz, q2⟩ := q2
    obtain ⟨go, yl⟩ := s2 d hd
    refine .inr ⟨go, fun H' => ∃ env' F' acc, Holds K (e.at F1) env' ((V.ref D, Sl.lst D acc) :: T) F' (wipe σ vs) H' ∧ lcD g tt te vs keep Q (items.drop (i + 1)) acc env', fun H' ⟨env', F', acc', a1, a3⟩ => ⟨m - 1, by omega, env', F', acc', a1, by omega, a3⟩, fun x H3 hy => ?_⟩
    obtain ⟨F3, gr, rd⟩ := yl x H3 hy
    refine i2 (e.at F1) env2 _ F3 _ H3 x d _ _ (hh2.grow gr) rd q2 fun env4 σ4 hh4 on4 q4 => ⟨wipe_only on4, ?_⟩
    refine i3 (e.at F1) noX nl env4 _ F3 σ4 H3 _ _ hh4 q4 fun b H5 F5 env5 hh5 q5 => ?_
    cases b with
    | false =>
      rw [if_neg Bool.false_ne_true] at q5 ⊢
      have z := hh5.wipe vs
      rw [wipe_only on4] at z
      exact ⟨_, F5, acc, z, q5⟩
    | true =>
      rw [if_pos rfl] at q5 ⊢
      refine i4 (e.at F1) noX nl env5 _ F5 σ4 H5 _ _ hh5 q5 fun y H6 F6 env6 sl hh6 q6 => ?_
      obtain ⟨d', F7, env7, _, hh7, rd', q7⟩ := hh6.frz1 q6
      obtain ⟨_, _, us, hu, hr⟩ := hh7.temps (V.ref D, Sl.lst D acc) List.mem_cons_self
      refine ⟨us, hu, by rw [← hr.length]; exact hz, ?_⟩
      have z := (hh7.writeT (hr.append (.one rd'))).wipe vs
      rw [wipe_only on4] at z
      exact ⟨_, F7, _, z, q7⟩
variable {elt tg iter : Expr} {ifs : List Expr} {scope : Scope} {own : List (Str × Nat)} {pos : Pos} {ti : DTI} {g : DTG} {tt : DTT} {te : DT}
theorem de_lc (own : List (Str × Nat)) (hi : DI G N sc k tg iter ti) (ok : blkC N sc.sc scope own = true) (hg : DG G N (lcS scope sc) tg (own.map (·.2)) g) (ht : DTl G N (lcS scope sc) k ifs tt) (he : DE G N (lcS scope sc) k elt te) (hs : ∀ env x, foldedSetIterable iter env x = pure x := by intro _ _; rfl) :
    DE G N sc k (.ListComp elt [⟨tg, iter, ifs, 0⟩] scope pos) (dLc ti g tt te (own.map (·.2))) := ⟨fun W => by
  obtain ⟨wi, p1, i1⟩ := hi.ex W
  obtain ⟨gg, p2, i2⟩ := hg.ex
  obtain ⟨tt', p3, i3⟩ := ht.ex fun _ _ _ _ => False
  obtain ⟨te', p4, i4⟩ := he.ex fun _ _ _ _ => False
  refine ⟨tLc wi gg tt' te' (own.map (·.2)), fun X S => ?_, im_lc i1 i2 i3 i4⟩
  exact pe_lc S.calm (by rw [S.nms]; exact S.nd) (p1 X S) (by rw [S.nms, S.scp]; exact blkOk_by ok) (fun s H C cl fp => p2 _ _ _ (S.blk s H scope C cl fp)) (fun s H C cl fp => p3 _ (S.blk s H scope C cl fp)) (fun s H C cl fp => p4 _ (S.blk s H scope C cl fp)) (hs _)⟩
theorem start_holds {K : PySem.W.Frag} {e : Ent} {args : Env'} {F H : Hp} {vs : List V} (N : List Str) (h : Holds K e args [] F (vs.map some) H) : Holds K e (args ++ List.replicate (N.length - vs.length) .un) [] F (L2.start N vs) H := by
  have own : ownedE (args ++ List.replicate (N.length - vs.length) Sl.un) = ownedE args := by
    unfold ownedE
    rw [List.flatMap_append]
    have z : (List.replicate (N.length - vs.length) Sl.un).flatMap Sl.owned = [] := by
      rw [List.flatMap_eq_nil_iff]
      intro x hx
      rw [List.eq_of_mem_replicate hx]
      rfl
    rw [z, List.append_nil]
  have hl : args.length = vs.length := by
    have z := h.len
    rw [List.length_map] at z
    exact z
  refine ⟨h.fh, ?_, fun i sl q => ?_, h.temps, by rw [own]; exact h.nd, h.s1, h.s2, by rw [own]; exact h.s3⟩
  · unfold L2.start
    rw [List.length_append, List.length_append, List.length_replicate, List.length_replicate, h.len]
  · by_cases hi : i < args.length
    · rw [List.getElem?_append_left hi] at q
      rcases h.slots i sl q with z | ⟨v, hv, ok⟩
      · exact .inl z
      · refine .inr ⟨v, ?_, ok⟩
        unfold L2.start
        rw [List.getElem?_append_left (by rw [List.length_map, ← hl]; exact hi)]
        exact hv
    · rw [List.getElem?_append_right (by omega)] at q
      rw [List.getElem?_replicate] at q
      split at q
      · cases q
        exact .inl rfl
      · cases q
abbrev endsOf (args : Env') (Qd : Sl → List Sl → Prop) : DEnds := { nx := fun env => Qd (.ext .non) (finals args env), rt := fun r env => Qd r (finals args env) }
abbrev exOf (args : Env') (Xd : Str → List Sl → Prop) : DX := fun c env => Xd c (finals args env)
theorem fn_ok {st : Stmt} {x qual : Str} {f : Addr} {fd : FuncData} {ps : List Str} {tb : DTS} {spec : DSpec} (F : Fun G.K x qual st f fd) (S : FnScope N ps (defScope st)) (hb : DSs G N (fnS (defScope st)) k (defBody st) tb)
    (h : ∀ args Qd Xd, spec args Qd Xd → args.length = ps.length → tb (exOf args Xd) (endsOf args Qd) (args ++ List.replicate (N.length - args.length) .un)) : FnG G.P G.w G.K G.mg G.base (L2.CX G.P G.w) (k + 1) f fd ps (toSp G.K ps.length spec) := by
  refine fnG_of F S (fun vs H Q E h => ?_) (fun cdv A outer s H vs Q E gd hr hsp => ?_)
  · obtain ⟨_, _, _, _, hl, _⟩ := h
    exact hl
  · obtain ⟨F0, args, Qd, Xd, hl, hA, hs, hQ, hX⟩ := hsp
    obtain ⟨ts, p1, i1⟩ := hb.ex fun cls d _ H => E cls d H
    have al : args.length = vs.length := by
      have z := hA.len
      rw [List.length_map] at z
      exact z
    refine ⟨ts, p1 _ ?_, ?_⟩
    · exact ⟨rfl, rfl, rfl, rfl, rfl, rfl, S.nd, rfl, rfl, hr, takes_of rfl rfl rfl rfl, fun _ _ => rfl, passes_of rfl, fun _ => ⟨rfl, rfl⟩, gd⟩
    · have hh := start_holds N hA
      rw [← al] at hh
      refine i1 (entOf F0 H args) (exOf args Xd) (fun c d env F' σ' H' hh' hx q => hX c d H' F' _ (hA.finals hh') hx q) _ F0 _ H (endsOf args Qd) _ hh (h args Qd Xd hs (al.trans hl)) ⟨fun env F' σ' H' hh' q => ?_, fun env F' σ' H' v r hh' q => hQ v H' F' r _ (hA.finals hh') q, fun _ _ _ _ _ z => z, fun _ _ _ _ _ z => z⟩
      exact hQ .non H' F' (.ext .non) _ (hA.finals (hh'.pushE rfl)) q
end
end HD
namespace HD
open PySem L2
def SqX (b : Bool) (K : PySem.W.Frag) (H : Hp) (a : Addr) (xs : List V) : Prop := if b = true then SqT K H a xs else SqL K H a xs
def ItX (b : Bool) (h : Heap) (it a : Addr) (i : Nat) : Prop := if b = true then h.IsTupleIter it a i else h.IsListIter it a i
def IsX (b : Bool) (h : Heap) (a : Addr) (items : Array Value) : Prop := if b = true then h.IsTuple a items else h.IsList a items
def objX (b : Bool) (a : Addr) : Obj := if b = true then { cls := .type "tuple_iterator", data := .fields #[.ref a, .int 0 0] } else { cls := .type "list_iterator", data := .fields #[.ref a, .int 0 0] }
theorem IsX.lt {b : Bool} {h : Heap} {a : Addr} {items : Array Value} (x : IsX b h a items) : a < h.objs.size := by
  cases b with
  | true =>
    obtain ⟨o, e, _⟩ := (x : h.IsTuple a items)
    exact Heap.lt_size e
  | false =>
    obtain ⟨o, e, _⟩ := (x : h.IsList a items)
    exact Heap.lt_size e
theorem draws_X {prog : Program} {w : World} {A : Around} (b : Bool) (hh : A.handled = none) (it l : Addr) (hne : l ≠ it) (items : Array Value) : Draws prog w A it [it, l] items.size (fun i v => items[i]? = some v) (fun i h => ItX b h it l i ∧ IsX b h l items) := by
  cases b with
  | true => exact Draws.tuple hh it l hne items
  | false => exact Draws.list hh it l hne items
theorem begins_X (b : Bool) (l : Addr) (items : Array Value) : Begins (.ref l) (objX b l) fun h => IsX b h l items := by
  cases b with
  | true => exact begins_tuple l items
  | false => exact begins_list l items
theorem itX_new {b : Bool} {h : Heap} {it a : Addr} (e : h.get? it = some (objX b a)) : ItX b h it a 0 := by
  cases b with
  | true => exact ⟨_, e, rfl, rfl⟩
  | false => exact ⟨_, e, rfl, rfl⟩
theorem ItX.at {b : Bool} {h h' : Heap} {it a : Addr} {i : Nat} (x : ItX b h it a i) (k : ∀ o, h.get? it = some o → h'.get? it = some o) : ItX b h' it a i := by
  cases b with
  | true => exact Heap.IsTupleIter.at (h := h) x k
  | false => exact Heap.IsListIter.at (h := h) x k
theorem ItX.obj {b : Bool} {h : Heap} {it a : Addr} {i : Nat} (x : ItX b h it a i) : ∃ o, h.get? it = some o ∧ ∀ v, o.data ≠ .cell v := by
  cases b with
  | true =>
    obtain ⟨o, e, _, d⟩ := (x : h.IsTupleIter it a i)
    exact ⟨o, e, fun v q => by rw [d] at q; cases q⟩
  | false =>
    obtain ⟨o, e, _, d⟩ := (x : h.IsListIter it a i)
    exact ⟨o, e, fun v q => by rw [d] at q; cases q⟩
theorem Inv.seqX {X : Cx} {pins : List (Addr × Obj)} {σ : L2.St} {H : Hp} {s : Shared} {b : Bool} {a : Addr} {xs : List V} (I : L2.Inv X pins σ H s) (h : SqX b X.K H a xs) : ∃ its : List Value, Vals xs its ∧ IsX b s.heap a its.toArray := by
  cases b with
  | true =>
    obtain ⟨its, r, p, _⟩ := I.tuple h
    exact ⟨its, r, p⟩
  | false =>
    obtain ⟨its, r, p, _⟩ := I.list h
    exact ⟨its, r, p.isList⟩
theorem seqX_inj {X : Cx} {pins : List (Addr × Obj)} {σ : L2.St} {H : Hp} {s : Shared} {b : Bool} {a : Addr} {xs ys : List V} (I : L2.Inv X pins σ H s) (h : SqX b X.K H a xs) (h' : SqX b X.K H a ys) : xs = ys := by
  cases b with
  | true => exact I.tuple_inj h h'
  | false => exact I.list_inj h h'
def ItzX (b1 b2 : Bool) (K : PySem.W.Frag) (a b : Addr) : It :=
  ⟨fun i H => ∃ (xs ys : List V) (x y : V), SqX b1 K H a xs ∧ SqX b2 K H b ys ∧ xs[i]? = some x ∧ ys[i]? = some y,
    fun i H v H' => ∃ T x y, v = .ref T ∧ H T = none ∧ H' = upd H T (.tup [x, y]) ∧ (∀ xs, SqX b1 K H a xs → xs[i]? = some x) ∧ ∀ ys, SqX b2 K H b ys → ys[i]? = some y,
    fun i H => ∃ xs ys : List V, SqX b1 K H a xs ∧ SqX b2 K H b ys ∧ i = min xs.length ys.length⟩
theorem turn_zipX {P : Program} {w : World} {K : PySem.W.Frag} {elts : List Expr} {kk : Nat} {tpos : Pos} {b1 b2 : Bool} {a b n : Addr} (la : a < n) (lb : b < n) :
    Turn P w K (.Tuple elts kk tpos) (ItzX b1 b2 K a b) [n + 4, n + 2, n + 3, n, n + 1] (n + 4) (fun i h => IsZip h (n + 4) (n + 2) (n + 3) .none ∧ IsTupOf2 h (n + 2) (.ref n) (.ref (n + 1)) ∧ (∃ x y, IsTupOf2 h (n + 3) x y) ∧ ItX b1 h n a i ∧ ItX b2 h (n + 1) b i) where
  mem := by simp
  obj := fun i h st c hc => by
    obtain ⟨hz, hTI, ⟨x, y, hTO⟩, h1, h2⟩ := st
    have e' : c = n + 4 ∨ c = n + 2 ∨ c = n + 3 ∨ c = n ∨ c = n + 1 := by simpa using hc
    rcases e' with q | q | q | q | q
    · rw [q]
      exact ⟨_, hz, fun v q => nomatch q⟩
    · rw [q]
      exact ⟨_, hTI, fun v q => nomatch q⟩
    · rw [q]
      exact ⟨_, hTO, fun v q => nomatch q⟩
    · rw [q]
      exact h1.obj
    · rw [q]
      exact h2.obj
  keep := fun i h h' st k => by
    obtain ⟨hz, hTI, ⟨x, y, hTO⟩, h1, h2⟩ := st
    exact ⟨k (n + 4) (by simp) _ hz, k (n + 2) (by simp) _ hTI, ⟨x, y, k (n + 3) (by simp) _ hTO⟩, h1.at fun o q => k n (by simp) o q, h2.at fun o q => k (n + 1) (by simp) o q⟩
  item := by
    intro X hP hw hK hc i pins s σ H E I hf st hg
    subst hP hw hK
    obtain ⟨hz, hTI, hTO, h1, h2⟩ := st
    obtain ⟨xs, ys, x, y, hqx, hqy, hx, hy⟩ := hg
    obtain ⟨its, rv, p1⟩ := Inv.seqX I hqx
    obtain ⟨its2, rv2, p2⟩ := Inv.seqX I hqy
    obtain ⟨u, hu, ru⟩ := rv.get hx
    obtain ⟨u2, hu2, ru2⟩ := rv2.get hy
    have hh := I.ok.hd hc
    have Z := GoesN.zip2 (elts := elts) (x1 := kk) (pos := tpos) (zip_sep2 (N := n) (fp1 := [a]) (fp2 := [b]) (fun c hc => by rw [List.mem_singleton.mp hc]; exact la) (fun c hc => by rw [List.mem_singleton.mp hc]; exact lb))
      (draws_X (prog := X.prog) (w := X.w) (A := X.A.in1) b1 hh n a (Nat.ne_of_lt la) its.toArray) (draws_X (prog := X.prog) (w := X.w) (A := X.A.in1) b2 hh (n + 1) b (Nat.ne_of_lt (Nat.lt_succ_of_lt lb)) its2.toArray)
    have hi1 : i < its.length := (List.getElem?_eq_some_iff.mp hu).1
    have hi2 : i < its2.length := (List.getElem?_eq_some_iff.mp hu2).1
    refine Z.goes i s _ E (by rw [List.size_toArray, List.size_toArray]; omega) ⟨hz, hTI, hTO, ⟨h1, p1⟩, ⟨h2, p2⟩⟩ fun v h' tk hY st' hk htk => ?_
    obtain ⟨T, x', y', rfl, hT, hx', hy', hTup⟩ := hY
    rw [List.getElem?_toArray, hu] at hx'
    rw [List.getElem?_toArray, hu2] at hy'
    cases hx'
    cases hy'
    obtain ⟨hz', hTI', hTO', ⟨h1', _⟩, ⟨h2', _⟩⟩ := st'
    have new : ObjOk X.prog X.w (upd H T (.tup [x, y])) h' T (.tup [x, y]) := ⟨by show 2 ≤ sizeLine; decide, [u, u2], .cons ru (.cons ru2 .nil), hTup⟩
    have I1 : L2.Inv X pins σ (upd H T (.tup [x, y])) { s with heap := h', toks := tk } :=
      I.turnedNew (t' := tk) (ch := [n + 4, n + 2, n + 3, n, n + 1]) (fun c o hb q => hk c o (fun m => hb (by
        have m' : c = n + 4 ∨ c = n + 3 ∨ c = n ∨ c = n + 1 := by simpa using m
        rcases m' with m | m | m | m <;> simp [m])) q) hf hT new
    refine ⟨.ref T, _, I1, rfl, ⟨T, x, y, rfl, I.hok.fresh hT, rfl, fun l hl => by rw [seqX_inj I hl hqx]; exact hx, fun l hl => by rw [seqX_inj I hl hqy]; exact hy⟩, ⟨hz', hTI', hTO', h1', h2'⟩, fun c hcm => ?_⟩
    have hlt : c < s.heap.objs.size := by
      have e' : c = n + 4 ∨ c = n + 2 ∨ c = n + 3 ∨ c = n ∨ c = n + 1 := by simpa using hcm
      obtain ⟨a1, a2, hTO⟩ := hTO
      rcases e' with q | q | q | q | q
      · rw [q]; exact Heap.lt_size hz
      · rw [q]; exact Heap.lt_size hTI
      · rw [q]; exact Heap.lt_size hTO
      · rw [q]; obtain ⟨_, e1, _⟩ := h1.obj; exact Heap.lt_size e1
      · rw [q]; obtain ⟨_, e1, _⟩ := h2.obj; exact Heap.lt_size e1
    rw [upd_ne (Nat.ne_of_lt (Nat.lt_of_lt_of_le hlt hT))]
    exact (hf c hcm).1
  done := by
    intro X hP hw hK hc i pins s σ H E I hf st hg
    subst hP hw hK
    obtain ⟨hz, hTI, hTO, h1, h2⟩ := st
    obtain ⟨xs, ys, hqx, hqy, hend⟩ := hg
    obtain ⟨its, rv, p1⟩ := Inv.seqX I hqx
    obtain ⟨its2, rv2, p2⟩ := Inv.seqX I hqy
    have hh := I.ok.hd hc
    have Z := GoesN.zip2 (elts := elts) (x1 := kk) (pos := tpos) (zip_sep2 (N := n) (fp1 := [a]) (fp2 := [b]) (fun c hc => by rw [List.mem_singleton.mp hc]; exact la) (fun c hc => by rw [List.mem_singleton.mp hc]; exact lb))
      (draws_X (prog := X.prog) (w := X.w) (A := X.A.in1) b1 hh n a (Nat.ne_of_lt la) its.toArray) (draws_X (prog := X.prog) (w := X.w) (A := X.A.in1) b2 hh (n + 1) b (Nat.ne_of_lt (Nat.lt_succ_of_lt lb)) its2.toArray)
    have en : i = min its.toArray.size its2.toArray.size := by
      rw [List.size_toArray, List.size_toArray, ← rv.length, ← rv2.length]
      exact hend
    rw [en] at h1 h2
    refine Z.stops s _ E ⟨hz, hTI, hTO, ⟨h1, p1⟩, ⟨h2, p2⟩⟩ fun h' tk hk htk => ?_
    exact I.turnedL (t' := tk) (ch := [n + 4, n + 2, n + 3, n, n + 1]) (fun c o hb q => hk c o (fun m => hb (by
        have m' : c = n + 4 ∨ c = n + 3 ∨ c = n ∨ c = n + 1 := by simpa using m
        rcases m' with m | m | m | m <;> simp [m])) q) hf
  self := fun A i s Q E st h => wpAny_pyIter_zip st.1 h
def iZipX (K : PySem.W.Frag) (ta : TA) : TI := fun σ H R => ta σ H fun vs H1 => ∃ b1 b2 a b xs ys, vs = [.ref a, .ref b] ∧ SqX b1 K H1 a xs ∧ SqX b2 K H1 b ys ∧ R (ItzX b1 b2 K a b) H1
theorem pi_zipX {X : Cx} {e e2 : Expr} {ta : TA} {p pos tpos : Pos} {elts : List Expr} {kk : Nat} (hg : Gl X "zip") (hm : X.mg "zip" = none) (ha : PA X [e, e2] ta)
    (hs : starEach [e, e2] X.env = (false, eval e X.env) :: starEach [e2] X.env) (hpl : (backTo pos (starEach [e2] X.env)).any (·.1) = false) :
    PI X (.Tuple elts kk tpos) (.Call (.Name "zip" p) [e, e2] [] pos) (iZipX X.K ta) := by
  refine ⟨fun pins s σ H R I h => ?_⟩
  refine PyProof.Rows.Call_ (ld_blt I hg hm PyProof.Rows.boot_zip (PyProof.Rows.callWith_type1 (thn (ha.run pos pins s σ H _ I h) fun us s1 ⟨vs, H1, I1, r1, q1⟩ => ?_) hs hpl))
  obtain ⟨b1, b2, a, b, xs, ys, ex, hqx, hqy, q⟩ := q1
  subst ex
  obtain ⟨u1, u2, rfl, ru1, ru2⟩ := vals2 r1
  cases ru1
  cases ru2
  obtain ⟨its, rv, p1⟩ := Inv.seqX I1 hqx
  obtain ⟨its2, rv2, p2⟩ := Inv.seqX I1 hqy
  refine zip_begins2 (begins_X b1 a its.toArray) (begins_X b2 b its2.toArray) p1 p2 fun h' hz hTI hTO g1 g2 hsz hk => wpAny_pyIter_zip hz ?_
  have I2 : L2.Inv X pins σ H1 { s1 with heap := h' } := I1.kept (t' := s1.toks) hk
  refine ⟨s1.heap.objs.size + 4, [s1.heap.objs.size + 4, s1.heap.objs.size + 2, s1.heap.objs.size + 3, s1.heap.objs.size, s1.heap.objs.size + 1], _, _, H1, rfl, I2, turn_zipX p1.lt p2.lt, ⟨hz, hTI, ⟨_, _, hTO⟩, itX_new g1, itX_new g2⟩, fun c hcm => ?_, q⟩
  have e' : c = s1.heap.objs.size + 4 ∨ c = s1.heap.objs.size + 2 ∨ c = s1.heap.objs.size + 3 ∨ c = s1.heap.objs.size ∨ c = s1.heap.objs.size + 1 := by simpa using hcm
  have hle : s1.heap.objs.size ≤ c := by
    rcases e' with z | z | z | z | z
    · rw [z]; exact Nat.le_add_right _ _
    · rw [z]; exact Nat.le_add_right _ _
    · rw [z]; exact Nat.le_add_right _ _
    · rw [z]; exact Nat.le_refl _
    · rw [z]; exact Nat.le_add_right _ _
  exact I1.fpOk hle (I1.hok.fresh hle)
def seqD (env : Env') (x : Sl) (q : List D → (Env' → Prop) → Prop) : Prop := match x with
  | .ext (.tup ds) => q ds fun _ => True
  | x => iterD env x q
def dZip (ta tb : DT) : DTI := fun Ex env Q => ta Ex env fun x env1 => tb Ex env1 fun y env2 => seqD env2 x fun xs k1 => seqD env2 y fun ys k2 => Q ((xs.zip ys).map fun p => D.tk [p.1, p.2]) (fun env' => k1 env' ∧ k2 env') env2
def Stands (K : PySem.W.Frag) (b : Bool) (a : Addr) (ds : List D) (k : Env' → Prop) (F0 : Hp) : Prop :=
  ∀ (e : Ent) (env : Env') (T : Tmp) (F : Hp) (σ : L2.St) (H : Hp), Holds K e env T F σ H → Same F0 F → k env → ∃ vs, SqX b K H a vs ∧ Reps K F ds vs
theorem Stands.mono {K : PySem.W.Frag} {b : Bool} {a : Addr} {ds : List D} {k : Env' → Prop} {F0 F1 : Hp} (h : Stands K b a ds k F0) (sm : Same F0 F1) : Stands K b a ds k F1 := fun e env T F σ H hh s kk => h e env T F σ H hh (sm.trans s) kk
theorem Holds.seqD {K : PySem.W.Frag} {e : Ent} {env : Env'} {T : Tmp} {F : Hp} {σ : L2.St} {H : Hp} {v : V} {x : Sl} {q : List D → (Env' → Prop) → Prop} (h : Holds K e env ((v, x) :: T) F σ H) (w : HD.seqD env x q) :
    ∃ b a ds k F1, v = .ref a ∧ q ds k ∧ Same F F1 ∧ Holds K e env T F1 σ H ∧ Stands K b a ds k F1 ∧ k env := by
  have fz : ∀ (ds : List D) (F1 : Hp), Same F F1 → Holds K e env ((v, .ext (.lst ds)) :: T) F1 σ H → q ds (fun _ => True) → ∃ b a ds k F1, v = .ref a ∧ q ds k ∧ Same F F1 ∧ Holds K e env T F1 σ H ∧ Stands K b a ds k F1 ∧ k env := fun ds F1 sm h1 w => by
    obtain ⟨a, vs, rfl, hb, hr⟩ := h1.temps (v, .ext (.lst ds)) List.mem_cons_self
    exact ⟨false, a, ds, _, F1, rfl, w, sm, h1.pop, fun e' env' T' F' σ' H' hh s _ => ⟨vs, SqL.of (hh.fh _ _ (s _ _ hb)), hr.same s⟩, trivial⟩
  cases x with
  | un => exact w.elim
  | reg _ _ => exact w.elim
  | ar i b =>
    have ev : v = .ref b := h.temps (v, .ar i b) List.mem_cons_self
    have w' : (match env[i]? with | some (.reg _ cs) => (match cellOf cs b with | some (.lst ds) => q ds (atC i b ds) | _ => False) | _ => False) := w
    split at w'
    · rename_i d cs hc
      split at w'
      · rename_i ds hd
        refine ⟨false, b, ds, _, F, ev, w', Same.refl _, h.pop, fun e' env' T' F' σ' H' hh s kk => ?_, ⟨d, cs, hc, hd⟩⟩
        obtain ⟨d0, cs0, k1, k2⟩ := kk
        obtain ⟨_, o, hv, vs, rfl, hr⟩ := hh.cell k1 k2
        exact ⟨vs, SqL.of hv, hr⟩
      · exact w'.elim
    · exact w'.elim
  | ext d =>
    cases d with
    | tup ds =>
      obtain ⟨a, vs, rfl, hb, hr⟩ := h.temps (v, .ext (.tup ds)) List.mem_cons_self
      exact ⟨true, a, ds, _, F, rfl, w, Same.refl _, h.pop, fun e' env' T' F' σ' H' hh s _ => ⟨vs, SqT.same hh.fh (SqT.same s hb.sq), hr.same s⟩, trivial⟩
    | lst ds => exact fz ds F (Same.refl _) h w
    | _ => exact w.elim
  | lst b ds =>
    obtain ⟨F1, sm, h1⟩ := h.freezeT
    exact fz ds F1 sm h1 w
  | al i b =>
    have ev : v = .ref b := h.temps (v, .al i b) List.mem_cons_self
    have w' : (match env[i]? with | some (.lst c ds) => c = b ∧ q ds (fun env' => env'[i]? = some (.lst b ds)) | _ => False) := w
    split at w'
    · rename_i c ds hc
      obtain ⟨rfl, w'⟩ := w'
      refine ⟨false, c, ds, _, F, ev, w', Same.refl _, h.pop, fun e' env' T' F' σ' H' hh s kk => ?_, hc⟩
      rcases hh.slots i _ kk with z | ⟨u, hu, e1, e2, vs, hv, hr⟩
      · cases z
      · exact ⟨vs, SqL.of hv, hr⟩
    · exact w'.elim
theorem src_zip {K : PySem.W.Frag} {b1 b2 : Bool} {a b : Addr} {xs ys : List D} {k1 k2 : Env' → Prop} {F0 : Hp} (h1 : Stands K b1 a xs k1 F0) (h2 : Stands K b2 b ys k2 F0) : Src K (ItzX b1 b2 K a b) ((xs.zip ys).map fun p => D.tk [p.1, p.2]) (fun env => k1 env ∧ k2 env) F0 := fun e env T F σ H i hh sm kk => by
  obtain ⟨vs, s1, r1⟩ := h1 e env T F σ H hh sm kk.1
  obtain ⟨us, s2, r2⟩ := h2 e env T F σ H hh sm kk.2
  refine ⟨fun hi => ⟨vs, us, s1, s2, ?_⟩, fun d hd => ?_⟩
  · rw [List.length_map, List.length_zip, r1.length, r2.length] at hi
    exact hi.symm
  · rw [List.getElem?_map] at hd
    cases hz : (xs.zip ys)[i]? with
    | none =>
      rw [hz] at hd
      cases hd
    | some p =>
      rw [hz] at hd
      have ed := Option.some.inj hd
      obtain ⟨hx, hy⟩ := List.getElem?_zip_eq_some.mp hz
      obtain ⟨v, hv, rv⟩ := r1.get hx
      obtain ⟨u, hu, ru⟩ := r2.get hy
      refine ⟨⟨vs, us, v, u, s1, s2, hv, hu⟩, fun x H2 hyl => ?_⟩
      obtain ⟨T', x1, x2, rfl, nT, rfl, f1, f2⟩ := hyl
      have e1 := f1 _ s1
      rw [hv] at e1
      cases e1
      have e2 := f2 _ s2
      rw [hu] at e2
      cases e2
      have g := Grow.frozen (o := .tup [v, u]) hh.fh nT
      refine ⟨_, g, ?_⟩
      rw [← ed]
      exact ⟨T', [v, u], rfl, SqT.of upd_same, ⟨v, [u], rfl, Rep.same g.ff rv, u, [], rfl, Rep.same g.ff ru, rfl⟩⟩
section
variable {G : GG} {N : List Str} {sc : SC} {k : Nat} {a b : Expr} {ta tb : DT} {p pos tpos : Pos} {elts : List Expr} {kk : Nat}
theorem di_zip (ha : DE G N sc k a ta) (hb : DE G N sc k b tb) (hm : G.mg "zip" = none) (hg : GlS sc "zip" := by rfl) (hs : NoStar a [b] := by intro _; rfl) (hs2 : NoStar b [] := by intro _; rfl) (hpl : ∀ env, (backTo pos (starEach [b] env)).any (·.1) = false := by intro _; rfl) :
    DI G N sc k (.Tuple elts kk tpos) (.Call (.Name "zip" p) [a, b] [] pos) (dZip ta tb) := ⟨fun W => by
  obtain ⟨te, p1, i1⟩ := ha.ex W
  obtain ⟨tf, p2, i2⟩ := hb.ex W
  refine ⟨iZipX G.K (tCons te (tCons tf tNil)), fun X S => ?_, fun e Ex hl env T F σ H Q R hh ht hR => ?_⟩
  · rw [← S.K]
    exact pi_zipX (S.gl hg) (by rw [S.mg]; exact hm) (pa_cons (p1 X S) (pa_cons (p2 X S) pa_nil (hs2 _)) (hs _)) (hs _) (hpl _)
  · refine i1 e Ex hl env T F σ H _ _ hh ht fun v H1 F1 env1 x hh1 q1 => ?_
    refine i2 e Ex hl env1 _ F1 σ H1 _ _ hh1 q1 fun u H2 F2 env2 y hh2 q2 => ?_
    obtain ⟨b1, a1, xs, k1, F3, rfl, q3, sm3, hh3, st1, kk1⟩ := (hh2.perm (List.Perm.swap _ _ _)).seqD q2
    obtain ⟨b2, a2, ys, k2, F4, rfl, q4, sm4, hh4, st2, kk2⟩ := hh3.seqD q3
    have st1' := st1.mono sm4
    obtain ⟨vs, s1, _⟩ := st1' e env2 T F4 σ H2 hh4 (Same.refl _) kk1
    obtain ⟨us, s2, _⟩ := st2 e env2 T F4 σ H2 hh4 (Same.refl _) kk2
    exact ⟨b1, b2, a1, a2, vs, us, rfl, s1, s2, hR _ H2 F4 env2 _ _ hh4 (src_zip st1' st2) q4⟩⟩
end
end HD
namespace HD
open PySem L2
def dCB (f : List D → (Sl → Prop) → Prop) (t : DTA) : DT := fun Ex env Q => t Ex env fun xs env1 => wds env1 xs fun ds => f ds fun sl => Q sl env1
theorem im_cb {K : PySem.W.Frag} {W : WX} {r : List V → Hp → VK → Prop} {f : List D → (Sl → Prop) → Prop} {ta : TA} {t : DTA} (hr : Pr K r f) (h : ImA K W ta t) : Im K W (tCB r ta) (dCB f t) := fun e Ex hl env T F σ H Q R hh ht hR => by
  refine h e Ex hl env T F σ H _ _ hh ht fun vs H1 F1 env1 xs le hh1 q1 => ?_
  obtain ⟨ds, rr, q2⟩ := hh1.wds le (fun p hp => List.mem_append_left _ hp) q1
  exact hr F1 H1 vs ds _ R hh1.fh rr q2 ((hh1.sub (List.sublist_append_right _ _)).done hR)
abbrev RR := Program → World → PySem.W.Frag → List V → Hp → VK → Prop
def BR (id : String) (f : List D → (Sl → Prop) → Prop) : Prop := ∃ r : RR, (∀ P w K, Pr K (r P w K) f) ∧ ∀ X : Cx, X.calm = true → X.A.units + 64 < cLine → CallR X (.builtin id) (r X.prog X.w X.K)
def TR (T : String) (f : List D → (Sl → Prop) → Prop) : Prop := ∃ r : RR, (∀ P w K, Pr K (r P w K) f) ∧ ∀ X : Cx, X.calm = true → X.A.units + 64 < cLine → CallR X (.type T) (r X.prog X.w X.K)
section
variable {G : GG} {N : List Str} {sc : SC} {k : Nat} {e : Expr} {es : List Expr} {x : Str} {id T : String} {f : List D → (Sl → Prop) → Prop} {t : DTA} {p pos : Pos}
theorem de_cb (hr : BR id f) (hm : G.mg x = none) (ha : DAs G N sc k (e :: es) t) (hv : bootBuiltins x = some (.builtin id) := by decide +kernel) (hg : GlS sc x := by rfl) (hn : x ≠ "__name__" := by decide) (hdb : (x == ("__debug__" : Str)) = false := by decide)
    (he : NoStar e es := by intro _; rfl) (hpl : ∀ env, (backTo pos (starEach es env)).any (·.1) = false := by intro _; rfl) : DE G N sc k (.Call (.Name x p) (e :: es) [] pos) (dCB f t) := ⟨fun W => by
  obtain ⟨r, h1, h2⟩ := hr
  obtain ⟨ta, p1, i1⟩ := ha.ex W
  refine ⟨tCB (r G.P G.w G.K) ta, fun X S => ?_, im_cb (h1 _ _ _) i1⟩
  have c := h2 X S.calm S.units
  rw [S.prog, S.w, S.K] at c
  exact pe_callB c (S.gl hg) (by rw [S.mg]; exact hm) hv (p1 X S) hn hdb (he _) (hpl _)⟩
theorem de_ct (hr : TR T f) (hm : G.mg x = none) (ha : DAs G N sc k (e :: es) t) (hv : bootBuiltins x = some (.type T) := by decide +kernel) (hg : GlS sc x := by rfl) (hn : x ≠ "__name__" := by decide) (hdb : (x == ("__debug__" : Str)) = false := by decide)
    (he : NoStar e es := by intro _; rfl) (hpl : ∀ env, (backTo pos (starEach es env)).any (·.1) = false := by intro _; rfl) : DE G N sc k (.Call (.Name x p) (e :: es) [] pos) (dCB f t) := ⟨fun W => by
  obtain ⟨r, h1, h2⟩ := hr
  obtain ⟨ta, p1, i1⟩ := ha.ex W
  refine ⟨tCB (r G.P G.w G.K) ta, fun X S => ?_, im_cb (h1 _ _ _) i1⟩
  have c := h2 X S.calm S.units
  rw [S.prog, S.w, S.K] at c
  exact pe_callTy c (S.gl hg) (by rw [S.mg]; exact hm) hv (p1 X S) hn hdb (he _) (hpl _)⟩
end
def fLen : List D → (Sl → Prop) → Prop
  | [.lst ds], Q => Q (.ext (.int ds.length))
  | [.tup ds], Q => Q (.ext (.int ds.length))
  | [.fz ds], Q => Q (.ext (.int ds.length))
  | [.tk ds], Q => Q (.ext (.int ds.length))
  | [.str z], Q => z.length ≤ sizeLine ∧ Q (.ext (.int z.length))
  | _, _ => False
theorem b_len : BR "len" fLen := ⟨fun _ _ K xs H Q => (∃ p ys, xs = [.ref p] ∧ (SqL K H p ys ∨ SqT K H p ys) ∧ Q (.int ys.length) H) ∨ (∃ z, xs = [.str z] ∧ z.length ≤ sizeLine ∧ Q (.int z.length) H), fun _ _ K F H vs ds Q R fh hr hf ha => by
    unfold fLen at hf
    split at hf
    · obtain ⟨v, rfl, r⟩ := hr.one
      obtain ⟨a, vs, rfl, e1, r1⟩ := r.lst fh
      refine .inl ⟨a, vs, rfl, .inl (SqL.of e1), ?_⟩
      rw [← r1.length]
      exact ha.int fh hf
    · obtain ⟨v, rfl, r⟩ := hr.one
      obtain ⟨a, vs, rfl, e1, _, r1⟩ := r.tup fh
      refine .inl ⟨a, vs, rfl, .inr e1, ?_⟩
      rw [← r1.length]
      exact ha.int fh hf
    · obtain ⟨v, rfl, r⟩ := hr.one
      obtain ⟨a, vs, rfl, e1, r1⟩ := r.fz fh
      refine .inl ⟨a, vs, rfl, .inl e1, ?_⟩
      rw [← r1.length]
      exact ha.int fh hf
    · obtain ⟨v, rfl, r⟩ := hr.one
      obtain ⟨a, vs, rfl, e1, _, r1⟩ := r.tk fh
      refine .inl ⟨a, vs, rfl, .inr e1, ?_⟩
      rw [← r1.length]
      exact ha.int fh hf
    · obtain ⟨v, rfl, r⟩ := hr.one
      exact .inr ⟨_, by rw [r.str], hf.1, ha.int fh hf.2⟩
    · exact hf.elim, fun X _ _ => call_len_seq.or call_len_str⟩
def fMin : List D → (Sl → Prop) → Prop
  | [.int i, .int j], Q => Q (.ext (.int (if j < i then j else i)))
  | [.lst ds], Q => ∃ ns : List Int, ds = ns.map D.int ∧ ns ≠ [] ∧ ∀ m, m ∈ ns → (∀ y, y ∈ ns → m ≤ y) → Q (.ext (.int m))
  | _, _ => False
def fMax : List D → (Sl → Prop) → Prop
  | [.int i, .int j], Q => Q (.ext (.int (if j > i then j else i)))
  | [.lst ds], Q => ∃ ns : List Int, ds = ns.map D.int ∧ ns ≠ [] ∧ ∀ m, m ∈ ns → (∀ y, y ∈ ns → y ≤ m) → Q (.ext (.int m))
  | _, _ => False
theorem b_min : BR "min" fMin := ⟨fun _ _ K xs H Q => (∃ i j, xs = [.int i, .int j] ∧ Q (.int (if j < i then j else i)) H) ∨ rMin K xs H Q, fun _ _ K F H vs ds Q R fh hr hf ha => by
    unfold fMin at hf
    split at hf
    · obtain ⟨v, u, rfl, r1, r2⟩ := hr.two
      exact .inl ⟨_, _, by rw [r1.int, r2.int], ha.int fh hf⟩
    · obtain ⟨v, rfl, r⟩ := hr.one
      obtain ⟨ns, rfl, ne, q⟩ := hf
      obtain ⟨a, vs, rfl, e1, r1⟩ := r.lst fh
      have z := r1.ints
      subst z
      exact .inr ⟨a, ns, rfl, SqL.of e1, List.length_pos_iff.mpr ne, fun m h1 h2 => ha.int fh (q m h1 h2)⟩
    · exact hf.elim, fun X hc _ => (call_min2 hc).or (cr_min hc)⟩
theorem b_max : BR "max" fMax := ⟨fun _ _ K xs H Q => (∃ i j, xs = [.int i, .int j] ∧ Q (.int (if j > i then j else i)) H) ∨ rMax K xs H Q, fun _ _ K F H vs ds Q R fh hr hf ha => by
    unfold fMax at hf
    split at hf
    · obtain ⟨v, u, rfl, r1, r2⟩ := hr.two
      exact .inl ⟨_, _, by rw [r1.int, r2.int], ha.int fh hf⟩
    · obtain ⟨v, rfl, r⟩ := hr.one
      obtain ⟨ns, rfl, ne, q⟩ := hf
      obtain ⟨a, vs, rfl, e1, r1⟩ := r.lst fh
      have z := r1.ints
      subst z
      exact .inr ⟨a, ns, rfl, SqL.of e1, List.length_pos_iff.mpr ne, fun m h1 h2 => ha.int fh (q m h1 h2)⟩
    · exact hf.elim, fun X hc _ => (call_max2 hc).or (cr_max hc)⟩
def fSum : List D → (Sl → Prop) → Prop
  | [.lst ds], Q => ∃ ns : List Int, ds = ns.map D.int ∧ Q (.ext (.int ns.sum))
  | _, _ => False
theorem b_sum : BR "sum" fSum := ⟨fun _ _ K => rSum K, fun _ _ K F H vs ds Q R fh hr hf ha => by
    unfold fSum at hf
    split at hf
    · obtain ⟨v, rfl, r⟩ := hr.one
      obtain ⟨ns, rfl, q⟩ := hf
      obtain ⟨a, vs, rfl, e1, r1⟩ := r.lst fh
      have z := r1.ints
      subst z
      exact ⟨a, ns, rfl, SqL.of e1, ha.int fh q⟩
    · exact hf.elim, fun X hc _ => cr_sum hc⟩
def fAll : List D → (Sl → Prop) → Prop
  | [.lst ds], Q => ∃ bs : List Bool, ds = bs.map D.bl ∧ Q (.ext (.bl (bs.all id)))
  | _, _ => False
def fAny : List D → (Sl → Prop) → Prop
  | [.lst ds], Q => ∃ bs : List Bool, ds = bs.map D.bl ∧ Q (.ext (.bl (bs.any id)))
  | _, _ => False
theorem b_all : BR "all" fAll := ⟨fun _ _ K => rAll K, fun _ _ K F H vs ds Q R fh hr hf ha => by
    unfold fAll at hf
    split at hf
    · obtain ⟨v, rfl, r⟩ := hr.one
      obtain ⟨ns, rfl, q⟩ := hf
      obtain ⟨a, vs, rfl, e1, r1⟩ := r.lst fh
      have z := r1.bls
      subst z
      exact ⟨a, ns, rfl, SqL.of e1, ha.bl fh q⟩
    · exact hf.elim, fun X hc _ => cr_all hc⟩
def fSorted : List D → (Sl → Prop) → Prop
  | [.lst ds], Q => ∃ ns : List Int, ds = ns.map D.int ∧ ∀ (ns' : List Int) (a : Addr), ns'.Perm ns → ns'.Pairwise (· ≤ ·) → Q (.lst a (ns'.map D.int))
  | _, _ => False
theorem b_sorted : BR "sorted" fSorted := ⟨fun _ _ K => rSortedI K, fun _ _ K F H vs ds Q R fh hr hf ha => by
    unfold fSorted at hf
    split at hf
    · obtain ⟨v, rfl, r⟩ := hr.one
      obtain ⟨ns, rfl, q⟩ := hf
      obtain ⟨a, vs, rfl, e1, r1⟩ := r.lst fh
      have z := r1.ints
      subst z
      exact ⟨a, ns, rfl, SqL.of e1, fun ns' p h1 h2 n => ha.lst fh n (Reps.of_ints ns') (q ns' p h1 h2)⟩
    · exact hf.elim, fun X _ _ => cr_sortedI⟩
def fTuple : List D → (Sl → Prop) → Prop
  | [.lst ds], Q => Q (.ext (.tup ds))
  | [.tup ds], Q => Q (.ext (.tup ds))
  | _, _ => False
theorem t_tuple : TR "tuple" fTuple := ⟨fun _ _ K xs H Q => ∃ p ys, xs = [.ref p] ∧ ((SqL K H p ys ∧ newT H ys Q) ∨ (SqT K H p ys ∧ Q (.ref p) H)), fun _ _ K F H vs ds Q R fh hr hf ha => by
    unfold fTuple at hf
    split at hf
    · obtain ⟨v, rfl, r⟩ := hr.one
      obtain ⟨a, vs, rfl, e1, r1⟩ := r.lst fh
      exact ⟨a, vs, rfl, .inl ⟨SqL.of e1, ha.tup fh r1 hf⟩⟩
    · obtain ⟨v, rfl, r⟩ := hr.one
      obtain ⟨a, vs, rfl, e1, e2, r1⟩ := r.tup fh
      exact ⟨a, vs, rfl, .inr ⟨e1, ha.ext (d := .tup _) fh ⟨a, vs, rfl, e2, r1⟩ hf⟩⟩
    · exact hf.elim, fun X _ _ => call_tupleF⟩
def fList : List D → (Sl → Prop) → Prop
  | [.lst ds], Q => ∀ a, Q (.lst a ds)
  | [.tup ds], Q => ∀ a, Q (.lst a ds)
  | [.fz ds], Q => ∀ a, Q (.lst a ds)
  | _, _ => False
theorem t_list : TR "list" fList := ⟨fun _ _ K xs H Q => ∃ p ys, xs = [.ref p] ∧ (SqL K H p ys ∨ SqT K H p ys) ∧ ∀ l, H l = none → Q (.ref l) (upd H l (.lst ys)), fun _ _ K F H vs ds Q R fh hr hf ha => by
    unfold fList at hf
    split at hf
    · obtain ⟨v, rfl, r⟩ := hr.one
      obtain ⟨a, vs, rfl, e1, r1⟩ := r.lst fh
      exact ⟨a, vs, rfl, .inl (SqL.of e1), fun l n => ha.lst fh n r1 (hf l)⟩
    · obtain ⟨v, rfl, r⟩ := hr.one
      obtain ⟨a, vs, rfl, e1, e2, r1⟩ := r.tup fh
      exact ⟨a, vs, rfl, .inr e1, fun l n => ha.lst fh n r1 (hf l)⟩
    · obtain ⟨v, rfl, r⟩ := hr.one
      obtain ⟨a, vs, rfl, e1, r1⟩ := r.fz fh
      exact ⟨a, vs, rfl, .inl e1, fun l n => ha.lst fh n r1 (hf l)⟩
    · exact hf.elim, fun X _ _ => call_list_of⟩
def D.ty : D → String
  | .non => "NoneType"
  | .bl _ => "bool"
  | .int _ => "int"
  | .str _ => "str"
  | .lst _ => "list"
  | .fz _ => "list"
  | .tup _ => "tuple"
  | .tk _ => "tuple"
  | .val _ => "?"
  | .exc _ => "?"
  | .glo _ => "?"
  | .dk _ _ => "?"
  | .dt _ _ => "?"
theorem tyX_of {K : PySem.W.Frag} {H : Hp} {d : D} {v : V} (n : d.noVal = true) (h : Rep K H d v) : TyX K H v (.type d.ty) ∨ ∃ ds, d = .fz ds := by
  cases d with
  | non =>
    have e : v = .non := h
    rw [e]
    exact .inl (.base .non)
  | bl b =>
    have e : v = .bl b := h
    rw [e]
    exact .inl (.base (.bl b))
  | int b =>
    have e : v = .int b := h
    rw [e]
    exact .inl (.base (.int b))
  | str b =>
    have e : v = .str b := h
    rw [e]
    exact .inl (.base (.str b))
  | val u => cases n
  | exc c => cases n
  | glo c => cases n
  | dk _ _ => cases n
  | dt _ _ => cases n
  | fz ds => exact .inr ⟨ds, rfl⟩
  | lst ds =>
    obtain ⟨a, xs, rfl, hs, _⟩ := h
    exact .inl (.base (.lst hs))
  | tup ds =>
    obtain ⟨a, xs, rfl, hs, _⟩ := h
    left
    rcases hs.sq with (hs | ⟨o, hs⟩) | ⟨o, its, m, hs, hc, _⟩
    · exact .base (.tup hs)
    · exact .fTuple hs
    · exact .kTuple hs hc
  | tk ds =>
    obtain ⟨a, xs, rfl, hs, _⟩ := h
    left
    rcases hs with (hs | ⟨o, hs⟩) | ⟨o, its, m, hs, hc, _⟩
    · exact .base (.tup hs)
    · exact .fTuple hs
    · exact .kTuple hs hc
theorem tyX_T {K : PySem.W.Frag} {F H : Hp} {d : D} {v : V} (fh : Same F H) (n : d.noVal = true) (h : RepT K F H d v) (nf : ∀ ds, d ≠ .fz ds) : TyX K H v (.type d.ty) := by
  rcases tyX_of n (h.rep fh) with z | ⟨ds, z⟩
  · exact z
  · exact absurd z (nf ds)
def rIsiS (K : PySem.W.Frag) : List V → Hp → VK → Prop := fun xs H Q => ∃ (x : V) (tp : Addr) (cs : List V) (t : Value) (us : List Value) (b : Bool), xs = [x, .ref tp] ∧ SqT K H tp cs ∧ Paired ClsV cs us ∧ TyX K H x t ∧ PySem.W.kitAny K t us = some b ∧ Q (.bl b) H
theorem call_isiS {X : Cx} : CallR X (.builtin "isinstance") (rIsiS X.K) := by
  intro pins s σ H xs us Q I r h
  obtain ⟨x, tp, cs, t, ws, b, rfl, hT, k, ty, e, q⟩ := h
  obtain ⟨u1, u2, rfl, r1, r2⟩ := vals2 r
  cases (show u2 = Value.ref tp from r2)
  obtain ⟨P, Z, p, hx⟩ := kit_of I r1 ty
  obtain ⟨its, rv, ⟨o, h1, h2, n, h3⟩, _⟩ := I.tuple hT
  have e3 := ClsV.all k rv
  subst e3
  obtain ⟨oc, od, dt, sl⟩ := o
  simp only at h2 h3
  subst h2 h3
  exact PySem.W.kia_tup Z I.kIn p h1 e hx fun tk => ⟨.bl b, H, I.tok tk, rfl, q⟩
def D.isFz : D → Bool
  | .fz _ => true
  | _ => false
def fIsi : List D → (Sl → Prop) → Prop
  | [d, .val (.ty T)], Q => d.noVal = true ∧ d.isFz = false ∧ ∃ b, kitB d.ty T = some b ∧ Q (.ext (.bl b))
  | [d, .tup [.val (.ty T), .val (.ty U)]], Q => d.noVal = true ∧ d.isFz = false ∧ ∃ b c, kitB d.ty T = some b ∧ kitB d.ty U = some c ∧ Q (.ext (.bl (b || c)))
  | _, _ => False
theorem b_isi : BR "isinstance" fIsi := ⟨fun _ _ K xs H Q => rIsi K xs H Q ∨ rIsiS K xs H Q, fun _ _ K F H vs ds Q R fh hr hf ha => by
    unfold fIsi at hf
    split at hf
    · rename_i d T
      obtain ⟨v, u, rfl, r1, r2⟩ := hr.two
      obtain ⟨n, nf, b, hb, q⟩ := hf
      rw [r2.val]
      exact .inl ⟨v, _, _, _, b, rfl, .ty T, tyX_T fh n r1 (fun ds z => by subst z; cases nf), kit_ty hb, ha.bl fh q⟩
    · rename_i d T U
      obtain ⟨v, u, rfl, r1, r2⟩ := hr.two
      obtain ⟨n, nf, b, c, hb, hc, q⟩ := hf
      obtain ⟨a, vs, rfl, e1, _, rr⟩ := r2.tup fh
      obtain ⟨v1, w1, rfl, h1, h2⟩ := rr
      obtain ⟨v2, w2, rfl, h3, h4⟩ := h2
      have z1 : v1 = .ty T := h1
      have z2 : v2 = .ty U := h3
      have z3 : w2 = [] := h4
      subst z1 z2 z3
      refine .inr ⟨v, a, _, _, [.type T, .type U], (b || c), rfl, e1, .cons (.ty T) (.cons (.ty U) .nil), tyX_T fh n r1 (fun ds z => by subst z; cases nf), ?_, ha.bl fh q⟩
      cases b with
      | true => exact kitAny_cons (kit_ty hb) (fun z => nomatch z) (fun _ => rfl)
      | false => exact kitAny_cons (kit_ty hb) (fun _ => kitAny_cons (kit_ty hc) (fun z => by subst z; exact kitAny_nil) (fun z => by subst z; rfl)) (fun z => nomatch z)
    · exact hf.elim, fun X _ _ => call_isi.or call_isiS⟩
def fStr : List D → (Sl → Prop) → Prop
  | [.int i], Q => i.natAbs.log2 < 1920 ∧ Q (.ext (.str (toString i)))
  | _, _ => False
section
variable {G : GG} {N : List Str} {sc : SC} {k : Nat} {a b : Expr} {ta tb : DT} {p p2 pos pos2 : Pos}
structure DRg (G : GG) (N : List Str) (sc : SC) (k : Nat) (e : Expr) (t : DX → Env' → (Int → Int → Env' → Prop) → Prop) : Prop where
  ex : ∀ W : WX, ∃ te, (∀ X, Sit G N sc W k X → PRg X e te) ∧ ∀ (e : Ent) (Ex : DX), Link G.K e W Ex → ∀ (env : Env') (T : Tmp) (F : Hp) (σ : L2.St) (H : Hp) (Q : Int → Int → Env' → Prop) (R : Int → Int → Hp → Prop),
    Holds G.K e env T F σ H → t Ex env Q → (∀ i j H' F' env', Holds G.K e env' T F' σ H' → Q i j env' → R i j H') → te σ H R
def dRg1 (t : DT) : DX → Env' → (Int → Int → Env' → Prop) → Prop := fun Ex env Q => t Ex env fun x env1 => match x with
  | .ext (.int n) => Q 0 n env1
  | _ => False
def dRg2 (t u : DT) : DX → Env' → (Int → Int → Env' → Prop) → Prop := fun Ex env Q => t Ex env fun x env1 => u Ex env1 fun y env2 => match x, y with
  | .ext (.int n), .ext (.int m) => Q n m env2
  | _, _ => False
theorem drg_1 (h : DE G N sc k a ta) (hm : G.mg "range" = none) (hg : GlS sc "range" := by rfl) (na : NoStar a [] := by intro _; rfl) : DRg G N sc k (.Call (.Name "range" p) [a] [] pos) (dRg1 ta) := ⟨fun W => by
  obtain ⟨te, p1, i1⟩ := h.ex W
  refine ⟨tRg1 te, fun X S => prg_1 (S.gl hg) (by rw [S.mg]; exact hm) (p1 X S) (na _), fun e Ex hl env T F σ H Q R hh ht hR => ?_⟩
  refine i1 e Ex hl env T F σ H _ _ hh ht fun v H1 F1 env1 x hh1 q1 => ?_
  cases x with
  | ext d =>
    cases d with
    | int n => exact ⟨n, hh1.temps (v, .ext (.int n)) List.mem_cons_self, hR 0 n H1 F1 env1 hh1.pop q1⟩
    | _ => exact q1.elim
  | _ => exact q1.elim⟩
theorem Reps.rg {K : PySem.W.Frag} {F : Hp} (lo hi : Int) : Reps K F (rgD lo hi) (rgV lo hi) := by
  unfold rgD rgV
  refine Reps.of_get (by rw [List.length_map, List.length_map]) fun i d v h1 h2 => ?_
  rw [List.getElem?_map] at h1 h2
  cases e : (List.range (hi - lo).toNat)[i]? with
  | none =>
    rw [e] at h1
    cases h1
  | some j =>
    rw [e] at h1 h2
    cases h1
    cases h2
    exact rfl
def dLstRg (t : DX → Env' → (Int → Int → Env' → Prop) → Prop) : DT := fun Ex env Q => t Ex env fun lo hi env1 => RgOk lo hi ∧ ∀ a, Q (.lst a (rgD lo hi)) env1
def dTupRg (t : DX → Env' → (Int → Int → Env' → Prop) → Prop) : DT := fun Ex env Q => t Ex env fun lo hi env1 => RgOk lo hi ∧ Q (.ext (.tup (rgD lo hi))) env1
theorem de_listRg {e : Expr} {t : DX → Env' → (Int → Int → Env' → Prop) → Prop} (h : DRg G N sc k e t) (hm : G.mg "list" = none) (hg : GlS sc "list" := by rfl) (na : NoStar e [] := by intro _; rfl) : DE G N sc k (.Call (.Name "list" p) [e] [] pos) (dLstRg t) := ⟨fun W => by
  obtain ⟨te, p1, i1⟩ := h.ex W
  refine ⟨tLstRg te, fun X S => pe_listRg S.calm (S.gl hg) (by rw [S.mg]; exact hm) (p1 X S) (na _), fun e Ex hl env T F σ H Q R hh ht hR => ?_⟩
  refine i1 e Ex hl env T F σ H _ _ hh ht fun lo hi H1 F1 env1 hh1 q1 => ⟨q1.1, fun q n => ?_⟩
  exact (hh1.done hR).lst hh1.fh n (Reps.rg lo hi) (q1.2 q)⟩
end
end HD
namespace HD
open PySem PyProof.Rows L2
section
variable {X : Cx} {o e : Expr} {es : List Expr} {to : TE} {t : TA} {name : Str} {apos cpos : Pos}
abbrev FewArgs (o : Expr) (name : Str) (e : Expr) (es : List Expr) (cpos : Pos) : Prop := ∀ env, attributeBase o name env (eval o env) = eval o env ∧
  ((backTo cpos (starEach (e :: es) env)).all (fun x => !x.1) && (backToKw cpos (keywordEach [] env)).all (fun x => x.1.isSome) && decide ((e :: es).length + ([] : List Keyword).length + (if ([] : List Keyword).isEmpty then 0 else 1) < 30)) = true ∧
  starEach (e :: es) env = (false, eval e env) :: starEach es env ∧ (backTo cpos (starEach es env)).any (·.1) = false
end
def D.at? (d : D) (ds : List D) : Option Nat := ds.findIdx? fun z => eqV z.toV d.toV
def D.isSq : D → Bool
  | .tup _ => true
  | .lst _ => true
  | _ => false
def fIdx (d d' : D) (q : Sl → Prop) : Prop := match d with
  | .tup ds => d'.flat = true ∧ ds.all D.flat = true ∧ ∃ j, d'.at? ds = some j ∧ q (.ext (.int (j : Nat)))
  | .lst ds => d'.flat = true ∧ ds.all D.flat = true ∧ ∃ j, d'.at? ds = some j ∧ q (.ext (.int (j : Nat)))
  | _ => False
def dIndex (to ta : DT) : DT := fun Ex env Q => to Ex env fun x env1 => wd env1 x (fun d => d.isSq = true) ∧ ta Ex env1 fun y env2 => wd env2 x fun d => wd env2 y fun d' => fIdx d d' fun sl => Q sl env2
end HD
namespace HD
open PySem PyProof.Rows L2
abbrev DMut := List D → (D → List D → Prop) → Prop
def mutD (env : Env') (i : Nat) (a : Addr) (f : DMut) (Q : Sl → Env' → Prop) : Prop := match env[i]? with
  | some (.lst b ds) => b = a ∧ f ds fun d ds' => Q (.ext d) (env.set i (.lst a ds'))
  | _ => False
def PrM (K : PySem.W.Frag) (r : V → List V → Hp → VK → Prop) (vs : List V) (a : Addr) (F H : Hp) (ds : List D) (f : DMut) : Prop :=
  ∀ (q : D → List D → Prop) (R : VK), f ds q → (∀ v d us ds', Rep K F d v → Reps K F ds' us → q d ds' → R v (upd H a (.lst us))) → r (.ref a) vs H R
theorem Holds.mut {K : PySem.W.Frag} {e : Ent} {env : Env'} {T : Tmp} {F : Hp} {σ : L2.St} {H : Hp} {i : Nat} {a : Addr} {f : DMut} {Q : Sl → Env' → Prop} {R : VK} {r : V → List V → Hp → VK → Prop} {vs : List V} (h : Holds K e env T F σ H) (w : mutD env i a f Q)
    (hr : ∀ ds us, H a = some (.lst us) → Reps K F ds us → PrM K r vs a F H ds f) (hR : ∀ v H' F' env' sl, Holds K e env' ((v, sl) :: T) F' σ H' → Q sl env' → R v H') : r (.ref a) vs H R := by
  unfold mutD at w
  split at w
  · rename_i b ds hb
    obtain ⟨rfl, w⟩ := w
    rcases h.slots i _ hb with z | ⟨u, hu, e1, e2, us, hv, rr⟩
    · cases z
    · refine hr ds us hv rr _ R w fun v d us' ds' rd rs q => ?_
      exact hR v _ F _ (.ext d) ((h.write hb rs).pushE rd) q
  · exact w.elim
section
variable {G : GG} {N : List Str} {sc : SC} {k : Nat} {a b : Expr} {ta tb : DT} {apos cpos p p2 pos pos2 py : Pos} {x : Str}
abbrev VisV (N : List Str) (sc : SC) (i : Nat) (x : Str) : Prop := N[i]? = some x ∧ Vis sc.sc x ∧ (x == ("__debug__" : Str)) = false ∧ (x == ("__classdict__" : Str)) = false
def dAppend (i : Nat) (t : DT) : DT := fun Ex env Q => match env[i]? with
  | some (.lst a _) => t Ex env fun x env1 => frzD env1 x fun d env2 => mutD env2 i a (fun ds q => ds.length < sizeLine ∧ q .non (ds ++ [d])) Q
  | _ => False
theorem de_append (i : Nat) (hb : DE G N sc k b tb) (hw : FewArgs (.Name x py) "append" b [] cpos := by intro _; exact ⟨rfl, rfl, rfl, rfl⟩) (hv : VisV N sc i x := by exact ⟨rfl, by first | exact Or.inl rfl | exact Or.inr (Or.inl rfl) | exact Or.inr (Or.inr rfl), by decide, by decide⟩) (hline : (apos.endLine == cpos.line) = true := by rfl) :
    DE G N sc k (.Call (.Attribute (.Name x py) "append" apos) [b] [] cpos) (dAppend i tb) := ⟨fun W => by
  obtain ⟨tf, p2, i2⟩ := hb.ex W
  refine ⟨tBM G.K "list" rAppend (tVar i) (tCons tf tNil), fun X S => ?_, fun e Ex hl env T F σ H Q R hh ht hR => ?_⟩
  · obtain ⟨hbase, hfew, hs, hplain⟩ := hw X.env
    rw [← S.K]
    exact pe_bm PySem.F.plainAttrs_list PySem.F.slot_list_append PySem.F.type_list_append mt_append (pe_var (by rw [S.nms]; exact hv.1) (S.vis hv.2.1) hv.2.2.1 hv.2.2.2) (pa_cons (p2 X S) pa_nil hs) hbase hfew hline hs hplain
  · unfold dAppend at ht
    split at ht
    · rename_i c ds0 hc
      rcases hh.slots i _ hc with z | ⟨v0, hv0, e0, _, us0, hu0, _⟩
      · cases z
      · subst e0
        refine ⟨_, hv0, .inl ⟨rfl, us0, SqL.of hu0⟩, ?_⟩
        refine i2 e Ex hl env T F σ H _ _ hh ht fun u H2 F2 env2 y hh2 q2 => ?_
        obtain ⟨d, F3, env3, _, hh3, rd, q3⟩ := hh2.frz1 q2
        show rAppend (.ref c) [u] H2 R
        refine hh3.mut q3 (fun ds us hu rr q R' hf hk => ?_) hR
        obtain ⟨hz, hf⟩ := hf
        exact ⟨c, us, u, rfl, rfl, hu, by rw [← rr.length]; exact hz, hk .non .non _ _ rfl (rr.append (.one rd)) hf⟩
    · exact ht.elim⟩
def dExtend (i : Nat) (t : DT) : DT := fun Ex env Q => match env[i]? with
  | some (.lst a _) => t Ex env fun x env1 => wd env1 x fun d => match d with
    | .lst es => mutD env1 i a (fun ds q => ds.length + es.length ≤ sizeLine ∧ q .non (ds ++ es)) Q
    | _ => False
  | _ => False
theorem de_extend (i : Nat) (hb : DE G N sc k b tb) (hw : FewArgs (.Name x py) "extend" b [] cpos := by intro _; exact ⟨rfl, rfl, rfl, rfl⟩) (hv : VisV N sc i x := by exact ⟨rfl, by first | exact Or.inl rfl | exact Or.inr (Or.inl rfl) | exact Or.inr (Or.inr rfl), by decide, by decide⟩) (hline : (apos.endLine == cpos.line) = true := by rfl) :
    DE G N sc k (.Call (.Attribute (.Name x py) "extend" apos) [b] [] cpos) (dExtend i tb) := ⟨fun W => by
  obtain ⟨tf, p2, i2⟩ := hb.ex W
  refine ⟨tBM G.K "list" rExtend (tVar i) (tCons tf tNil), fun X S => ?_, fun e Ex hl env T F σ H Q R hh ht hR => ?_⟩
  · obtain ⟨hbase, hfew, hs, hplain⟩ := hw X.env
    rw [← S.K]
    exact pe_bm PySem.F.plainAttrs_list PySem.F.slot_list_extend PySem.F.type_list_extend mt_extend (pe_var (by rw [S.nms]; exact hv.1) (S.vis hv.2.1) hv.2.2.1 hv.2.2.2) (pa_cons (p2 X S) pa_nil hs) hbase hfew hline hs hplain
  · unfold dExtend at ht
    split at ht
    · rename_i c ds0 hc
      rcases hh.slots i _ hc with z | ⟨v0, hv0, e0, _, us0, hu0, _⟩
      · cases z
      · subst e0
        refine ⟨_, hv0, .inl ⟨rfl, us0, SqL.of hu0⟩, ?_⟩
        refine i2 e Ex hl env T F σ H _ _ hh ht fun u H2 F2 env2 y hh2 q2 => ?_
        obtain ⟨d, rd, q3⟩ := hh2.wd (v := u) (sl := y) List.mem_cons_self q2
        cases d with
        | lst es =>
          obtain ⟨c2, us2, rfl, hu2, rr2⟩ := rd.lst hh2.fh
          show rExtend (.ref c) [.ref c2] H2 R
          refine hh2.pop.mut q3 (fun ds us hu rr q R' hf hk => ?_) hR
          obtain ⟨hz, hf⟩ := hf
          exact ⟨c, c2, us, us2, rfl, rfl, hu, hu2, by rw [← rr.length, ← rr2.length]; exact hz, hk .non .non _ _ rfl (rr.append rr2) hf⟩
        | _ => exact q3.elim
    · exact ht.elim⟩
def dPopAt (i : Nat) (t : DT) : DT := fun Ex env Q => match env[i]? with
  | some (.lst a _) => t Ex env fun x env1 => match x with
    | .ext (.int n) => mutD env1 i a (fun ds q => 0 ≤ n ∧ n < 2 ^ 63 ∧ ∃ d, ds[n.toNat]? = some d ∧ q d (ds.eraseIdx n.toNat)) Q
    | _ => False
  | _ => False
theorem de_popAt (i : Nat) (hb : DE G N sc k b tb) (hw : FewArgs (.Name x py) "pop" b [] cpos := by intro _; exact ⟨rfl, rfl, rfl, rfl⟩) (hv : VisV N sc i x := by exact ⟨rfl, by first | exact Or.inl rfl | exact Or.inr (Or.inl rfl) | exact Or.inr (Or.inr rfl), by decide, by decide⟩) (hline : (apos.endLine == cpos.line) = true := by rfl) :
    DE G N sc k (.Call (.Attribute (.Name x py) "pop" apos) [b] [] cpos) (dPopAt i tb) := ⟨fun W => by
  obtain ⟨tf, p2, i2⟩ := hb.ex W
  refine ⟨tBM G.K "list" rPopAt (tVar i) (tCons tf tNil), fun X S => ?_, fun e Ex hl env T F σ H Q R hh ht hR => ?_⟩
  · obtain ⟨hbase, hfew, hs, hplain⟩ := hw X.env
    rw [← S.K]
    exact pe_bm PySem.F.plainAttrs_list PySem.F.slot_list_pop PySem.F.type_list_pop mt_popAt (pe_var (by rw [S.nms]; exact hv.1) (S.vis hv.2.1) hv.2.2.1 hv.2.2.2) (pa_cons (p2 X S) pa_nil hs) hbase hfew hline hs hplain
  · unfold dPopAt at ht
    split at ht
    · rename_i c ds0 hc
      rcases hh.slots i _ hc with z | ⟨v0, hv0, e0, _, us0, hu0, _⟩
      · cases z
      · subst e0
        refine ⟨_, hv0, .inl ⟨rfl, us0, SqL.of hu0⟩, ?_⟩
        refine i2 e Ex hl env T F σ H _ _ hh ht fun u H2 F2 env2 y hh2 q2 => ?_
        cases y with
        | ext d =>
          cases d with
          | int n =>
            have eu : u = .int n := hh2.temps (u, .ext (.int n)) List.mem_cons_self
            show rPopAt (.ref c) [u] H2 R
            refine hh2.pop.mut q2 (fun ds us hu rr q R' hf hk => ?_) hR
            obtain ⟨h0, h1, d, hd, hf⟩ := hf
            obtain ⟨v, hv', rd⟩ := rr.get hd
            have hlt : n.toNat < us.length := (List.getElem?_eq_some_iff.mp hv').1
            refine ⟨c, us, n, n.toNat, v, rfl, by rw [eu], hu, Int.le_trans (by decide) h0, h1, ?_, hv', hk v d _ _ rd (rr.eraseIdx _) hf⟩
            obtain ⟨m, rfl⟩ := Int.eq_ofNat_of_zero_le h0
            exact (ixN_seq (n := us.length) (i := (m : Int)) (j := m) (by
              unfold ixN
              rw [if_pos h0, if_pos (by rw [Int.toNat_natCast] at hlt; omega)]
              rfl)).1
          | _ => exact q2.elim
        | _ => exact q2.elim
    · exact ht.elim⟩
def dPop (i : Nat) : DT := fun Ex env Q => match env[i]? with
  | some (.lst a _) => mutD env i a (fun ds q => ∃ d, ds[ds.length - 1]? = some d ∧ q d ds.dropLast) Q
  | _ => False
def sSetItem (i : Nat) (tI te : DT) : DTS := fun Ex E env => te Ex env fun y env0 => frzD env0 y fun d env1 => match env1[i]? with
  | some (.lst a _) => tI Ex env1 fun z env2 => match z with
    | .ext (.int n) => match env2[i]? with
      | some (.lst b ds) => b = a ∧ ∃ j, ixN ds.length n = some j ∧ E.nx (env2.set i (.lst a (ds.set j d)))
      | _ => False
    | _ => False
  | _ => False
theorem ds_setitem {spos : Pos} (i : Nat) (hb : DE G N sc k b tb) (ha : DE G N sc k a ta) (hv : VisV N sc i x := by exact ⟨rfl, by first | exact Or.inl rfl | exact Or.inr (Or.inl rfl) | exact Or.inr (Or.inr rfl), by decide, by decide⟩)
    (hs : ∀ env, swapsWithSole [.Subscript (.Name x py) b spos] a pos.line env = pure false := by intro _; rfl) (hw : ∀ env, swappedStores [.Subscript (.Name x py) b spos] a env = pure none := by intro _; rfl)
    (h1 : ∀ env, (assignEach [.Subscript (.Name x py) b spos] env).map (·.2) = [assign (.Subscript (.Name x py) b spos) env] := by intro _; rfl)
    (h2 : ∀ env v, assign (.Subscript (.Name x py) b spos) env v = (do
      let ov ← holding [v] (eval (.Name x py) env)
      let iv ← holding [v, ov] (eval b env)
      standAt spos
      holding [v, ov, iv] (setItem ov iv v)
      release [v, ov, iv] []) := by intro _ _; rfl) :
    DS G N sc k (.Assign [.Subscript (.Name x py) b spos] a pos) (sSetItem i tb ta) := ⟨fun W => by
  obtain ⟨te, p1, i1⟩ := ha.ex W
  obtain ⟨tf, p2, i2⟩ := hb.ex W
  refine ⟨tAsg te (gSub (tVar i) tf rSetL), fun X S => ?_, fun e Ex hl env F σ H E Dn hh ht ok => ?_⟩
  · exact ps_asg (p1 X S) (pg_sub (pe_var (by rw [S.nms]; exact hv.1) (S.vis hv.2.1) hv.2.2.1 hv.2.2.2) (p2 X S) set_list (h2 _)) (hs _) (hw _) (h1 _)
  · refine i1 e Ex hl env [] F σ H _ _ hh ht fun v H1 F1 env0 y hh1 q1 => ?_
    obtain ⟨d, F2, env1, _, hh2, rd, q2⟩ := hh1.frz1 q1
    split at q2
    · rename_i c ds0 hc
      rcases hh2.slots i _ hc with z | ⟨v0, hv0, e0, _⟩
      · cases z
      · subst e0
        refine ⟨_, hv0, ?_⟩
        refine i2 e Ex hl env1 [(v, .ext d)] F2 σ H1 _ _ (hh2.pushE rd) q2 fun u H3 F3 env3 z hh3 q3 => ?_
        have rd3 : Rep G.K F3 d v := hh3.temps (v, .ext d) (List.mem_cons_of_mem _ List.mem_cons_self)
        cases z with
        | ext dz =>
          cases dz with
          | int n =>
            have eu : u = .int n := hh3.temps (u, .ext (.int n)) List.mem_cons_self
            have q3' : (match env3[i]? with | some (.lst b ds) => b = c ∧ ∃ j, ixN ds.length n = some j ∧ E.nx (env3.set i (.lst c (ds.set j d))) | _ => False) := q3
            split at q3'
            · rename_i c' ds hc'
              obtain ⟨rfl, j, hj, q4⟩ := q3'
              rcases hh3.slots i _ hc' with z | ⟨_, _, _, _, us, hu, rr⟩
              · cases z
              · exact ⟨c', us, n, j, rfl, eu, hu, by rw [← rr.length]; exact hj, ok.nx _ F3 σ _ (hh3.bare.write hc' (rr.set j rd3)) q4⟩
            · exact q3'.elim
          | _ => exact q3.elim
        | _ => exact q3.elim
    · exact q2.elim⟩
end
section
variable {G : GG} {N : List Str} {sc : SC} {k : Nat} {a : Expr} {ta : DT} {p p2 pos pos2 : Pos}
def dSortSet (t : DT) : DT := fun Ex env Q => t Ex env fun x env1 => wd env1 x fun d => match d with
  | .tup ds => ∃ ns : List Int, ds = ns.map D.int ∧ ns.length < 64 ∧ ∀ (ns' : List Int) (b : Addr), ns'.Pairwise (· < ·) → (∀ n : Int, n ∈ ns' ↔ n ∈ ns) → Q (.lst b (ns'.map D.int)) env1
  | _ => False
end
end HD
namespace HD
open PySem PyProof.Rows L2
abbrev Tab := List (Str × Int)
def dTable (tab : Tab) (i : Nat) : DT := fun _ env Q => match env[i]? with
  | some (.ext (.str w)) => ∃ n, tab.lookup w = some n ∧ Q (.ext (.int n)) env
  | _ => False
structure Blt (G : GG) : Prop where
  len : G.mg "len" = none
  range : G.mg "range" = none
  sorted : G.mg "sorted" = none
  set : G.mg "set" = none
  tuple : G.mg "tuple" = none
  list : G.mg "list" = none
  dict : G.mg "dict" = none
  zip : G.mg "zip" = none
  enumerate : G.mg "enumerate" = none
  all : G.mg "all" = none
  any : G.mg "any" = none
  sum : G.mg "sum" = none
  min : G.mg "min" = none
  max : G.mg "max" = none
  isinstance : G.mg "isinstance" = none
  str : G.mg "str" = none
  int : G.mg "int" = none
  repr : G.mg "repr" = none
  bool : G.mg "bool" = none
def lawSpec (n : Nat) : DSpec := fun args Q _ => ∃ ns : List Int, args = [.ext (.fz (ns.map D.int))] ∧ ns.length ≤ n ∧ ∀ fin, Q (.ext (.bl true)) fin
theorem cx_no {P : Program} {w : World} (H : Hp) (s : Shared) (e : Value) (s' : Shared) (h : L2.CX P w [] H s (fun _ _ _ => False) e s') : False := by
  obtain ⟨_, _, _, _, _, _, _, _, _, _, _, _, z⟩ := h
  exact z
end HD
namespace HD
open PySem PyProof.Rows L2
def iSeq (K : PySem.W.Frag) (tl : TE) : TI := fun σ H R => tl σ H fun x H1 => ∃ a, x = .ref a ∧ (((∃ xs, SqL K H1 a xs) ∧ R (Itl K a) H1) ∨ ((∃ xs, SqT K H1 a xs) ∧ R (Itt K a) H1))
theorem pi_seq {X : Cx} {tg l : Expr} {tl : TE} (hl : PE X l tl) : PI X tg l (iSeq X.K tl) := by
  refine ⟨fun pins s σ H R I h => ?_⟩
  refine thn (hl.run pins s σ H _ I h) fun v s1 ⟨x, H1, I1, r1, q1⟩ => ?_
  obtain ⟨a, ex, q1⟩ := q1
  subst ex
  cases r1
  have fp : ∀ b ∈ [s1.heap.objs.size], FpOk X pins H1 b := fun b hb => by
    have eb : b = s1.heap.objs.size := by simpa using hb
    subst eb
    exact I1.fpOk (Nat.le_refl _) (I1.hok.fresh (Nat.le_refl _))
  rcases q1 with ⟨⟨xs, hq⟩, q⟩ | ⟨⟨xs, hq⟩, q⟩
  · obtain ⟨its, rv, p, hz⟩ := I1.list hq
    refine wpAny_pyIter_list p.isList ?_
    exact ⟨s1.heap.objs.size, [s1.heap.objs.size], _, _, H1, rfl, I1.kept (t' := s1.toks) fun b o e => Heap.get?_push_of_some _ e, turn_list a _, ⟨_, Heap.get?_push_size _ rfl, rfl, rfl⟩, fp, q⟩
  · obtain ⟨its, rv, p, hz⟩ := I1.tuple hq
    refine wpAny_pyIter_tuple (show s1.heap.IsTuple a its.toArray from p) ?_
    exact ⟨s1.heap.objs.size, [s1.heap.objs.size], _, _, H1, rfl, I1.kept (t' := s1.toks) fun b o e => Heap.get?_push_of_some _ e, turn_tuple a _, ⟨_, Heap.get?_push_size _ rfl, rfl, rfl⟩, fp, q⟩
def dSeq (t : DT) : DTI := fun Ex env Q => t Ex env fun x env1 => seqD env1 x fun ds keep => Q ds keep env1
theorem src_stands {K : PySem.W.Frag} {b : Bool} {a : Addr} {ds : List D} {k : Env' → Prop} {F0 : Hp} (h : Stands K b a ds k F0) : Src K (if b = true then Itt K a else Itl K a) ds k F0 := fun e env T F σ H i hh sm kk => by
  obtain ⟨vs, s1, r⟩ := h e env T F σ H hh sm kk
  cases b with
  | true =>
    refine ⟨fun hi => ⟨vs, s1, by rw [← r.length]; exact Nat.le_of_eq hi⟩, fun d hd => ?_⟩
    obtain ⟨v, hv, rd⟩ := r.get hd
    refine ⟨⟨vs, v, s1, hv⟩, fun x H2 hy => ?_⟩
    obtain ⟨rfl, hx⟩ := hy
    have e1 := hx _ s1
    rw [hv] at e1
    cases e1
    exact ⟨F, Grow.refl hh.fh, rd⟩
  | false =>
    refine ⟨fun hi => ⟨vs, s1, by rw [← r.length]; exact Nat.le_of_eq hi⟩, fun d hd => ?_⟩
    obtain ⟨v, hv, rd⟩ := r.get hd
    refine ⟨⟨vs, v, s1, hv⟩, fun x H2 hy => ?_⟩
    obtain ⟨rfl, hx⟩ := hy
    have e1 := hx _ s1
    rw [hv] at e1
    cases e1
    exact ⟨F, Grow.refl hh.fh, rd⟩
section
variable {G : GG} {N : List Str} {sc : SC} {k : Nat} {a : Expr} {ta : DT}
theorem di_seq {tg : Expr} (h : DE G N sc k a ta) : DI G N sc k tg a (dSeq ta) := ⟨fun W => by
  obtain ⟨te, p1, i1⟩ := h.ex W
  refine ⟨iSeq G.K te, fun X S => by rw [← S.K]; exact pi_seq (p1 X S), fun e Ex hl env T F σ H Q R hh ht hR => ?_⟩
  refine i1 e Ex hl env T F σ H _ _ hh ht fun v H1 F1 env1 x hh1 q1 => ?_
  obtain ⟨b, c, ds, kp, F2, rfl, q2, _, hh2, st, kk⟩ := hh1.seqD q1
  have src := src_stands st
  obtain ⟨vs, s1, _⟩ := st e env1 T F2 σ H1 hh2 (Same.refl _) kk
  cases b with
  | true => exact ⟨c, rfl, .inr ⟨⟨vs, s1⟩, hR _ H1 F2 env1 ds kp hh2 src q2⟩⟩
  | false => exact ⟨c, rfl, .inl ⟨⟨vs, s1⟩, hR _ H1 F2 env1 ds kp hh2 src q2⟩⟩⟩
end
end HD
namespace HD
open PySem L2
theorem eqv_refl {d : D} (h : d.cmp) : d.eqv d = true := PySem.SeqAt.eqv_refl d.py (PySem.SeqAt.canLay_of_shaped h.2)
def Meets (t : DTS) (n m : Nat) (sp : DSpec) : Prop := ∀ args Qd Xd, sp args Qd Xd → t (exOf args Xd) (endsOf args Qd) (args ++ List.replicate m .un)
theorem finals1 (x : Sl) (env : Env') : finals [x] env = [fin1 x env[0]?] := rfl
theorem finals2 (x y : Sl) (env : Env') : finals [x, y] env = [fin1 x env[0]?, fin1 y env[1]?] := rfl
theorem finals3 (x y z : Sl) (env : Env') : finals [x, y, z] env = [fin1 x env[0]?, fin1 y env[1]?, fin1 z env[2]?] := rfl
theorem finals4 (x y z u : Sl) (env : Env') : finals [x, y, z, u] env = [fin1 x env[0]?, fin1 y env[1]?, fin1 z env[2]?, fin1 u env[3]?] := rfl
theorem finals5 (x y z u v : Sl) (env : Env') : finals [x, y, z, u, v] env = [fin1 x env[0]?, fin1 y env[1]?, fin1 z env[2]?, fin1 u env[3]?, fin1 v env[4]?] := rfl
theorem finals6 (x y z u v w : Sl) (env : Env') : finals [x, y, z, u, v, w] env = [fin1 x env[0]?, fin1 y env[1]?, fin1 z env[2]?, fin1 u env[3]?, fin1 v env[4]?, fin1 w env[5]?] := rfl
theorem fin1_ext (d : D) (o : Option Sl) : fin1 (.ext d) o = .ext d := rfl
theorem fin1_lst (a : Addr) (ds es : List D) : fin1 (.lst a ds) (some (.lst a es)) = .lst a es := if_pos rfl
theorem fEq_ii (i j : Int) (Q : Sl → Prop) : fEq (.int i) (.int j) Q = Q (.ext (.bl (i == j))) := rfl
theorem fEq_ss (i j : Str) (Q : Sl → Prop) : fEq (.str i) (.str j) Q = Q (.ext (.bl (i == j))) := rfl
theorem fEq_bb (i j : Bool) (Q : Sl → Prop) : fEq (.bl i) (.bl j) Q = Q (.ext (.bl (i == j))) := rfl
theorem fEq_tt (i j : List D) (Q : Sl → Prop) : fEq (.tup i) (.tup j) Q = (D.cmp (.tup i) ∧ D.cmp (.tup j) ∧ Q (.ext (.bl (D.eqv (.tup i) (.tup j))))) := rfl
theorem fEq_ll (i j : List D) (Q : Sl → Prop) : fEq (.lst i) (.lst j) Q = (D.cmp (.lst i) ∧ D.cmp (.lst j) ∧ Q (.ext (.bl (D.eqv (.lst i) (.lst j))))) := rfl
theorem fNe_ii (i j : Int) (Q : Sl → Prop) : fNe (.int i) (.int j) Q = Q (.ext (.bl (!(i == j)))) := rfl
theorem fNe_ss (i j : Str) (Q : Sl → Prop) : fNe (.str i) (.str j) Q = Q (.ext (.bl (!(i == j)))) := rfl
theorem fNe_bb (i j : Bool) (Q : Sl → Prop) : fNe (.bl i) (.bl j) Q = Q (.ext (.bl (!(i == j)))) := rfl
theorem fNe_tt (i j : List D) (Q : Sl → Prop) : fNe (.tup i) (.tup j) Q = (D.cmp (.tup i) ∧ D.cmp (.tup j) ∧ Q (.ext (.bl (!D.eqv (.tup i) (.tup j))))) := rfl
theorem fNe_ll (i j : List D) (Q : Sl → Prop) : fNe (.lst i) (.lst j) Q = (D.cmp (.lst i) ∧ D.cmp (.lst j) ∧ Q (.ext (.bl (!D.eqv (.lst i) (.lst j))))) := rfl
inductive Tok {α : Type _} (Q : α) : Type where
  | mk
def CallS (spec : DSpec) (args : List Sl) (Q : Sl → List Sl → Prop) (X : Str → List Sl → Prop) (_ : Tok Q) (_ : Tok X) : Prop := spec args Q X
def GetS (o : Option D) (k : D → Prop) (_ : Tok k) : Prop := ∃ d, o = some d ∧ k d
def AtS (o : Option Sl) (k1 : D → Prop) (k2 : Addr → List D → Prop) (_ : Tok k1) (_ : Tok k2) : Prop := match o with
  | some (.ext d) => k1 d
  | some (.lst a ds) => k2 a ds
  | _ => False
theorem GetS_some (d : D) (k : D → Prop) (t : Tok k) : GetS (some d) k t = k d := propext ⟨fun ⟨_, e, h⟩ => by cases e; exact h, fun h => ⟨d, rfl, h⟩⟩
theorem AtS_ext (d : D) (k1 : D → Prop) (k2 : Addr → List D → Prop) (t : Tok k1) (u : Tok k2) : AtS (some (.ext d)) k1 k2 t u = k1 d := rfl
theorem AtS_lst (a : Addr) (ds : List D) (k1 : D → Prop) (k2 : Addr → List D → Prop) (t : Tok k1) (u : Tok k2) : AtS (some (.lst a ds)) k1 k2 t u = k2 a ds := rfl
abbrev AtL (o : Option Sl) (k2 : Addr → List D → Prop) : Prop := AtS o (fun _ => False) k2 .mk .mk
theorem AtL_eq (o : Option Sl) (k2 : Addr → List D → Prop) : (match o with | some (.lst a ds) => k2 a ds | _ => False) = AtS o (fun _ => False) k2 .mk .mk := by
  unfold AtS
  rcases o with _ | (_ | _ | _ | _ | _) <;> rfl
theorem dCall_w (spec : DSpec) (ta : DTA) (Ex : DX) (env : Env') (Q : Sl → Env' → Prop) : dCall spec ta Ex env Q = ta Ex env fun xs env1 => wds env1 xs fun ds =>
  CallS spec (ds.map .ext) (fun r _ => (anyAl xs = false ∨ r.imm = true) ∧ r.plain ∧ Q r env1) (fun c _ => Ex c env1) .mk .mk := rfl
theorem dCallJ_w (spec : DSpec) (i : Nat) (ta : DTA) (Ex : DX) (env : Env') (Q : Sl → Env' → Prop) : dCallJ spec i ta Ex env Q = AtL env[i]? fun a _ => ta Ex env fun xs env1 => AtL env1[i]? fun b ds => b = a ∧ frozs env1 xs fun es => CallS spec (.lst a ds :: es.map .ext)
        (fun r fin => match fin with | s' :: _ => s'.plain ∧ r.plain ∧ Q r (env1.set i s') | [] => False) (fun c fin => match fin with | s' :: _ => s'.plain ∧ Ex c (env1.set i s') | [] => False) .mk .mk := by
  simp only [AtL, ← AtL_eq] <;> rfl
theorem dVar_w (i : Nat) (Ex : DX) (env : Env') (Q : Sl → Env' → Prop) : dVar i Ex env Q = AtS env[i]? (fun d => Q (.ext d) env) (fun a _ => Q (.al i a) env) .mk .mk := by
  unfold dVar AtS
  rcases env[i]? with _ | (_ | _ | _ | _ | _) <;> rfl
theorem wd_ext (env : Env') (d : D) (k : D → Prop) : wd env (.ext d) k = k d := rfl
theorem wd_lst (env : Env') (a : Addr) (ds : List D) (k : D → Prop) : wd env (.lst a ds) k = k (.lst ds) := rfl
theorem wd_al (env : Env') (i : Nat) (a : Addr) (k : D → Prop) : wd env (.al i a) k = AtL env[i]? fun b ds => b = a ∧ k (.lst ds) := by
  simp only [AtL, ← AtL_eq] <;> rfl
theorem frzD_ext (env : Env') (d : D) (q : D → Env' → Prop) : frzD env (.ext d) q = q d env := rfl
theorem frzD_lst (env : Env') (a : Addr) (ds : List D) (q : D → Env' → Prop) : frzD env (.lst a ds) q = q (.lst ds) env := rfl
theorem frzD_al (env : Env') (i : Nat) (a : Addr) (q : D → Env' → Prop) : frzD env (.al i a) q = AtL env[i]? fun b ds => b = a ∧ q (.lst ds) (env.set i (.ext (.lst ds))) := by
  simp only [AtL, ← AtL_eq, frzD]
  rcases env[i]? with _ | (_ | d | _ | _ | _) <;> try rfl
  cases d <;> rfl
theorem retD_ext (env : Env') (d : D) (q : Sl → Env' → Prop) : retD env (.ext d) q = q (.ext d) env := rfl
theorem retD_lst (env : Env') (a : Addr) (ds : List D) (q : Sl → Env' → Prop) : retD env (.lst a ds) q = q (.lst a ds) env := rfl
theorem retD_al (env : Env') (i : Nat) (a : Addr) (q : Sl → Env' → Prop) : retD env (.al i a) q = AtL env[i]? fun b ds => b = a ∧ q (.lst a ds) (env.set i .un) := by
  simp only [AtL, ← AtL_eq] <;> rfl
theorem seqD_tup (env : Env') (ds : List D) (q : List D → (Env' → Prop) → Prop) : seqD env (.ext (.tup ds)) q = q ds fun _ => True := rfl
theorem seqD_elst (env : Env') (ds : List D) (q : List D → (Env' → Prop) → Prop) : seqD env (.ext (.lst ds)) q = q ds fun _ => True := rfl
theorem seqD_lst (env : Env') (a : Addr) (ds : List D) (q : List D → (Env' → Prop) → Prop) : seqD env (.lst a ds) q = q ds fun _ => True := rfl
theorem seqD_al (env : Env') (i : Nat) (a : Addr) (q : List D → (Env' → Prop) → Prop) : seqD env (.al i a) q = AtL env[i]? fun b ds => b = a ∧ q ds fun env' => env'[i]? = some (.lst a ds) := by
  simp only [AtL, ← AtL_eq] <;> rfl
theorem mutD_w (env : Env') (i : Nat) (a : Addr) (f : DMut) (Q : Sl → Env' → Prop) : mutD env i a f Q = AtL env[i]? fun b ds => b = a ∧ f ds fun d ds' => Q (.ext d) (env.set i (.lst a ds')) := by
  simp only [AtL, ← AtL_eq] <;> rfl
theorem dAppend_w (i : Nat) (t : DT) (Ex : DX) (env : Env') (Q : Sl → Env' → Prop) : dAppend i t Ex env Q = AtL env[i]? fun a _ => t Ex env fun x env1 => frzD env1 x fun d env2 => mutD env2 i a (fun ds q => ds.length < sizeLine ∧ q .non (ds ++ [d])) Q := by
  simp only [AtL, ← AtL_eq] <;> rfl
def extD (env : Env') (i : Nat) (a : Addr) (d : D) (Q : Sl → Env' → Prop) : Prop := match d with
    | .lst es => mutD env i a (fun ds q => ds.length + es.length ≤ sizeLine ∧ q .non (ds ++ es)) Q
    | _ => False
theorem extD_lst (env : Env') (i : Nat) (a : Addr) (es : List D) (Q : Sl → Env' → Prop) : extD env i a (.lst es) Q = mutD env i a (fun ds q => ds.length + es.length ≤ sizeLine ∧ q .non (ds ++ es)) Q := rfl
theorem dExtend_w (i : Nat) (t : DT) (Ex : DX) (env : Env') (Q : Sl → Env' → Prop) : dExtend i t Ex env Q = AtL env[i]? fun a _ => t Ex env fun x env1 => wd env1 x fun d => extD env1 i a d Q := by
  simp only [AtL, ← AtL_eq] <;> rfl
def popD (env : Env') (i : Nat) (a : Addr) (x : Sl) (Q : Sl → Env' → Prop) : Prop := match x with
    | .ext (.int n) => mutD env i a (fun ds q => 0 ≤ n ∧ n < 2 ^ 63 ∧ ∃ d, ds[n.toNat]? = some d ∧ q d (ds.eraseIdx n.toNat)) Q
    | _ => False
theorem popD_int (env : Env') (i : Nat) (a : Addr) (n : Int) (Q : Sl → Env' → Prop) : popD env i a (.ext (.int n)) Q = mutD env i a (fun ds q => 0 ≤ n ∧ n < 2 ^ 63 ∧ GetS ds[n.toNat]? (fun d => q d (ds.eraseIdx n.toNat)) .mk) Q := rfl
theorem dPopAt_w (i : Nat) (t : DT) (Ex : DX) (env : Env') (Q : Sl → Env' → Prop) : dPopAt i t Ex env Q = AtL env[i]? fun a _ => t Ex env fun x env1 => popD env1 i a x Q := by
  simp only [AtL, ← AtL_eq] <;> rfl
theorem dPop_w (i : Nat) (Ex : DX) (env : Env') (Q : Sl → Env' → Prop) : dPop i Ex env Q = AtL env[i]? fun a _ => mutD env i a (fun ds q => GetS ds[ds.length - 1]? (fun d => q d ds.dropLast) .mk) Q := by
  simp only [AtL, ← AtL_eq] <;> rfl
def setD (env2 : Env') (i : Nat) (a : Addr) (d : D) (z : Sl) (q : Env' → Prop) : Prop := match z with
    | .ext (.int n) => AtL env2[i]? fun b ds => b = a ∧ ∃ j, ixN ds.length n = some j ∧ q (env2.set i (.lst a (ds.set j d)))
    | _ => False
def NatS (o : Option Nat) (k : Nat → Prop) (_ : Tok k) : Prop := ∃ j, o = some j ∧ k j
theorem NatS_some (j : Nat) (k : Nat → Prop) (t : Tok k) : NatS (some j) k t = k j := propext ⟨fun ⟨_, e, h⟩ => by cases e; exact h, fun h => ⟨j, rfl, h⟩⟩
theorem setD_int (env2 : Env') (i : Nat) (a : Addr) (d : D) (n : Int) (q : Env' → Prop) : setD env2 i a d (.ext (.int n)) q = AtL env2[i]? fun b ds => b = a ∧ NatS (ixN ds.length n) (fun j => q (env2.set i (.lst a (ds.set j d)))) .mk := rfl
theorem sSetItem_w (i : Nat) (tI te : DT) (Ex : DX) (E : DEnds) (env : Env') : sSetItem i tI te Ex E env = te Ex env fun y env0 => frzD env0 y fun d env1 => AtL env1[i]? fun a _ => tI Ex env1 fun z env2 => setD env2 i a d z E.nx := by
  simp only [AtL, ← AtL_eq, setD, sSetItem] <;> rfl
theorem dTable_w (tab : Tab) (i : Nat) (Ex : DX) (env : Env') (Q : Sl → Env' → Prop) : dTable tab i Ex env Q = AtS env[i]? (fun d => match d with | .str w => ∃ n, tab.lookup w = some n ∧ Q (.ext (.int n)) env | _ => False) (fun _ _ => False) .mk .mk := by
  unfold dTable AtS
  rcases env[i]? with _ | (_ | d | _ | _ | _) <;> try rfl
  cases d <;> rfl
theorem fIx_l (ds : List D) (i : Int) (Q : Sl → Prop) : fIx (.lst ds) (.int i) Q = GetS (atI ds i) (fun d => Q (.ext d)) .mk := rfl
theorem fIx_t (ds : List D) (i : Int) (Q : Sl → Prop) : fIx (.tup ds) (.int i) Q = GetS (atI ds i) (fun d => Q (.ext d)) .mk := rfl
theorem fIx_k (ds : List D) (i : Int) (Q : Sl → Prop) : fIx (.tk ds) (.int i) Q = GetS (atI ds i) (fun d => Q (.ext d)) .mk := rfl
theorem fIx_f (ds : List D) (i : Int) (Q : Sl → Prop) : fIx (.fz ds) (.int i) Q = GetS (atI ds i) (fun d => Q (.ext d)) .mk := rfl
def BoolS (o : Option Bool) (k : Bool → Prop) (_ : Tok k) : Prop := ∃ b, o = some b ∧ k b
theorem BoolS_some (b : Bool) (k : Bool → Prop) (t : Tok k) : BoolS (some b) k t = k b := propext ⟨fun ⟨_, e, h⟩ => by cases e; exact h, fun h => ⟨b, rfl, h⟩⟩
theorem fIsi1 (d : D) (T : String) (Q : Sl → Prop) : fIsi [d, .val (.ty T)] Q = (d.noVal = true ∧ d.isFz = false ∧ BoolS (kitB d.ty T) (fun b => Q (.ext (.bl b))) .mk) := rfl
theorem fIsi2 (d : D) (T U : String) (Q : Sl → Prop) : fIsi [d, .tup [.val (.ty T), .val (.ty U)]] Q = (d.noVal = true ∧ d.isFz = false ∧ BoolS (kitB d.ty T) (fun b => BoolS (kitB d.ty U) (fun c => Q (.ext (.bl (b || c)))) .mk) .mk) := by
  simp only [fIsi, BoolS]
  refine propext ⟨fun ⟨h1, h2, b, c, h3, h4, q⟩ => ⟨h1, h2, b, h3, c, h4, q⟩, fun ⟨h1, h2, b, h3, c, h4, q⟩ => ⟨h1, h2, b, c, h3, h4, q⟩⟩
theorem kb_non_tuple : kitB (D.ty .non) "tuple" = some false := by decide +kernel
theorem kb_non_list : kitB (D.ty .non) "list" = some false := by decide +kernel
theorem kb_non_bool : kitB (D.ty .non) "bool" = some false := by decide +kernel
theorem kb_non_int : kitB (D.ty .non) "int" = some false := by decide +kernel
theorem kb_non_str : kitB (D.ty .non) "str" = some false := by decide +kernel
theorem kb_bl_tuple (b : Bool) : kitB (D.ty (.bl b)) "tuple" = some false := show kitB "bool" "tuple" = some false by decide +kernel
theorem kb_bl_list (b : Bool) : kitB (D.ty (.bl b)) "list" = some false := show kitB "bool" "list" = some false by decide +kernel
theorem kb_bl_bool (b : Bool) : kitB (D.ty (.bl b)) "bool" = some true := show kitB "bool" "bool" = some true by decide +kernel
theorem kb_bl_int (b : Bool) : kitB (D.ty (.bl b)) "int" = some true := show kitB "bool" "int" = some true by decide +kernel
theorem kb_bl_str (b : Bool) : kitB (D.ty (.bl b)) "str" = some false := show kitB "bool" "str" = some false by decide +kernel
theorem kb_int_tuple (i : Int) : kitB (D.ty (.int i)) "tuple" = some false := show kitB "int" "tuple" = some false by decide +kernel
theorem kb_int_list (i : Int) : kitB (D.ty (.int i)) "list" = some false := show kitB "int" "list" = some false by decide +kernel
theorem kb_int_bool (i : Int) : kitB (D.ty (.int i)) "bool" = some false := show kitB "int" "bool" = some false by decide +kernel
theorem kb_int_int (i : Int) : kitB (D.ty (.int i)) "int" = some true := show kitB "int" "int" = some true by decide +kernel
theorem kb_int_str (i : Int) : kitB (D.ty (.int i)) "str" = some false := show kitB "int" "str" = some false by decide +kernel
theorem kb_str_tuple (x : Str) : kitB (D.ty (.str x)) "tuple" = some false := show kitB "str" "tuple" = some false by decide +kernel
theorem kb_str_list (x : Str) : kitB (D.ty (.str x)) "list" = some false := show kitB "str" "list" = some false by decide +kernel
theorem kb_str_bool (x : Str) : kitB (D.ty (.str x)) "bool" = some false := show kitB "str" "bool" = some false by decide +kernel
theorem kb_str_int (x : Str) : kitB (D.ty (.str x)) "int" = some false := show kitB "str" "int" = some false by decide +kernel
theorem kb_str_str (x : Str) : kitB (D.ty (.str x)) "str" = some true := show kitB "str" "str" = some true by decide +kernel
theorem kb_lst_tuple (ds : List D) : kitB (D.ty (.lst ds)) "tuple" = some false := show kitB "list" "tuple" = some false by decide +kernel
theorem kb_lst_list (ds : List D) : kitB (D.ty (.lst ds)) "list" = some true := show kitB "list" "list" = some true by decide +kernel
theorem kb_lst_bool (ds : List D) : kitB (D.ty (.lst ds)) "bool" = some false := show kitB "list" "bool" = some false by decide +kernel
theorem kb_lst_int (ds : List D) : kitB (D.ty (.lst ds)) "int" = some false := show kitB "list" "int" = some false by decide +kernel
theorem kb_lst_str (ds : List D) : kitB (D.ty (.lst ds)) "str" = some false := show kitB "list" "str" = some false by decide +kernel
theorem kb_tup_tuple (ds : List D) : kitB (D.ty (.tup ds)) "tuple" = some true := show kitB "tuple" "tuple" = some true by decide +kernel
theorem kb_tup_list (ds : List D) : kitB (D.ty (.tup ds)) "list" = some false := show kitB "tuple" "list" = some false by decide +kernel
theorem kb_tup_bool (ds : List D) : kitB (D.ty (.tup ds)) "bool" = some false := show kitB "tuple" "bool" = some false by decide +kernel
theorem kb_tup_int (ds : List D) : kitB (D.ty (.tup ds)) "int" = some false := show kitB "tuple" "int" = some false by decide +kernel
theorem kb_tup_str (ds : List D) : kitB (D.ty (.tup ds)) "str" = some false := show kitB "tuple" "str" = some false by decide +kernel
def BlS (z : Sl) (k : Bool → Prop) (_ : Tok k) : Prop := match z with
  | .ext (.bl b) => k b
  | _ => False
theorem BlS_bl (b : Bool) (k : Bool → Prop) (t : Tok k) : BlS (.ext (.bl b)) k t = k b := rfl
theorem bl_match (z : Sl) (p q : Prop) : (match z with
  | .ext (.bl true) => p
  | .ext (.bl false) => q
  | _ => False) = BlS z (fun b => if b = true then p else q) .mk := by
  unfold BlS
  rcases z with _ | (_ | b | _ | _ | _ | _ | _ | _ | _ | _ | _) | _ | _ <;> try rfl
  cases b <;> simp
theorem dChain_w (f f' : D → D → (Sl → Prop) → Prop) (ta tb tc : DT) (Ex : DX) (env : Env') (Q : Sl → Env' → Prop) : dChain f f' ta tb tc Ex env Q = ta Ex env fun x env1 => tb Ex env1 fun y env2 => wd env2 x fun d => wd env2 y fun d' => f d d' fun z =>
  BlS z (fun b => if b = true then (tc Ex env2 fun w env3 => wd env3 y fun d1 => wd env3 w fun d2 => f' d1 d2 fun sl => Q sl env3) else Q (.ext (.bl false)) env2) .mk := by
  simp only [← bl_match] <;> rfl
theorem dAndV_w (ta tb : DT) (Ex : DX) (env : Env') (Q : Sl → Env' → Prop) : dAndV ta tb Ex env Q = ta Ex env fun x env1 => BlS x (fun b => if b = true then tb Ex env1 Q else Q (.ext (.bl false)) env1) .mk := by
  simp only [← bl_match] <;> rfl
theorem dOrV_w (ta tb : DT) (Ex : DX) (env : Env') (Q : Sl → Env' → Prop) : dOrV ta tb Ex env Q = ta Ex env fun x env1 => BlS x (fun b => if b = true then Q (.ext (.bl true)) env1 else tb Ex env1 Q) .mk := by
  have e : ∀ (z : Sl) (p q : Prop), (match z with
    | .ext (.bl false) => q
    | .ext (.bl true) => p
    | _ => False) = BlS z (fun b => if b = true then p else q) .mk := by
    intro z p q
    unfold BlS
    rcases z with _ | (_ | b | _ | _ | _ | _ | _ | _ | _ | _ | _) | _ | _ <;> try rfl
    cases b <;> simp
  simp only [← e] <;> rfl
abbrev iD (l : List Int) : List D := l.map D.int
abbrev nD (l : List Nat) : List D := l.map fun n : Nat => D.int (n : Int)
theorem nD_cons (x : Nat) (l : List Nat) : nD (x :: l) = D.int (x : Int) :: nD l := rfl
theorem nD_app (a b : List Nat) : nD (a ++ b) = nD a ++ nD b := List.map_append
theorem iD_app (a b : List Int) : iD (a ++ b) = iD a ++ iD b := List.map_append
theorem nD_len (a : List Nat) : (nD a).length = a.length := List.length_map _
theorem iD_len (a : List Int) : (iD a).length = a.length := List.length_map _
theorem cmulN {i j : Int} {a b : Nat} (hi : i.natAbs < 2 ^ a) (hj : j.natAbs < 2 ^ b) (h : a + b < 1000000) : CMulW i j := by
  unfold CMulW
  have h1 : i.natAbs.log2 ≤ a := by
    rcases Nat.eq_zero_or_pos i.natAbs with z | z
    · rw [z]; exact Nat.zero_le _
    · exact Nat.le_of_lt ((Nat.log2_lt (by omega)).2 hi)
  have h2 : j.natAbs.log2 ≤ b := by
    rcases Nat.eq_zero_or_pos j.natAbs with z | z
    · rw [z]; exact Nat.zero_le _
    · exact Nat.le_of_lt ((Nat.log2_lt (by omega)).2 hj)
  omega
theorem cmul64 {i j : Int} (h1 : -18446744073709551616 < i) (h2 : i < 18446744073709551616) (h3 : -18446744073709551616 < j) (h4 : j < 18446744073709551616) : CMulW i j :=
  cmulN (a := 64) (b := 64) (by omega) (by omega) (by decide)
theorem atN {α : Type} {xs : List α} {n : Nat} {x : α} (h : xs[n]? = some x) : atI xs (n : Int) = some x := by
  have hl : n < xs.length := (List.getElem?_eq_some_iff.1 h).1
  have e : ixN xs.length (n : Int) = some n := by
    unfold ixN
    rw [if_pos (by omega), if_pos (by omega)]
    simp
  unfold atI
  rw [e]
  exact h
theorem ixN_nat {n i : Nat} (h : i < n) : ixN n (i : Int) = some i := by
  unfold ixN
  rw [if_pos (by omega), if_pos (by omega)]
  simp
theorem atI_int {α : Type} {xs : List α} {i : Int} {x : α} (h0 : 0 ≤ i) (h : xs[i.toNat]? = some x) : atI xs i = some x := by
  have := atN h
  rwa [Int.toNat_of_nonneg h0] at this
theorem atI_0 {α : Type} (x : α) (xs : List α) : atI (x :: xs) 0 = some x := atN (n := 0) rfl
theorem atI_1 {α : Type} (x y : α) (xs : List α) : atI (x :: y :: xs) 1 = some y := atN (n := 1) rfl
theorem atI_2 {α : Type} (x y z : α) (xs : List α) : atI (x :: y :: z :: xs) 2 = some z := atN (n := 2) rfl
theorem atI_3 {α : Type} (x y z u : α) (xs : List α) : atI (x :: y :: z :: u :: xs) 3 = some u := atN (n := 3) rfl
theorem ixN_0 (n : Nat) : ixN (n + 1) 0 = some 0 := ixN_nat (i := 0) (by omega)
theorem ixN_1 (n : Nat) : ixN (n + 1 + 1) 1 = some 1 := ixN_nat (i := 1) (by omega)
theorem ixN_2 (n : Nat) : ixN (n + 1 + 1 + 1) 2 = some 2 := ixN_nat (i := 2) (by omega)
end HD
namespace HD
open PySem L2
abbrev FnD (K : PySem.W.Frag) (x : Str) (st : Stmt) (f : Addr) (fd : FuncData) : Prop := FunD K x x (defArgs st) (defBody st) (defScope st) [] [] f fd
theorem Def.of {G : GG} {x : Str} {st : Stmt} {f : Addr} {fd : FuncData} {N ps : List Str} {k n m : Nat} {t : DTS} {sp : DSpec} (F : FnD G.K x st f fd) (hmg : G.mg x = some (.ref f)) (sc : FnScope N ps (defScope st)) (hb : DSs G N (fnS (defScope st)) k (defBody st) t) (hm : Meets t n m sp)
    (hn : ps.length = n) (hN : N.length = n + m) (len : ∀ ds Q X, sp ds Q X → ds.length = n) (bd : Binds G.K fd ps []) : Def G (k + 1) x n sp := by
  subst hn
  refine ⟨⟨f, fd, ps, fn_ok (He5.fun_of F) sc hb fun args Qd Xd h hl => ?_, hmg, F.kp, bd⟩, len⟩
  have e : N.length - args.length = m := by omega
  rw [e]
  exact hm args Qd Xd h
end HD
namespace HD
open PySem L2
structure XOk (G : GG) (x : Str) : Prop where
  mg : G.mg x = some (clsV G.K x)
  exc : (He.Fa.exc x).ok G.K = true
def sRaise (x : Str) : DTS := fun Ex _ env => Ex x env
section
variable {G : GG} {N : List Str} {sc : SC} {k : Nat}
theorem ds_raise {x m : Str} {j : Nat} {p p2 pos pos' : Pos} (h : XOk G x) (hg : GlS sc x := by rfl) (hdb : (x == ("__debug__" : Str)) = false := by decide) (hnt : isNt x = false := by decide +kernel) :
    DS G N sc k (.Raise (some (.Call (.Name x p) [.Constant (.str m) j p2] [] pos)) none pos') (sRaise x) := ⟨fun W => by
  obtain ⟨q1, q2, q3, q4⟩ := He.exc_ok h.exc
  refine ⟨fun _ σ H => W (clsV G.K x) none σ H, fun X S => ?_, fun e Ex hl env F σ H E Dn hh ht ok => by
    have z := hl x none env F σ H hh (.inl ⟨hnt, rfl⟩) ht
    rw [xk_no hnt] at z
    exact z⟩
  have a1 : PySem.W.excIn X.K (He.ga G.K x) He.veBase "ValueError.__new__" = true := by rw [S.K]; exact q1
  have a2 : PySem.W.keepIn X.K (.ref (He.ga G.K x)) = true := by rw [S.K]; exact q2
  have a3 : Raises X (.ref (He.ga G.K x)) := raises_own (by rw [S.K]; exact q3) (by rw [S.K]; exact q4)
  have a4 : X.mg x = some (.ref (He.ga G.K x)) := by rw [S.mg]; exact h.mg
  have a5 : Gl X x := S.gl hg
  exact ps_raise S.calm S.tk (pmk_own PySem.F.excBase_ValueError a1 a4 a2 a3 a5 hdb)⟩
def sTryKeep (cs : List Str) (i j : Nat) (t : DTS) : DTS := fun _ E env => t (fun c env1 => c ∈ cs ∧ i < env1.length ∧ E.nx ((env1.set j (.ext (.exc c))).set i .un)) E env
end
end HD
namespace HD
open PySem L2
abbrev FTab := Str → Option (Nat × DSpec)
def dCallV (FT : FTab) (i : Nat) (ta : DTA) : DT := fun Ex env Q => match env[i]? with
  | some (.ext (.glo nm)) => ∃ n spec, FT nm = some (n, spec) ∧ dCall spec ta Ex env Q
  | _ => False
end HD
namespace HD
open PySem PySem.Spec PyProof.Rows L2
abbrev lamE (q : Str) (scope : Scope) (clo : List (Str × Addr)) (f c' L : Addr) : Env := PySem.W.envX q scope L f (.ref c') clo
structure LamS1 (x : Str) (clo : List (Str × Addr)) (scope : Scope) : Prop where
  kind : scope.kind = .function
  co : scope.isCoroutine = false
  gen : scope.isGenerator = false
  par : scope.names.lookup x = some .local
  own : ∀ y ∈ scope.names, y.2 ≠ .cell ∧ (y.2 = .local → y.1 = x)
  free : ∀ y, scope.names.lookup y = some .free → ∃ c, clo.lookup y = some c
  inj : ∀ y z c, clo.lookup y = some c → clo.lookup z = some c → y = z
def lamC (C : CXT) (P : Program) (w : World) (K : PySem.W.Frag) (mg : Str → Option Value) (base : Heap) (N : List Str) (q : Str) (scope : Scope) (clo : List (Str × Addr)) (f c' : Addr) (A : Around) (outer : List Env) (s : Shared) (H : Hp) (E : XK) : Cx where
  prog := P
  w := w
  K := K
  mg := mg
  base := base
  A := A.deeper (lamE q scope clo f c' s.heap.objs.size)
  N := N
  s_0 := s
  H_0 := H
  env := lamE q scope clo f c' s.heap.objs.size
  outer := outer
  stack := lamE q scope clo f c' s.heap.objs.size :: outer
  ex := []
  fn := fun _ => false
  calm := true
  pn := []
  xe := fun e s' => wpAny (model P w) (A.deeper (lamE q scope clo f c' s.heap.objs.size)) (leaving (lamE q scope clo f c' s.heap.objs.size) e) (fun _ s'' => C outer H s E e s'') (fun e' s'' => C outer H s E e' s'') s'
def Caps (base : Heap) (scope : Scope) (clo : List (Str × Addr)) (caps : List (Str × V)) : Prop := ∀ y v, (y, v) ∈ caps → scope.names.lookup y = some .free ∧ ∃ c u, clo.lookup y = some c ∧ base.IsCell c (some u) ∧ RelV v u
section
variable {C : CXT} {P : Program} {w : World} {K : PySem.W.Frag} {mg : Str → Option Value} {base : Heap} {q x : Str} {scope : Scope} {clo : List (Str × Addr)} {f c' : Addr} {k : Nat} {caps : List (Str × V)}
theorem lam_start1 {A : Around} {outer : List Env} {s : Shared} {H : Hp} {E : XK} {h₁ : Heap} {tk : Nat} {m : Str → Option Value} {u : Value} {v : V} (L : LamS1 x clo scope) (hC : Caps base scope clo caps) (hcell : ∀ y c, clo.lookup y = some c → ∃ v, base.IsCell c v) (e0 : Env0 P w K mg base A outer s H) (hd : A.handled = none)
    (hns : h₁.Ns s.heap.objs.size m) (kp : ∀ b o, s.heap.get? b = some o → h₁.get? b = some o) (hm : m x = some u) (r : RelV v u) :
    L2.Inv (lamC C P w K mg base (x :: caps.map (·.1)) q scope clo f c' A outer s H E) [] (some v :: caps.map fun y => some y.2) H { s with heap := h₁, toks := tk } := by
  have bk : ∀ b o, base.get? b = some o → h₁.get? b = some o := fun b o e => kp _ _ (e0.bs b o e).1
  have cellB : ∀ {c : Addr} {v : Option Value}, base.IsCell c v → h₁.IsCell c v := fun {c v} ⟨o, ho, hd⟩ => ⟨o, bk _ _ ho, hd⟩
  have noA : ∀ b : Addr, b ∉ (lamC C P w K mg base (x :: caps.map (·.1)) q scope clo f c' A outer s H E).ex := fun b z => absurd (show b ∈ ([] : List Addr) from z) (by simp)
  have nocell : ∀ y, scope.names.lookup y ≠ some .cell := fun y hy => absurd rfl (L.own _ (PySem.mem_of_lookup hy)).1
  refine ⟨⟨e0.mod, L.kind, rfl, rfl, Nat.le_refl _, fun y z c e1 e2 => L.inj y z c e1 e2, fun y hy => ?_, fun y c z _ => ?_, fun _ => hd, Around.frames_deeper e0.frames, .inr ⟨rfl, rfl⟩, fun b z => absurd z (noA b), e0.bs, e0.bsz, fun b _ _ => noA b,
      fun b z => absurd z (noA b), e0.funs, e0.frf⟩,
    rfl, e0.bare, Un.kept kp, ⟨_, hns, fun i y z e1 e2 e3 => ?_⟩, fun y c e => ?_, e0.hok.fresh (Nat.le_refl _), fun y c e => ?_, fun q hq => absurd (show q ∈ ([] : List (Addr × Obj)) ++ [] from hq) (by simp), e0.hok.kept kp, ?_⟩
  · have hy : scope.names.lookup y = some .cell ∨ scope.names.lookup y = some .free := hy
    rcases hy with hy | hy
    · exact absurd hy (nocell y)
    · exact L.free y hy
  · have z : false = true := z
    cases z
  · have e1 : (x :: caps.map (·.1))[i]? = some y := e1
    cases i with
    | zero =>
      have ey : x = y := Option.some.inj e1
      have ez : v = z := Option.some.inj (Option.some.inj e2)
      subst ey
      subst ez
      exact ⟨u, r, .inl ⟨L.par, hm⟩⟩
    | succ i =>
      have e1 : (caps.map (·.1))[i]? = some y := e1
      have e2 : (caps.map fun y => some y.2)[i]? = some (some z) := e2
      rw [List.getElem?_map] at e1 e2
      cases hc : caps[i]? with
      | none => rw [hc] at e1; cases e1
      | some p =>
        rw [hc] at e1 e2
        have ey : p.1 = y := Option.some.inj e1
        have ez : p.2 = z := Option.some.inj (Option.some.inj e2)
        subst ey
        subst ez
        obtain ⟨h1, c, u', h2, h3, h4⟩ := hC p.1 p.2 (List.mem_of_getElem? hc)
        exact ⟨u', h4, .inr ⟨.inr h1, c, h2, cellB h3⟩⟩
  · obtain ⟨v', hv⟩ := hcell y c e
    exact ⟨v', cellB hv⟩
  · obtain ⟨v', o, ho, _⟩ := hcell y c e
    exact (e0.bs _ _ ho).2
  · show (some v :: caps.map fun y => some y.2).length = (x :: caps.map (·.1)).length
    simp
theorem fnG_lam {params : Arguments} {body : Expr} {pm ctv : Value} {oc : Obj} {cvs : Array Value} {tq : PySem.Tok} {sp : Sp} (hf : base.get? f = some (PySem.W.kla_obj "<lambda>" q params body scope clo pm c' ctv)) (hoc : base.get? c' = some oc) (hdc : oc.data = .fields cvs) (hvc : cvs[1]? = some (.str q tq))
    (L : LamS1 x clo scope) (hC : Caps base scope clo caps) (hcell : ∀ y c, clo.lookup y = some c → ∃ v, base.IsCell c v) (fit : ∀ vs H Q E, sp vs H Q E → vs.length = 1)
    (hbody : ∀ (A : Around) (out : List Env) (t : Shared) (H : Hp) (v : V) (Q : VK) (E : XK), A.guards = some [] → Room k (A.deeper (lamE q scope clo f c' t.heap.objs.size)) → sp [v] H Q E →
      ∃ te, PE (lamC C P w K mg base (x :: caps.map (·.1)) q scope clo f c' A out t H E) body te ∧ te (some v :: caps.map fun y => some y.2) H Q) :
    FnG P w K mg base C (k + 1) f (PySem.W.kla_fn "<lambda>" q params body scope clo pm (.ref c') ctv) [x] sp := by
  refine ⟨fit, fun A out t H args us vs Q E gd room e0 bnd rel hsp => ?_⟩
  have hl := fit _ _ _ _ hsp
  cases rel with
  | nil => cases hl
  | cons r rel =>
    rename_i v u vs us
    cases rel with
    | cons _ _ => cases hl
    | nil =>
      have noLim : t.heap.NoLimit := e0.mod.nolimit.keeps fun b o q => (e0.bs b o q).1
      refine PySem.W.kla_callFunE room.depth (e0.bs _ _ hf).1 rfl L.co L.gen rfl ⟨c', oc, cvs, tq, rfl, (e0.bs _ _ hoc).1, hdc, hvc⟩ (bnd _ _ _ _ ?_)
      refine wpAny_newFunctionEnv (fun y hy => (L.own y hy).1) (fun y hy => ?_) (fun h₁ hns hsb => ⟨noLim.fresh _ hsb, ?_⟩) L.kind
      · have hy : y ∈ [(x, u)] := hy
        rw [List.mem_singleton.1 hy]
        exact L.par
      have kp : ∀ b o, t.heap.get? b = some o → h₁.get? b = some o := fun b o e => hsb.extBut b o (Nat.ne_of_lt (Heap.lt_size e)) (Heap.get?_push_of_some _ e)
      obtain ⟨te, hb, ht⟩ := hbody A out t H v Q E gd (room.deeper _) hsp
      have J := lam_start1 (C := C) (q := q) (f := f) (c' := c') (E := E) (tk := t.toks + 1) L hC hcell e0 room.hd hns kp (u := u) (v := v) (by
        show ([(x, u)] : List (Str × Value)).reverse.lookup x = some u
        simp) r
      refine PySem.W.kla_codeExpr (wpAny_mono (hb.run [] _ _ H Q J ht) (fun v' s' hq => ?_) fun e s' hq => hq)
      obtain ⟨w', H', J', rv, qq⟩ := hq
      exact ⟨w', H', J'.os, J'.bare, J'.base, J'.hok, rv, qq⟩
end
end HD
namespace HD
open PySem PySem.Spec PyProof.Rows L2
structure LDef (G : GG) (kf : Nat) (f : Addr) (n : Nat) (spec : DSpec) : Prop where
  ex : ∃ fd ps, FnG G.P G.w G.K G.mg G.base (L2.CX G.P G.w) kf f fd ps (toSp G.K n spec) ∧ (∃ oc od sl, G.base.get? f = some ⟨oc, od, .func fd, sl⟩) ∧ Binds G.K fd ps []
  len : ∀ ds Q X, spec ds Q X → ds.length = n
def dCallL (f : Addr) (spec : DSpec) (i : Nat) (ta : DTA) : DT := fun Ex env Q => env[i]? = some (.ext (.val (.ref f))) ∧ dCall spec ta Ex env Q
def tCallL (K : PySem.W.Frag) (f : Addr) (n : Nat) (spec : DSpec) (W : WX) (i : Nat) (t : TA) : TE := fun σ H Q => σ[i]? = some (some (.ref f)) ∧ tCallS (toSp K n spec) (WE W) t σ H Q
section
variable {G : GG} {N : List Str} {sc : SC} {k kf n : Nat} {x : Str} {f : Addr} {spec : DSpec} {e : Expr} {es : List Expr} {p pos : Pos}
theorem de_callL {ta : DTA} (i : Nat) (d : LDef G kf f n spec) (ha : DAs G N sc k (e :: es) ta) (hk : kf ≤ k := by decide) (hN : N[i]? = some x := by rfl)
    (hv : Vis sc.sc x := by first | exact Or.inl rfl | exact Or.inr (Or.inl rfl) | exact Or.inr (Or.inr rfl)) (hdb : (x == ("__debug__" : Str)) = false := by decide) (hcd : (x == ("__classdict__" : Str)) = false := by decide)
    (he : NoStar e es := by intro _; rfl) (hpl : ∀ env, (backTo pos (starEach es env)).any (·.1) = false := by intro _; rfl) :
    DE G N sc k (.Call (.Name x p) (e :: es) [] pos) (dCallL f spec i ta) := ⟨fun W => by
  obtain ⟨te, p1, i1⟩ := ha.ex W
  obtain ⟨fd, ps, h1, ⟨oc, od, sl, h3⟩, h4⟩ := d.ex
  refine ⟨tCallL G.K f n spec W i te, fun X S => ?_, fun e Ex hl env T F σ H Q R hh ht hR => ?_⟩
  · refine ⟨fun pins s σ H Q I h => ?_⟩
    obtain ⟨hs, ht⟩ := h
    have ev := (pe_var (pos := p) (by rw [S.nms]; exact hN) (S.vis hv) hdb hcd).run pins s σ H (fun v H1 => v = .ref f ∧ H1 = H) I ⟨_, hs, rfl, rfl⟩
    refine wpAny_Call_Name_kw (thn ev fun u s1 ⟨v, H1, I1, r1, q1⟩ => ?_)
    obtain ⟨rfl, rfl⟩ := q1
    cases r1
    have fa : ∀ {pins σ H s}, L2.Inv X pins σ H s → PySem.W.FnAt f s.heap := fun I => ⟨oc, od, fd, sl, I.bk _ _ (by rw [S.base]; exact h3)⟩
    refine PySem.W.callWith_F (fa I1) (thn ((p1 X S).run pos pins s1 σ _ _ I1 ht) fun us s2 ⟨vs, H2, I2, r, q⟩ => ⟨fa I2, ?_⟩) (he _) (hpl _)
    have h1' : FnG X.prog X.w X.K X.mg X.base (L2.CX X.prog X.w) kf f fd ps (toSp G.K n spec) := by rw [S.prog, S.w, S.K, S.mg, S.base]; exact h1
    exact runG (E := WE W) h1' S.gd (S.room.mono hk) (by rw [S.K]; exact h4) (passAt S.tk σ) I2 r q
  · obtain ⟨hi, ht⟩ := ht
    rcases hh.slots i _ hi with z | ⟨v, hv, ok⟩
    · cases z
    · have ev : v = .ref f := ok
      subst ev
      exact ⟨hv, im_call i1 d.len e Ex hl env T F σ H Q R hh ht hR⟩⟩
end
def lamS (scope : Scope) : SC := ⟨scope, fun _ => false, true⟩
section
variable {G : GG} {q x : Str} {scope : Scope} {clo : List (Str × Addr)} {f c' : Addr} {k : Nat} {caps : List (Str × V)}
theorem lam_ok {params : Arguments} {body : Expr} {pm ctv : Value} {oc : Obj} {cvs : Array Value} {tq : PySem.Tok} {spec : DSpec} {tb : DT} {dcs : List D} (hf : G.base.get? f = some (PySem.W.kla_obj "<lambda>" q params body scope clo pm c' ctv)) (hoc : G.base.get? c' = some oc) (hdc : oc.data = .fields cvs) (hvc : cvs[1]? = some (.str q tq))
    (L : LamS1 x clo scope) (hC : Caps G.base scope clo caps) (hcell : ∀ y c, clo.lookup y = some c → ∃ v, G.base.IsCell c v) (hnd : (x :: caps.map (·.1)).Nodup)
    (hdl : dcs.length = caps.length) (hdv : ∀ (F : Hp) (i : Nat) (d : D) (v : V), dcs[i]? = some d → (caps.map (·.2))[i]? = some v → Rep G.K F d v)
    (hb : DE G (x :: caps.map (·.1)) (lamS scope) k body tb) (h : ∀ d Qd Xd, spec [.ext d] Qd Xd → tb (exOf [.ext d] Xd) (.ext d :: dcs.map .ext) fun r env => r.plain ∧ Qd r [.ext d]) (len : ∀ ds Q X, spec ds Q X → ds.length = 1) (hone : ∀ ds Q X, spec ds Q X → ∃ d, ds = [.ext d]) :
    FnG G.P G.w G.K G.mg G.base (L2.CX G.P G.w) (k + 1) f (PySem.W.kla_fn "<lambda>" q params body scope clo pm (.ref c') ctv) [x] (toSp G.K 1 spec) := by
  refine fnG_lam hf hoc hdc hvc L hC hcell (fun vs H Q E h => ?_) fun A out t H v Q E gd hr hsp => ?_
  · obtain ⟨_, _, _, _, hl, _⟩ := h
    exact hl
  · obtain ⟨F0, args, Qd, Xd, hl, hA, hs, hQ, hX⟩ := hsp
    obtain ⟨d, rfl⟩ := hone _ _ _ hs
    obtain ⟨ts, p1, i1⟩ := hb.ex fun cls d _ H => E cls d H
    refine ⟨ts, p1 _ ?_, ?_⟩
    · exact ⟨rfl, rfl, rfl, rfl, rfl, rfl, hnd, rfl, rfl, hr, takes_of rfl rfl rfl rfl, fun _ z => (nomatch z), passes_of rfl, fun _ => ⟨rfl, rfl⟩, gd⟩
    · have own : ∀ l : List D, ownedE (l.map Sl.ext) = [] := fun l => by
        unfold ownedE
        rw [List.flatMap_eq_nil_iff]
        intro y hy
        obtain ⟨z, _, rfl⟩ := List.mem_map.1 hy
        rfl
      have own1 : ownedE (Sl.ext d :: dcs.map Sl.ext) = [] := own (d :: dcs)
      have hh : Holds G.K (entOf F0 H [.ext d]) (.ext d :: dcs.map .ext) [] F0 (some v :: caps.map fun y => some y.2) H := by
        refine ⟨hA.fh, by simp [hdl], fun i sl q => ?_, fun p hp => (nomatch hp), by rw [own1]; exact List.nodup_nil, hA.s1, hA.s2, fun a ha => by rw [own1] at ha; exact nomatch ha⟩
        cases i with
        | zero => exact hA.slots 0 sl q
        | succ i =>
          have q : (dcs.map Sl.ext)[i]? = some sl := q
          rw [List.getElem?_map] at q
          cases hd : dcs[i]? with
          | none => rw [hd] at q; cases q
          | some dd =>
            rw [hd] at q
            have e : Sl.ext dd = sl := Option.some.inj q
            subst e
            have hi : i < caps.length := by
              have := (List.getElem?_eq_some_iff.1 hd).1
              omega
            have hc : caps[i]? = some caps[i] := List.getElem?_eq_getElem hi
            refine .inr ⟨caps[i].2, ?_, hdv F0 i dd caps[i].2 hd (by rw [List.getElem?_map, hc]; rfl)⟩
            show (caps.map fun y => some y.2)[i]? = _
            rw [List.getElem?_map, hc]
            rfl
      refine i1 (entOf F0 H [.ext d]) (exOf [.ext d] Xd) (fun c d' env F' σ' H' hh' hx q => hX c d' H' F' _ (hA.finals hh') hx q) _ [] F0 _ H _ _ hh (h d Qd Xd hs) fun v' H' F' env' sl hh' qq => ?_
      refine hQ v' H' F' sl _ (hA.finals hh') ?_
      rw [finals1]
      exact qq.2
end
end HD
namespace HD
open PySem PySem.Spec PyProof.Rows L2
open Classical in
noncomputable def base2 (base h : Heap) (keep : Addr → Prop) : Heap := hidT h fun b => if base.get? b ≠ none ∨ keep b then none else some (.lst [])
section
variable {base h : Heap} {keep : Addr → Prop}
theorem base2_get {b : Addr} {o : Obj} (e : h.get? b = some o) (k : base.get? b ≠ none ∨ keep b) : (base2 base h keep).get? b = some o := hidT_get e (if_pos k)
theorem of_base2 {b : Addr} {o : Obj} (e : (base2 base h keep).get? b = some o) : h.get? b = some o ∧ (base.get? b ≠ none ∨ keep b) := by
  obtain ⟨h1, h2⟩ := of_hidT e
  refine ⟨h1, ?_⟩
  by_cases k : base.get? b ≠ none ∨ keep b
  · exact k
  · have z := (if_neg k).symm.trans h2
    cases z
end
section
variable {P : Program} {w : World} {K : PySem.W.Frag} {mg : Str → Option Value} {base : Heap} {A : Around} {outer : List Env} {s : Shared} {H : Hp} {keep : Addr → Prop}
theorem env0_more (e0 : Env0 P w K mg base A outer s H) (hk : ∀ b, keep b → H b = none ∧ b ∉ frs outer) : Env0 P w K mg (base2 base s.heap keep) A outer s H := by
  have bk : ∀ b o, base.get? b = some o → (base2 base s.heap keep).get? b = some o := fun b o e => base2_get (e0.bs b o e).1 (.inl (by rw [e]; simp))
  have nsK : ∀ {b : Addr} {m : Str → Option Value}, base.Ns b m → (base2 base s.heap keep).Ns b m := fun {b m} ⟨o, es, ep, e, d, r⟩ => ⟨o, es, ep, bk _ _ e, d, r⟩
  refine ⟨e0.frames, ⟨e0.mod.kin.keeps bk, nsK e0.mod.glob, let ⟨mb, h1, h2⟩ := e0.mod.blt; ⟨mb, nsK h1, h2⟩, e0.mod.nolimit.keeps bk⟩, fun b o e => ?_, Nat.le_of_eq (hidT_size _ _), ?_, e0.frf, e0.hok, e0.bare⟩
  · obtain ⟨h1, h2⟩ := of_base2 e
    refine ⟨h1, ?_⟩
    rcases h2 with h2 | h2
    · cases hb : base.get? b with
      | none => exact absurd hb h2
      | some o' => exact (e0.bs b o' hb).2
    · exact (hk b h2).1
  · have all : ∀ l : List Env, (∀ b ∈ frs l, b ∈ frs outer) → s.heap.FunFrames base l → s.heap.FunFrames (base2 base s.heap keep) l := by
      intro l
      induction l with
      | nil => exact fun _ _ => True.intro
      | cons env rest ih =>
        intro hs hl
        obtain ⟨hk', ⟨L, o, hf, hn, ho, hd⟩, hr⟩ := hl
        refine ⟨hk', ⟨L, o, hf, ?_, ho, hd⟩, ih (fun b hb => hs b ?_) hr⟩
        · cases hb : (base2 base s.heap keep).get? L with
          | none => rfl
          | some o' =>
            obtain ⟨_, h2⟩ := of_base2 hb
            rcases h2 with h2 | h2
            · exact absurd hn h2
            · refine absurd (hs L ?_) (hk L h2).2
              show L ∈ (env :: rest).filterMap (·.frame)
              rw [List.filterMap_cons, hf]
              exact List.mem_cons_self
        · show b ∈ (env :: rest).filterMap (·.frame)
          rw [List.filterMap_cons, hf]
          exact List.mem_cons_of_mem _ hb
    exact all outer (fun b hb => hb) e0.funs
end
def er (H : Hp) (c : Addr) : Hp := fun b => if b = c then none else H b
theorem er_same {H : Hp} {c : Addr} : er H c c = none := if_pos rfl
theorem er_ne {H : Hp} {c b : Addr} (h : b ≠ c) : er H c b = H b := if_neg h
section
variable {P : Program} {w : World} {K : PySem.W.Frag} {mg : Str → Option Value} {base : Heap} {A : Around} {outer : List Env} {s : Shared} {H H2 : Hp} {h h2 : Heap} {c : Addr} {q : Str}
theorem hok_er (I : HOk P w H h) (hc : H c = some (LamX.CodeO c q)) : HOk P w (er H c) h := fun b o e => by
  have hb : b ≠ c := fun z => by
    rw [z, er_same] at e
    cases e
  rw [er_ne hb] at e
  have k : ∀ d u, H d = some u → u ≠ LamX.CodeO c q → er H c d = some u := fun d u hd hn => by
    rw [er_ne fun z => by rw [z, hc] at hd; exact hn (Option.some.inj hd).symm]
    exact hd
  exact (I b o e).stay (fun d u _ z => z) (fun d hd => k d _ hd fun z => by unfold LamX.CodeO at z; cases z) fun d xs hd => k d _ hd fun z => by unfold LamX.CodeO at z; cases z
theorem env0_er (e0 : Env0 P w K mg base A outer s H) (hc : H c = some (LamX.CodeO c q)) : Env0 P w K mg base A outer s (er H c) :=
  ⟨e0.frames, e0.mod, fun b o e => ⟨(e0.bs b o e).1, by
    unfold er
    split
    · rfl
    · exact (e0.bs b o e).2⟩, e0.bsz, e0.funs, fun b hb => by
    unfold er
    split
    · rfl
    · exact e0.frf b hb, hok_er e0.hok hc, e0.bare⟩
theorem hok_re (I : HOk P w H2 h2) (n : H2 c = none) (hc : ∃ (oc : Obj) (vs : Array Value) (t : PySem.Tok), h2.get? c = some oc ∧ oc.data = .fields vs ∧ vs[1]? = some (.str q t)) : HOk P w (upd H2 c (LamX.CodeO c q)) h2 := fun b o e => by
  by_cases hb : b = c
  · rw [hb, upd_same] at e
    cases e
    rw [hb]
    obtain ⟨oc, vs, t, e1, e2, e3⟩ := hc
    exact ⟨⟨oc, vs, t, e1, e2, e3⟩, ⟨oc, e1⟩, fun h1 h2 ⟨oc, vs, t, a, b, c⟩ st => ⟨oc, vs, t, st _ a, b, c⟩⟩
  · rw [upd_ne hb] at e
    have k : ∀ d u, H2 d = some u → upd H2 c (LamX.CodeO c q) d = some u := fun d u hd => by
      rw [upd_ne fun z => by rw [z, n] at hd; cases hd]
      exact hd
    exact (I b o e).stay (fun d u _ z => z) (fun d hd => k d _ hd) fun d xs hd => k d _ hd
theorem un_re {fs ex : List Addr} (u : Un fs ex (er H c) H2 h h2) (hc : H c = some (LamX.CodeO c q)) : Un fs ex H (upd H2 c (LamX.CodeO c q)) h h2 := by
  have ne : ∀ {b : Addr}, H b = none → b ≠ c := fun {b} n z => by
    rw [z, hc] at n
    cases n
  have kn : ∀ {b : Addr} {o : HO}, H b = some o → o ≠ LamX.CodeO c q → b ≠ c := fun {b o} e n z => by
    rw [z, hc] at e
    exact n (Option.some.inj e).symm
  refine ⟨fun b o e n => u.keep b o e (by rw [er_ne (ne n)]; exact n), fun b o e n => u.slot b o e (by rw [er_ne (ne n)]; exact n), fun b o e n hx => ?_, u.there, fun b xs e => ?_, fun b o v e => ?_, fun b ps e => ?_⟩
  · rw [upd_ne (ne n)]
    exact u.free b o e (by rw [er_ne (ne n)]; exact n) hx
  · have hb := kn e fun z => by unfold LamX.CodeO at z; cases z
    rw [upd_ne hb]
    exact u.tups b xs (by rw [er_ne hb]; exact e)
  · have hb := kn e fun z => by unfold LamX.CodeO at z; cases z
    rw [upd_ne hb]
    exact u.frzs b o v (by rw [er_ne hb]; exact e)
  · have hb := kn e fun z => by unfold LamX.CodeO at z; cases z
    obtain ⟨more, hm⟩ := u.tbls b ps (by rw [er_ne hb]; exact e)
    exact ⟨more, by rw [upd_ne hb]; exact hm⟩
end
end HD
namespace HD
open PySem PySem.Spec PyProof.Rows L2
def Made (H : Hp) (P : Addr) (q : Str) (ps : Array Value) (pos : Pos) (c' : Addr) (H1 : Hp) : Prop :=
  (codeAmong pos ps.toList = some (.ref c') ∧ H1 = H) ∨ (codeAmong pos ps.toList = none ∧ H c' = none ∧ H1 = upd (upd H P (.tbl (ps ++ #[rawInt pos.line, rawInt pos.col, .ref c']))) c' (LamX.CodeO c' q))
section
variable {X : Cx} {pins : List (Addr × Obj)} {σ : L2.St} {H : Hp} {s : Shared}
theorem lam_make3 {c P : Addr} {q : Str} {ps : Array Value} {params : Arguments} {body : Expr} {scope : Scope} {pos : Pos} {E : Value → Shared → Prop} {Q : Value → Shared → Prop} (I : L2.Inv X pins σ H s) (TB : LamX.TabB X.base X.mg c P) (hcode : X.env.code = .ref c) (hq : X.env.qual ++ "<lambda>" = q)
    (hP : H P = some (.tbl ps)) (ht : TriplesOk ps.toList) (ha : ∀ (p : Pos) (cv : Value), codeAmong p ps.toList = some cv → ∃ c, cv = .ref c ∧ H c = some (LamX.CodeO c q)) (hdef : defaultsOf params X.env = ([], [])) (hfree : ∀ y ∈ scope.names, y.2 = .free → ∃ c, X.env.cells.lookup y.1 = some c)
    (h : ∀ (f c' : Addr) (pm ctv : Value) (H1 : Hp) (s' : Shared), L2.Inv X pins σ H1 s' → Made H P q ps pos c' H1 →
      s'.heap.get? f = some (PySem.W.kla_obj "<lambda>" q params body scope (cloFrom X.env.cells scope.names []) pm c' ctv) → H1 f = none → f ∉ frs X.stack → H1 c' = some (LamX.CodeO c' q) → Q (.ref f) s') :
    wpAny (model X.prog X.w) X.A (eval (.Lambda params body scope pos) X.env) Q E s := by
  subst hq
  have bP : s.heap.BuiltinsAt X.mg P := TB.bm.keeps I.bk
  have hP' : s.heap.get? P = some { cls := .none, data := .fields ps } := I.hok P _ hP
  have nofr : ∀ f, s.heap.objs.size ≤ f → f ∉ frs X.stack := fun f hf z => by
    rcases List.mem_cons.mp (I.stkSub _ z) with e | e
    · have h1 := I.lt
      rw [← e] at h1
      exact absurd (Nat.lt_of_lt_of_le h1 hf) (Nat.lt_irrefl _)
    · exact I.nofs hf e
  refine PySem.W.kla_eval hdef ?_
  cases hc : codeAmong pos ps.toList with
  | some cv =>
    obtain ⟨c', rfl, hco⟩ := ha pos cv hc
    refine PySem.W.kla_makeFunctionHit (mg := X.mg) (c := c) (P := P) (ps := ps) (closure_ok hfree) I.ok.glob (I.mod.glob.keeps I.bk) hcode (TB.code.keeps I.bk) hP' ht hc bP fun ctv h' tk hx hsz => ?_
    refine h h'.objs.size c' _ ctv H _ (I.kept fun b o e => Heap.get?_push_of_some _ (hx b o e)) (.inl ⟨hc, rfl⟩) (Heap.get?_push_size _ rfl) (I.hok.fresh hsz) (nofr _ hsz) hco
  | none =>
    refine PySem.W.kla_makeFunction (mg := X.mg) (c := c) (P := P) (ps := ps) (closure_ok hfree) I.ok.glob (I.mod.glob.keeps I.bk) hcode (TB.code.keeps I.bk) hP' ht hc TB.gP bP fun c' ctv h' tk hx hge hlt hrec htb => ?_
    obtain ⟨c2, oc, vs, t, e2, hoc, hd, hv⟩ := hrec
    cases e2
    have nC : H c' = none := I.hok.fresh hge
    have hsz : s.heap.objs.size ≤ h'.objs.size := by omega
    have n2 : h'.objs.size ≠ P := Nat.ne_of_gt (Nat.lt_of_lt_of_le (Heap.lt_size hP') hsz)
    refine h h'.objs.size c' _ ctv _ _ (LamX.inv_table (t' := tk) (more := #[rawInt pos.line, rawInt pos.col, .ref c']) (q := X.env.qual ++ "<lambda>") I hP (fun b o hb e => Heap.get?_push_of_some _ (hx b o hb e)) (Heap.get?_push_of_some _ htb) hge ⟨oc, vs, t, Heap.get?_push_of_some _ hoc, hd, hv⟩)
      (.inr ⟨hc, nC, rfl⟩) (Heap.get?_push_size _ rfl) ?_ (nofr _ hsz) upd_same
    rw [upd_ne (Nat.ne_of_gt hlt), upd_ne n2]
    exact I.hok.fresh hsz
end
end HD
namespace HD
open PySem PySem.Spec PyProof.Rows L2
def tTurn (K : PySem.W.Frag) (P : Addr) (q : Str) (lpos : Pos) (spc : Addr → List V → DSpec) (i : Nat) (js : List Nat) : TE := fun σ H Q => ∃ (ps : Array Value) (vsh : V) (cv : List V), H P = some (.tbl ps) ∧ TriplesOk ps.toList ∧ (∀ (p : Pos) (cv : Value), codeAmong p ps.toList = some cv → ∃ c, cv = .ref c ∧ H c = some (LamX.CodeO c q)) ∧
  σ[i]? = some (some vsh) ∧ js.map (fun j => σ[j]?) = cv.map (fun v => some (some v)) ∧
  ∀ (f c' : Addr) (H1 : Hp), Made H P q ps lpos c' H1 → H1 c' = some (LamX.CodeO c' q) →
    toSp K 2 (spc f cv) [vsh, .ref f] (er H1 c') (fun v H2 => H2 c' = none → Q v (upd H2 c' (LamX.CodeO c' q))) (fun _ _ _ => False)
structure LamB (base : Heap) (q : Str) (params : Arguments) (body : Expr) (scope : Scope) (clo : List (Str × Addr)) (f c' : Addr) (caps : List (Str × V)) : Prop where
  fn : ∃ pm ctv, base.get? f = some (PySem.W.kla_obj "<lambda>" q params body scope clo pm c' ctv)
  code : ∃ (oc : Obj) (cvs : Array Value) (tq : PySem.Tok), base.get? c' = some oc ∧ oc.data = .fields cvs ∧ cvs[1]? = some (.str q tq)
  caps : Caps base scope clo caps
  cells : ∀ y c, clo.lookup y = some c → ∃ v, base.IsCell c v
  inj : ∀ y z c, clo.lookup y = some c → clo.lookup z = some c → y = z
section
variable {X : Cx} {N : List Str} {k kf : Nat}
theorem pe_turn {W : WX} {x y q : Str} {g c P : Addr} {fd : FuncData} {ps : List Str} {spc : Addr → List V → DSpec} {params : Arguments} {body : Expr} {scope : Scope} {i : Nat} {js : List Nat} {cns : List Str} {p p1 lpos pos : Pos}
    (hg : Gl X x) (hm : X.mg x = some (.ref g)) (hk : PySem.W.keepIn X.K (.ref g) = true) (hb : Binds X.K fd ps []) (gd : X.A.guards = some []) (room : Room kf X.A) (stk : X.stack = X.env :: X.outer ∧ X.env.frame = some X.env.locals)
    (TB : LamX.TabB X.base X.mg c P) (hcode : X.env.code = .ref c) (hq : X.env.qual ++ "<lambda>" = q) (hdef : defaultsOf params X.env = ([], []))
    (hfree : ∀ z, z ∈ scope.names → z.2 = .free → ∃ c, X.env.cells.lookup z.1 = some c) (hown : ∀ z c, (cloFrom X.env.cells scope.names []).lookup z = some c → X.env.cells.lookup z = some c ∧ X.fn z = true)
    (hcn : cns.length = js.length) (hcns : ∀ (n : Nat) (z : Str) (j : Nat), cns[n]? = some z → js[n]? = some j → scope.names.lookup z = some .free ∧ (∃ c, (cloFrom X.env.cells scope.names []).lookup z = some c) ∧ X.N[j]? = some z ∧ Vis X.env.scope z ∧ X.env.kindOf z = some .cell)
    (hFn : ∀ (f c' : Addr) (base' : Heap) (cv : List V), cv.length = cns.length → LamB base' q params body scope (cloFrom X.env.cells scope.names []) f c' (cns.zip cv) → FnG X.prog X.w X.K X.mg base' (L2.CX X.prog X.w) kf g fd ps (toSp X.K 2 (spc f cv)))
    (hN : X.N[i]? = some y) (hv : Vis X.env.scope y) (hdb : (x == ("__debug__" : Str)) = false := by decide) (hd : (y == ("__debug__" : Str)) = false := by decide) (hcd : (y == ("__classdict__" : Str)) = false := by decide) :
    PE X (.Call (.Name x p) [.Name y p1, .Lambda params body scope lpos] [] pos) (tTurn X.K P q lpos spc i js) := by
  refine ⟨fun pins s σ H Q I h => ?_⟩
  obtain ⟨tb, vsh, cv, hT1, hT2, hT3, hi, hj, h⟩ := h
  refine wpAny_Call_Name_kw (ld_glob I hg hm ?_ hdb)
  refine PySem.W.callWith_K (h₀ := X.base) I.ok.mod.kin hk ?_ (by rfl) (by rfl)
  show wpAny _ _ (spliced ((false, eval (.Name y p1) X.env) :: (false, eval (.Lambda params body scope lpos) X.env) :: backTo pos (starEach [] X.env))) _ _ s
  refine Calls.spliced_cons (thn ((pe_var (pos := p1) hN hv hd hcd).run pins s σ H (fun v H1 => v = vsh ∧ H1 = H) I ⟨_, hi, rfl, rfl⟩) fun u s1 ⟨v, H1, I1, r1, q1⟩ => ?_)
  obtain ⟨rfl, rfl⟩ := q1
  subst hq
  refine Calls.spliced_cons (lam_make3 I1 TB hcode rfl hT1 hT2 hT3 hdef hfree fun f c' pm' ctv H2 s' I2 eN hf hfn hfr hco => ?_)
  refine Calls.spliced_nil ⟨I2.kIn, ?_⟩
  obtain ⟨⟨oc, cvs, tq, hoc, hdc, hvc⟩, _, _⟩ := I2.hok c' _ hco
  -- the base of the call
  have e1 := env0_er I2.env0 hco
  have fs : frs X.stack = X.env.locals :: X.fs := by
    rw [stk.1]
    show List.filterMap _ (X.env :: X.outer) = _
    rw [List.filterMap_cons, stk.2]
    rfl
  have hkeep : ∀ b, (b = f ∨ b = c' ∨ ∃ z, (cloFrom X.env.cells scope.names []).lookup z = some b) → er H2 c' b = none ∧ b ∉ frs X.stack := fun b hb => by
    rcases hb with rfl | rfl | ⟨z, hz⟩
    · refine ⟨?_, hfr⟩
      unfold er
      split
      · rfl
      · exact hfn
    · refine ⟨er_same, fun hb => ?_⟩
      have := I2.env0.frf _ hb
      rw [hco] at this
      cases this
    · obtain ⟨hz1, hz2⟩ := hown z b hz
      have hn := I2.freeC z b hz1
      refine ⟨?_, fun hb => ?_⟩
      · unfold er
        split
        · rfl
        · exact hn
      · rw [fs] at hb
        rcases List.mem_cons.1 hb with hb | hb
        · exact I2.cne z b hz1 hb
        · have h1 := I2.ok.cab z b hz2 hz1
          obtain ⟨_, o, ho, _⟩ := I2.ok.funs.mem hb
          exact absurd (Nat.lt_of_lt_of_le (Heap.lt_size ho) h1) (Nat.lt_irrefl _)
  have e2 := env0_more e1 hkeep
  have cvl : cv.length = cns.length := by
    have := congrArg List.length hj
    rw [List.length_map, List.length_map] at this
    omega
  have hB : LamB (base2 X.base s'.heap fun b => b = f ∨ b = c' ∨ ∃ z, (cloFrom X.env.cells scope.names []).lookup z = some b) (X.env.qual ++ "<lambda>") params body scope (cloFrom X.env.cells scope.names []) f c' (cns.zip cv) := by
    refine ⟨⟨pm', ctv, base2_get hf (.inr (.inl rfl))⟩, ⟨oc, cvs, tq, base2_get hoc (.inr (.inr (.inl rfl))), hdc, hvc⟩, fun z v hz => ?_, fun z cc hz => ?_, fun y z cc h1 h2 => I2.ok.inj y z cc (hown y cc h1).1 (hown z cc h2).1⟩
    · obtain ⟨n, hn⟩ := List.getElem?_of_mem hz
      rw [List.getElem?_zip_eq_some] at hn
      obtain ⟨h1, h2⟩ := hn
      have hnl : n < js.length := by
        have := (List.getElem?_eq_some_iff.1 h1).1
        omega
      obtain ⟨k1, ⟨cc, k2⟩, k3, k4, k5⟩ := hcns n z js[n] h1 (List.getElem?_eq_getElem hnl)
      refine ⟨k1, cc, ?_⟩
      have hsj : σ[js[n]]? = some (some v) := by
        have := congrArg (fun l => l[n]?) hj
        rw [List.getElem?_map, List.getElem?_map, List.getElem?_eq_getElem hnl, h2] at this
        exact Option.some.inj this
      obtain ⟨m, hn, hl⟩ := I2.loc
      obtain ⟨u', r', hlk⟩ := hl _ z v k3 hsj k4
      refine ⟨u', k2, ?_, r'⟩
      rcases hlk with ⟨k6, _⟩ | ⟨_, c3, k6, k7⟩
      · rw [k5] at k6
        cases k6
      · rw [(hown z cc k2).1] at k6
        cases k6
        obtain ⟨o, ho, hd⟩ := k7
        exact ⟨o, base2_get ho (.inr (.inr (.inr ⟨z, k2⟩))), hd⟩
    · obtain ⟨v', o, ho, hd⟩ := I2.cell z cc (hown z cc hz).1
      exact ⟨v', o, base2_get ho (.inr (.inr (.inr ⟨z, hz⟩))), hd⟩
  have F := hFn f c' _ cv cvl hB
  have hsp := h f c' H2 eN hco
  have bb := hb s' [u, .ref f] I2.kIn (by
    rw [List.append_nil]
    have := F.fit _ _ _ _ hsp
    exact this)
  rw [List.append_nil] at bb
  refine wpAny_call (codeAny_mono (F.go X.A X.stack s' (er H2 c') ⟨[u, .ref f], []⟩ [u, .ref f] [v, .ref f] _ _ gd room e2 bb (.cons r1 (.cons (show L2.RelV (.ref f) (.ref f) from rfl) .nil)) hsp) fun res t2 hres => ?_)
  cases res with
  | error e =>
    obtain ⟨_, _, _, _, _, _, _, _, _, _, _, _, z⟩ := hres
    exact z.elim
  | ok fl =>
    cases fl with
    | ret u2 =>
      obtain ⟨v2, H3, os, bare, un, hok, r, qq⟩ := hres
      have n3 : H3 c' = none := un.free c' oc hoc er_same (by simp)
      have k3 := un.keep c' oc hoc er_same (hkeep c' (.inr (.inl rfl))).2 (by simp)
      exact I2.after ⟨v2, _, os, bare, un_re un hco, hok_re hok n3 ⟨oc, cvs, tq, k3, hdc, hvc⟩, r, qq n3⟩
    | next => exact hres.elim
    | brk => exact hres.elim
    | cont => exact hres.elim
end
end HD
namespace HD
open PySem PySem.Spec PyProof.Rows L2
def SmX (F F' : Hp) : Prop := ∀ a o, F a = some o → (∀ φ, o ≠ .ext φ) → (∀ ps, o ≠ .tbl ps) → F' a = some o
section
variable {K : PySem.W.Frag} {F F' : Hp}
theorem SmX.sqT {a : Addr} {xs : List V} (e : SmX F F') (h : SqT K F a xs) : SqT K F' a xs := by
  rcases h with (h | ⟨o, h⟩) | h
  · exact .inl (.inl (e _ _ h (fun φ z => by cases z) fun φ z => by cases z))
  · exact .inl (.inr ⟨o, e _ _ h (fun φ z => by cases z) fun φ z => by cases z⟩)
  · exact .inr h
theorem SmX.sqL {a : Addr} {xs : List V} (e : SmX F F') (h : SqL K F a xs) : SqL K F' a xs := by
  rcases h with (h | ⟨o, h⟩) | h
  · exact .inl (.inl (e _ _ h (fun φ z => by cases z) fun φ z => by cases z))
  · exact .inl (.inr ⟨o, e _ _ h (fun φ z => by cases z) fun φ z => by cases z⟩)
  · exact .inr h
theorem SmX.tupD {a : Addr} {xs : List V} (e : SmX F F') (h : TupD K F a xs) : TupD K F' a xs := by
  rcases h with ⟨o, h, hd⟩ | h
  · exact .inl ⟨o, e _ _ h (fun φ z => by cases z) (fun φ z => by cases z), hd⟩
  · exact .inr h
theorem SmX.xd {c : Str} {d : Option Addr} (e : SmX F F') (h : XD F c d) : XD F' c d := by
  rcases h with h | ⟨n, dd, fs, h1, h2, h3, h4⟩
  · exact .inl h
  · exact .inr ⟨n, dd, fs, h1, h2, e _ _ h3 (fun φ z => by cases z) (fun φ z => by cases z), h4⟩
mutual
theorem Rep.smx (e : SmX F F') : ∀ {d : D} {v : V}, Rep K F d v → Rep K F' d v
  | .non, _, h => h
  | .bl _, _, h => h
  | .int _, _, h => h
  | .str _, _, h => h
  | .val _, _, h => h
  | .lst _, _, h => by
    obtain ⟨a, xs, rfl, hs, hr⟩ := h
    exact ⟨a, xs, rfl, e _ _ hs (fun φ z => by cases z) (fun φ z => by cases z), Reps.smx e hr⟩
  | .fz _, _, h => by
    obtain ⟨a, xs, rfl, hs, hr⟩ := h
    exact ⟨a, xs, rfl, e.sqL hs, Reps.smx e hr⟩
  | .tup _, _, h => by
    obtain ⟨a, xs, rfl, hs, hr⟩ := h
    exact ⟨a, xs, rfl, e.tupD hs, Reps.smx e hr⟩
  | .tk _, _, h => by
    obtain ⟨a, xs, rfl, hs, hr⟩ := h
    exact ⟨a, xs, rfl, e.sqT hs, Reps.smx e hr⟩
  | .glo _, _, h => h
  | .exc _, _, h => by
    obtain ⟨a, oe, rfl, hs, h1, h2, hr⟩ := h
    exact ⟨a, oe, rfl, e _ _ hs (fun φ z => by cases z) (fun φ z => by cases z), h1, e.xd h2, hr⟩
  | .dk _ _, _, h => by
    obtain ⟨a, od, vs, rfl, hs, hk, hr⟩ := h
    exact ⟨a, od, vs, rfl, e _ _ hs (fun φ z => by cases z) (fun φ z => by cases z), hk, Reps.smx e hr⟩
  | .dt _ _, _, h => by
    obtain ⟨a, od, vs, rfl, hs, hk, ht, hr⟩ := h
    exact ⟨a, od, vs, rfl, e _ _ hs (fun φ z => by cases z) (fun φ z => by cases z), hk, fun x hx => e.tupD (ht x hx), Reps.smx e hr⟩
theorem Reps.smx (e : SmX F F') : ∀ {ds : List D} {vs : List V}, Reps K F ds vs → Reps K F' ds vs
  | [], _, h => h
  | _ :: _, _, h => by
    obtain ⟨v, r, rfl, h1, h2⟩ := h
    exact ⟨v, r, rfl, Rep.smx e h1, Reps.smx e h2⟩
end
end
theorem OC.smx {K : PySem.W.Frag} {F F' : Hp} {a : Addr} (e : SmX F F') : ∀ {c : OC} {o : HO}, OC.ok K F a c o → OC.ok K F' a c o
  | .lst _, _, ⟨vs, h1, h2⟩ => ⟨vs, h1, Reps.smx e h2⟩
  | .dk _, _, ⟨vs, h1, h2, h3⟩ => ⟨vs, h1, h2, Reps.smx e h3⟩
  | .dt _, _, ⟨vs, h1, h2, h3, h4⟩ => ⟨vs, h1, h2, fun x hx => e.tupD (h3 x hx), Reps.smx e h4⟩
  | .ins _ _ _, _, ⟨vs, h1, h2, h3⟩ => ⟨vs, h1, h2, Reps.smx e h3⟩
  | .own _, _, h => h
  | .lkK _ _ _, _, ⟨h1, h2, h3⟩ => ⟨h1, h2, Reps.smx e h3⟩
  | .lkT _ _ _, _, ⟨h1, h2, h3, h4⟩ => ⟨h1, h2, fun x hx => e.tupD (h3 x hx), Reps.smx e h4⟩
abbrev entH (F H : Hp) (env : Env') (T : Tmp) : Ent := ⟨F, H, ownedE env ++ ownedT T⟩
section
variable {K : PySem.W.Frag} {e : Ent} {env env1 : Env'} {T T1 : Tmp} {F F1 : Hp} {σ σ1 : L2.St} {H H1 : Hp}
theorem Holds.here (h : Holds K e env T F σ H) : Holds K (entH F H env T) env T F σ H := ⟨h.fh, h.len, h.slots, h.temps, h.nd, Same.refl _, fun a o q _ => ⟨q, id⟩, fun a ha => .inl ha⟩
theorem Holds.over (h : Holds K e env T F σ H) (h1 : Holds K (entH F H env T) env1 T1 F1 σ1 H1) : Holds K e env1 T1 F1 σ1 H1 := by
  refine ⟨h1.fh, h1.len, h1.slots, h1.temps, h1.nd, h.s1.trans h1.s1, fun a o q n => ?_, fun a ha => ?_⟩
  · obtain ⟨k1, k2⟩ := h.s2 a o q n
    have hn : a ∉ ownedE env ++ ownedT T := fun z => by
      rcases h.s3 a z with z | z
      · exact n z
      · rw [z] at q; cases q
    obtain ⟨k3, k4⟩ := h1.s2 a o k1 hn
    exact ⟨k3, fun z => k4 (k2 z)⟩
  · rcases h1.s3 a ha with z | z
    · exact h.s3 a z
    · by_cases hA : a ∈ e.A0
      · exact .inl hA
      · cases hq : e.H0 a with
        | none => exact .inr rfl
        | some o =>
          have := (h.s2 a o hq hA).1
          rw [show H a = none from z] at this
          cases this
def TabF (P : Addr) (q : Str) (F H : Hp) : Prop := ∃ ps : Array Value, H P = some (.tbl ps) ∧ TriplesOk ps.toList ∧ ∀ (pos : Pos) (cv : Value), codeAmong pos ps.toList = some cv → ∃ c, cv = .ref c ∧ F c = some (LamX.CodeO c q)
variable {P : Addr} {q : Str}
structure HT (K : PySem.W.Frag) (P : Addr) (q : Str) (e : Ent) (env : Env') (T : Tmp) (F : Hp) (σ : L2.St) (H : Hp) : Prop where
  h : Holds K e env T F σ H
  t : TabF P q F H
  o : P ∉ ownedE env ++ ownedT T
  n : F P = none
theorem HT.over (h : HT K P q e env T F σ H) (h1 : Holds K (entH F H env T) env1 T1 F1 σ1 H1) : HT K P q e env1 T1 F1 σ1 H1 := by
  obtain ⟨ps, t1, t2, t3⟩ := h.t
  obtain ⟨k1, k2⟩ := h1.s2 P _ t1 h.o
  refine ⟨h.h.over h1, ⟨ps, k1, t2, fun pos cv hc => ?_⟩, fun z => ?_, k2 h.n⟩
  · obtain ⟨c, e1, e2⟩ := t3 pos cv hc
    exact ⟨c, e1, h1.s1 _ _ e2⟩
  · rcases h1.s3 P z with z | z
    · exact h.o z
    · rw [show H P = none from z] at t1
      cases t1
theorem Link.here {W : WX} {Ex : DX} (h : Holds K e env T F σ H) (hl : Link K e W Ex) : Link K (entH F H env T) W Ex := fun c d env2 F2 σ2 H2 hh hx he => hl c d env2 F2 σ2 H2 (h.over hh) hx he
end
def dTurn (spc : Addr → List Int → DSpec) (i : Nat) (js : List Nat) : DT := fun _ env Q => ∃ (d : D) (bs : List Int), env[i]? = some (.ext d) ∧ js.map (fun j => env[j]?) = bs.map (fun b => some (Sl.ext (.int b))) ∧
  ∀ f : Addr, spc f bs [.ext d, .ext (.val (.ref f))] (fun r _ => ∃ d', r = .ext d' ∧ Q (.ext d') env) (fun _ _ => False)
def spV (spc : Addr → List Int → DSpec) (f : Addr) (cv : List V) : DSpec := fun args Q X => ∃ bs : List Int, cv = bs.map V.int ∧ spc f bs args Q X
section
variable {K : PySem.W.Frag} {e : Ent} {env : Env'} {F : Hp} {σ : L2.St} {H : Hp} {P : Addr} {q : Str}
theorem code_dt {a c : Addr} {kbs : List (List Int × Addr × V)} {q : Str} : dtO a kbs ≠ LamX.CodeO a q := fun z => by
  unfold dtO LamX.CodeO at z
  have z2 := HO.ext.inj z
  let oc : Obj := { cls := .none, data := .fields #[.none, .str q 0] }
  let h0 : Heap := { objs := (Array.replicate a oc).push oc }
  have hg : h0.get? a = some oc := by
    show (match ((Array.replicate a oc).push oc)[a]? with | some ⟨_, _, .freed, _⟩ => none | o => o) = _
    rw [show ((Array.replicate a oc).push oc)[a]? = some oc by
      rw [Array.getElem?_push]
      simp]
  have h1 := congrFun z2 h0
  have h2 : ∃ (oc : Obj) (vs : Array Value) (t : PySem.Tok), h0.get? a = some oc ∧ oc.data = .fields vs ∧ vs[1]? = some (.str q t) := ⟨oc, _, 0, hg, rfl, rfl⟩
  rw [← h1] at h2
  obtain ⟨_, _, _, us, o, es, ep, _, k1, _, k2, _⟩ := h2
  rw [hg] at k1
  cases k1
  cases k2
theorem oc_no {K : PySem.W.Frag} {F : Hp} {a : Addr} {q : Str} : ∀ {c : OC} {o : HO}, OC.ok K F a c o → (∀ ps, o ≠ .tbl ps) ∧ o ≠ LamX.CodeO a q
  | .lst _, _, ⟨vs, h1, _⟩ => by subst h1; exact ⟨(fun _ z => by cases z), (fun z => by unfold LamX.CodeO at z; cases z)⟩
  | .dk _, _, ⟨vs, h1, _⟩ => by subst h1; exact ⟨(fun _ z => by cases z), (fun z => by unfold LamX.CodeO at z; cases z)⟩
  | .dt _, _, ⟨vs, h1, _⟩ => by subst h1; exact ⟨(fun _ z => by unfold dtO at z; cases z), code_dt (c := a)⟩
  | .ins _ _ _, _, ⟨vs, h1, _⟩ => by subst h1; exact ⟨(fun _ z => by cases z), (fun z => by unfold LamX.CodeO at z; cases z)⟩
  | .own _, _, h => by
    have h : _ = HO.own _ := h
    subst h
    exact ⟨(fun _ z => by cases z), (fun z => by unfold LamX.CodeO at z; cases z)⟩
  | .lkK _ _ _, _, ⟨h1, _⟩ => by subst h1; exact ⟨(fun _ z => by cases z), (fun z => by unfold LamX.CodeO at z; cases z)⟩
  | .lkT _ _ _, _, ⟨h1, _⟩ => by subst h1; exact ⟨(fun _ z => by cases z), (fun z => by unfold LamX.CodeO at z; cases z)⟩
theorem imT_turn {lpos : Pos} {spc : Addr → List Int → DSpec} {i : Nat} {js : List Nat} {Ex : DX} {Q : Sl → Env' → Prop} {R : VK} (hh : HT K P q e env [] F σ H) (hP : P ∈ e.A0) (ht : dTurn spc i js Ex env Q) (hR : ∀ v H' F' d', HT K P q e env [(v, .ext d')] F' σ H' → Q (.ext d') env → R v H') : tTurn K P q lpos (spV spc) i js σ H R := by
  obtain ⟨d, bs, hi, hj, hs⟩ := ht
  have hh0 := hh.h
  obtain ⟨vsh, hv, rd⟩ : ∃ v, σ[i]? = some (some v) ∧ Rep K F d v := by
    rcases hh0.slots i _ hi with z | z
    · cases z
    · exact z
  obtain ⟨tb, tb1, tb2, tb3⟩ := hh.t
  refine ⟨tb, vsh, bs.map V.int, tb1, tb2, fun p cv hc => ?_, hv, ?_, fun f c' H1 mk hco => ?_⟩
  · obtain ⟨c, e1, e2⟩ := tb3 p cv hc
    exact ⟨c, e1, hh0.fh _ _ e2⟩
  · rw [List.map_map]
    refine List.ext_getElem? fun n => ?_
    have := congrArg (fun l => l[n]?) hj
    simp only [List.getElem?_map] at this ⊢
    cases hn : js[n]? with
    | none =>
      rw [hn] at this
      cases hb : bs[n]? with
      | none => rfl
      | some b => rw [hb] at this; cases this
    | some j =>
      rw [hn] at this
      cases hb : bs[n]? with
      | none => rw [hb] at this; cases this
      | some b =>
        rw [hb] at this
        have e1 : env[j]? = some (Sl.ext (.int b)) := Option.some.inj this
        rcases hh0.slots j _ e1 with z | ⟨v, hv, ok⟩
        · cases z
        · have ev : v = .int b := ok
          subst ev
          show some (σ[j]?) = some (some (some (V.int b)))
          rw [hv]
  · -- what the making leaves
    have nP : P ≠ c' := fun z => by
      rcases mk with ⟨k1, k2⟩ | ⟨k1, k2, k3⟩
      · rw [k2, ← z, tb1] at hco
        unfold LamX.CodeO at hco
        cases hco
      · rw [← z, tb1] at k2
        cases k2
    have hK : F c' = some (LamX.CodeO c' q) ∨ (F c' = none ∧ H c' = none) := by
      rcases mk with ⟨k1, k2⟩ | ⟨k1, k2, k3⟩
      · obtain ⟨c, e1, e2⟩ := tb3 _ _ k1
        cases e1
        exact .inl e2
      · exact .inr ⟨hh0.fh.free k2, k2⟩
    have eN : ∀ a o, H a = some o → a ≠ P → a ≠ c' → H1 a = some o := fun a o q0 n1 n2 => by
      rcases mk with ⟨k1, k2⟩ | ⟨k1, k2, k3⟩
      · rw [k2]; exact q0
      · rw [k3, upd_ne n2, upd_ne n1]; exact q0
    have FP : F P = none := hh.n
    have cF : ∀ o, F c' = some o → o = LamX.CodeO c' q := fun o q0 => by
      rcases hK with z | ⟨z, _⟩
      · rw [z] at q0; exact (Option.some.inj q0).symm
      · rw [z] at q0; cases q0
    have smx : SmX F (er F c') := fun a o q0 hx _ => by
      rw [er_ne fun z => by rw [z] at q0; have := cF o q0; unfold LamX.CodeO at this; exact hx _ this]
      exact q0
    have fhc : Same (er F c') (er H1 c') := fun a o q0 => by
      have ne : a ≠ c' := fun z => by rw [z, er_same] at q0; cases q0
      rw [er_ne ne] at q0 ⊢
      exact eN _ _ (hh0.fh _ _ q0) (fun z => by rw [z, FP] at q0; cases q0) ne
    refine ⟨er F c', [.ext d, .ext (.val (.ref f))], _, _, rfl, ?_, ⟨bs, rfl, hs f⟩, fun v H' F' r fin hf hq => ?_, fun c dx H' F' fin hf hx hq => hq.elim⟩
    · refine ⟨fhc, rfl, fun n sl q0 => ?_, fun p hp => (nomatch hp), List.nodup_nil, Same.refl _, fun a o q0 _ => ⟨q0, id⟩, fun a ha => nomatch ha⟩
      match n, q0 with
      | 0, q0 =>
        have e1 : Sl.ext d = sl := Option.some.inj q0
        subst e1
        exact .inr ⟨vsh, rfl, Rep.smx smx rd⟩
      | 1, q0 =>
        have e1 : Sl.ext (.val (.ref f)) = sl := Option.some.inj q0
        subst e1
        exact .inr ⟨.ref f, rfl, rfl⟩
      | n + 2, q0 => cases q0
    · obtain ⟨d', rfl, hq⟩ := hq
      intro hn'
      have hnF : F' c' = none := by
        cases hz : F' c' with
        | none => rfl
        | some o =>
          have := hf.fh _ _ hz
          rw [hn'] at this
          cases this
      have sG : Same F' (upd F' c' (LamX.CodeO c' q)) := fun a o q0 => by
        rw [upd_ne fun z => by rw [z, hnF] at q0; cases q0]
        exact q0
      have fhG : Same (upd F' c' (LamX.CodeO c' q)) (upd H' c' (LamX.CodeO c' q)) := fun a o q0 => by
        by_cases ha : a = c'
        · subst ha
          rw [upd_same] at q0 ⊢
          exact q0
        · rw [upd_ne ha] at q0 ⊢
          exact hf.fh _ _ q0
      have rp : ∀ {d v}, Rep K F d v → Rep K (upd F' c' (LamX.CodeO c' q)) d v := fun h => Rep.same sG (Rep.same hf.s1 (Rep.smx smx h))
      have rps : ∀ {ds vs}, Reps K F ds vs → Reps K (upd F' c' (LamX.CodeO c' q)) ds vs := fun h => Reps.same sG (Reps.same hf.s1 (Reps.smx smx h))
      -- what is neither the code object nor the table stays
      have st : ∀ a o, H a = some o → a ≠ P → a ≠ c' → upd H' c' (LamX.CodeO c' q) a = some o ∧ (F a = none → upd F' c' (LamX.CodeO c' q) a = none) := fun a o q0 np ne => by
        have h1 : er H1 c' a = some o := by
          rw [er_ne ne]
          exact eN _ _ q0 np ne
        obtain ⟨k1, k2⟩ := hf.s2 a o h1 fun z => nomatch z
        refine ⟨by rw [upd_ne ne]; exact k1, fun z => ?_⟩
        rw [upd_ne ne]
        exact k2 (show er F c' a = none by rw [er_ne ne]; exact z)
      have oc : ∀ a o (c : OC), H a = some o → F a = none → OC.ok K F a c o → a ≠ P ∧ a ≠ c' := fun a o c q0 hn hc => by
        obtain ⟨k1, k2⟩ := oc_no (q := q) hc
        refine ⟨fun z => ?_, fun z => ?_⟩
        · rw [z, tb1] at q0
          exact k1 tb (Option.some.inj q0).symm
        · rcases hK with w | ⟨_, w⟩
          · rw [z, w] at hn; cases hn
          · rw [z, w] at q0; cases q0
      have slg : ∀ {sl : Sl} {v : V}, SlOk K F H v sl → SlOk K (upd F' c' (LamX.CodeO c' q)) (upd H' c' (LamX.CodeO c' q)) v sl := fun {sl v} h => by
        cases sl with
        | un => exact h
        | ext d => exact rp h
        | al _ _ => exact h
        | ar _ _ => exact h
        | lst a ds =>
          obtain ⟨h1, h2, vs, h3, h4⟩ := h
          obtain ⟨n1, n2⟩ := oc a _ (.lst ds) h3 h2 ⟨vs, rfl, h4⟩
          obtain ⟨k1, k2⟩ := st a _ h3 n1 n2
          exact ⟨h1, k2 h2, vs, k1, rps h4⟩
        | reg d cs =>
          obtain ⟨h1, h2, h3⟩ := h
          refine ⟨rp h1, h2, fun p hp => ?_⟩
          obtain ⟨h4, o, h5, h6⟩ := h3 p hp
          obtain ⟨n1, n2⟩ := oc p.1 o p.2 h5 h4 h6
          obtain ⟨k1, k2⟩ := st p.1 o h5 n1 n2
          exact ⟨k2 h4, o, k1, OC.ok.same sG (OC.ok.same hf.s1 (OC.smx smx h6))⟩
      have hG : Holds K e env [(v, .ext d')] (upd F' c' (LamX.CodeO c' q)) σ (upd H' c' (LamX.CodeO c' q)) := by
        refine ⟨fhG, hh0.len, fun n sl q0 => (hh0.slots n sl q0).imp id fun ⟨v, k1, k2⟩ => ⟨v, k1, slg k2⟩, fun p hp => ?_, hh0.nd, fun a o q0 => ?_, fun a o q0 n => ?_, hh0.s3⟩
        · rw [List.mem_singleton.1 hp]
          exact Rep.same sG (hf.temps (v, .ext d') List.mem_cons_self)
        · have q1 := hh0.s1 a o q0
          by_cases ha : a = c'
          · subst ha
            rw [upd_same, cF o q1]
          · rw [upd_ne ha]
            exact hf.s1 a o (by show er F c' a = some o; rw [er_ne ha]; exact q1)
        · obtain ⟨k1, k2⟩ := hh0.s2 a o q0 n
          have np : a ≠ P := fun z => n (by rw [z]; exact hP)
          by_cases ha : a = c'
          · subst ha
            rcases hK with w | ⟨_, w⟩
            · have := hh0.fh _ _ w
              rw [k1] at this
              refine ⟨by rw [upd_same, Option.some.inj this], fun z => ?_⟩
              have := k2 z
              rw [w] at this
              cases this
            · rw [w] at k1
              cases k1
          · obtain ⟨k3, k4⟩ := st a o k1 np ha
            exact ⟨k3, fun z => k4 (k2 z)⟩
      refine hR v _ _ d' ⟨hG, ?_, ?_, ?_⟩ hq
      · have fz : ∀ c, F c = some (LamX.CodeO c q) ∨ c = c' → upd F' c' (LamX.CodeO c' q) c = some (LamX.CodeO c q) := fun c hc => by
          by_cases h2 : c = c'
          · subst h2
            exact upd_same
          · rw [upd_ne h2]
            rcases hc with hc | hc
            · exact hf.s1 c _ (by show er F c' c = some _; rw [er_ne h2]; exact hc)
            · exact absurd hc h2
        have tP : ∀ ps, H1 P = some (.tbl ps) → upd H' c' (LamX.CodeO c' q) P = some (.tbl ps) := fun ps hp => by
          rw [upd_ne nP]
          exact (hf.s2 P _ (by show er H1 c' P = some _; rw [er_ne nP]; exact hp) fun z => nomatch z).1
        rcases mk with ⟨k1, k2⟩ | ⟨k1, k2, k3⟩
        · exact ⟨tb, tP tb (by rw [k2]; exact tb1), tb2, fun p cv hc => by
            obtain ⟨c, e1, e2⟩ := tb3 p cv hc
            exact ⟨c, e1, fz c (.inl e2)⟩⟩
        · have eL : (tb ++ #[rawInt lpos.line, rawInt lpos.col, .ref c']).toList = tb.toList ++ [rawInt lpos.line, rawInt lpos.col, .ref c'] := by simp
          refine ⟨_, tP _ (by rw [k3, upd_ne nP, upd_same]), by rw [eL]; exact PySem.TriplesOk_snoc _ _ _ _ tb2, fun p cv hc => ?_⟩
          rw [eL] at hc
          rcases LamX.among_app _ tb2 hc with z | z
          · obtain ⟨c, e1, e2⟩ := tb3 p cv z
            exact ⟨c, e1, fz c (.inl e2)⟩
          · exact ⟨c', z, fz c' (.inr rfl)⟩
      · exact hh.o
      · rw [upd_ne nP]
        have h1 : ∃ o, H1 P = some o := by
          rcases mk with ⟨k1, k2⟩ | ⟨k1, k2, k3⟩
          · exact ⟨_, by rw [k2]; exact tb1⟩
          · exact ⟨_, by rw [k3, upd_ne nP, upd_same]⟩
        obtain ⟨o, h1⟩ := h1
        exact (hf.s2 P o (by show er H1 c' P = some _; rw [er_ne nP]; exact h1) fun z => nomatch z).2 (show er F c' P = none by rw [er_ne nP]; exact FP)
end
end HD
namespace HD
open PySem PySem.Spec PyProof.Rows L2
section
variable {K : PySem.W.Frag} {e : Ent} {env : Env'} {T : Tmp} {F : Hp} {σ : L2.St} {H : Hp} {P : Addr} {q : Str}
theorem SlOk.no {v : V} {a : Addr} : ∀ {sl : Sl}, SlOk K F H v sl → a ∈ sl.owned → ∃ o, H a = some o ∧ ∀ ps, o ≠ .tbl ps
  | .un, _, h => nomatch h
  | .ext _, _, h => nomatch h
  | .al _ _, _, h => nomatch h
  | .ar _ _, _, h => nomatch h
  | .lst b ds, ⟨_, _, vs, h3, _⟩, h => by
    rw [List.mem_singleton.1 h]
    exact ⟨_, h3, fun ps z => by cases z⟩
  | .reg d cs, ⟨_, _, h3⟩, h => by
    obtain ⟨p, hp, rfl⟩ := List.mem_map.1 h
    obtain ⟨_, o, h5, h6⟩ := h3 p hp
    exact ⟨o, h5, (oc_no (q := "") h6).1⟩
theorem HT.of (h : Holds K e env T F σ H) (t : TabF P q F H) (n : F P = none) : HT K P q e env T F σ H := by
  refine ⟨h, t, fun z => ?_, n⟩
  obtain ⟨ps, t1, _, _⟩ := t
  have go : ∃ o, H P = some o ∧ ∀ ps, o ≠ .tbl ps := by
    rcases List.mem_append.1 z with z | z
    · obtain ⟨sl, hs, ho⟩ := List.mem_flatMap.1 z
      obtain ⟨i, hi⟩ := List.getElem?_of_mem hs
      rcases h.slots i sl hi with w | ⟨v, _, ok⟩
      · subst w; cases ho
      · exact SlOk.no ok ho
    · obtain ⟨p, hp, ho⟩ := List.mem_flatMap.1 z
      exact SlOk.no (h.temps p hp) ho
  obtain ⟨o, k1, k2⟩ := go
  rw [t1] at k1
  exact k2 ps (Option.some.inj k1).symm
end
structure EndsT (K : PySem.W.Frag) (P : Addr) (q : Str) (e : Ent) (E : DEnds) (Dn : Ends) : Prop where
  nx : ∀ env F σ H, HT K P q e env [] F σ H → E.nx env → Dn.nx σ H
  rt : ∀ env F σ H v r, HT K P q e env [(v, r)] F σ H → E.rt r env → Dn.rt v H
  bk : ∀ env F σ H, HT K P q e env [] F σ H → E.bk env → Dn.bk σ H
  ct : ∀ env F σ H, HT K P q e env [] F σ H → E.ct env → Dn.ct σ H
def ImST (K : PySem.W.Frag) (P : Addr) (q : Str) (W : WX) (ts : TS) (t : DTS) : Prop :=
  ∀ (e : Ent) (Ex : DX), Link K e W Ex → P ∈ e.A0 → ∀ (env : Env') (F : Hp) (σ : L2.St) (H : Hp) (E : DEnds) (Dn : Ends), HT K P q e env [] F σ H → t Ex E env → EndsT K P q e E Dn → ts Dn σ H
theorem ImS.t {K : PySem.W.Frag} {P : Addr} {q : Str} {W : WX} {ts : TS} {t : DTS} (i : ImS K W ts t) : ImST K P q W ts t := fun e Ex hl hP env F σ H E Dn hh ht ok =>
  i (entH F H env []) Ex (Link.here hh.h hl) env F σ H E Dn hh.h.here ht
    ⟨fun env1 F1 σ1 H1 h1 => ok.nx env1 _ σ1 H1 (hh.over h1), fun env1 F1 σ1 H1 v r h1 => ok.rt env1 _ σ1 H1 v r (hh.over h1), fun env1 F1 σ1 H1 h1 => ok.bk env1 _ σ1 H1 (hh.over h1), fun env1 F1 σ1 H1 h1 => ok.ct env1 _ σ1 H1 (hh.over h1)⟩
structure TSs (G : GG) (N : List Str) (sc : SC) (k : Nat) (P : Addr) (q : Str) (C : Cx → Prop) (st : List Stmt) (t : DTS) : Prop where
  ex : ∀ W : WX, ∃ ts, (∀ X, Sit G N sc W k X → C X → PSs X st ts) ∧ ImST G.K P q W ts t
structure TS1 (G : GG) (N : List Str) (sc : SC) (k : Nat) (P : Addr) (q : Str) (C : Cx → Prop) (st : Stmt) (t : DTS) : Prop where
  ex : ∀ W : WX, ∃ ts, (∀ X, Sit G N sc W k X → C X → PS X st ts) ∧ ImST G.K P q W ts t
section
variable {G : GG} {N : List Str} {sc : SC} {k : Nat} {P : Addr} {q : Str} {C : Cx → Prop} {st : Stmt} {rest : List Stmt} {t u : DTS}
theorem DS.toT (h : DS G N sc k st t) : TS1 G N sc k P q C st t := ⟨fun W => let ⟨ts, p, i⟩ := h.ex W; ⟨ts, fun X S _ => p X S, i.t⟩⟩
theorem DSs.toT {st : List Stmt} (h : DSs G N sc k st t) : TSs G N sc k P q C st t := ⟨fun W => let ⟨ts, p, i⟩ := h.ex W; ⟨ts, fun X S _ => p X S, i.t⟩⟩
theorem tss_cons (h1 : TS1 G N sc k P q C st t) (h2 : TSs G N sc k P q C rest u) : TSs G N sc k P q C (st :: rest) (sSeq t u) := ⟨fun W => by
  obtain ⟨ts, p1, i1⟩ := h1.ex W
  obtain ⟨us, p2, i2⟩ := h2.ex W
  refine ⟨tSeq ts us, fun X S c => pss_cons (p1 X S c) (p2 X S c), fun e Ex hl hP env F σ H E Dn hh ht ok => ?_⟩
  exact i1 e Ex hl hP env F σ H _ _ hh ht ⟨fun env1 F1 σ1 H1 hh1 q1 => i2 e Ex hl hP env1 F1 σ1 H1 E Dn hh1 q1 ok, ok.rt, ok.bk, ok.ct⟩⟩
theorem imST_turn {K : PySem.W.Frag} {W : WX} {lpos : Pos} {spc : Addr → List Int → DSpec} {i0 : Nat} {js : List Nat} (i : Nat) : ImST K P q W (tAsg (tTurn K P q lpos (spV spc) i0 js) (gName i)) (sSetE i (dTurn spc i0 js)) := fun e Ex hl hP env F σ H E Dn hh ht ok => by
  refine imT_turn hh hP (Q := fun x env1 => frzD env1 x fun d env2 => E.nx (env2.set i (.ext d))) ht fun v H1 F1 d hh1 q1 => ?_
  exact ok.nx _ _ _ H1 (HT.of (hh1.h.assign i (show (Sl.ext d).plain from trivial)) hh1.t hh1.n) q1
end
end HD
namespace HD
open PySem PySem.Spec PyProof.Rows L2
structure CodC (c : Addr) (P : Addr) (q : Str) (X : Cx) : Prop where
  code : X.env.code = .ref c
  qual : X.env.qual ++ "<lambda>" = q
  tab : LamX.TabB X.base X.mg c P
  fn : ∀ z, X.fn z = true
  cells : ∀ z, X.env.scope.names.lookup z = some .cell → ∃ a, X.env.cells.lookup z = some a
section
variable {G : GG} {N : List Str} {sc : SC} {k kf : Nat} {P c : Addr} {q x y z : Str} {spc : Addr → List Int → DSpec} {params : Arguments} {body : Expr} {scope : Scope} {i i0 : Nat} {js : List Nat} {cns : List Str} {p p1 lpos pos pz spos : Pos}
theorem ts_turn {g : Addr} {fd : FuncData} {ps : List Str} (hm : G.mg x = some (.ref g)) (hk : PySem.W.keepIn G.K (.ref g) = true) (hb : Binds G.K fd ps [])
    (hFn : ∀ (f c' : Addr) (base' : Heap) (clo : List (Str × Addr)) (cv : List V), cv.length = cns.length → LamB base' q params body scope clo f c' (cns.zip cv) → (∀ w, scope.names.lookup w = some .free → ∃ a, clo.lookup w = some a) → FnG G.P G.w G.K G.mg base' (L2.CX G.P G.w) kf g fd ps (toSp G.K 2 (spV spc f cv)))
    (hdef : ∀ env, defaultsOf params env = ([], [])) (hcells : ∀ w ∈ scope.names, w.2 = .free → sc.sc.names.lookup w.1 = some .cell) (hcn : cns.length = js.length)
    (hcns : ∀ (n : Nat) (w : Str) (j : Nat), cns[n]? = some w → js[n]? = some j → scope.names.lookup w = some .free ∧ N[j]? = some w ∧ sc.sc.names.lookup w = some .cell)
    (hkf : kf ≤ k := by decide) (htop : sc.top = true := by rfl) (hg : GlS sc x := by rfl) (hN : N[i0]? = some y := by rfl) (hv : Vis sc.sc y := by first | exact Or.inl rfl | exact Or.inr (Or.inl rfl)) (hi : N[i]? = some z := by rfl) (hx : LocS sc z := by first | exact Or.inl rfl | exact Or.inr ⟨rfl, rfl⟩)
    (hs : ∀ env, env.scope = sc.sc → swapsWith (.Call (.Name x p) [.Name y p1, .Lambda params body scope lpos] [] pos) (some (.Name z pz)) spos.line env = pure false := by intro _ _; rfl)
    (hdb : (x == ("__debug__" : Str)) = false := by decide) (hd : (y == ("__debug__" : Str)) = false := by decide) (hcd : (y == ("__classdict__" : Str)) = false := by decide) :
    TS1 G N sc k P q (CodC c P q) (.Assign [.Name z pz] (.Call (.Name x p) [.Name y p1, .Lambda params body scope lpos] [] pos) spos) (sSetE i (dTurn spc i0 js)) := ⟨fun W => by
  refine ⟨tAsg (tTurn G.K P q lpos (spV spc) i0 js) (gName i), fun X S C => ?_, imST_turn i⟩
  refine ps_set (by rw [S.nms]; exact S.nd) (by rw [S.nms]; exact hi) (S.loc hx).1 ?_ (hs _ S.scp) (S.loc hx).2
  have hfr : ∀ w ∈ scope.names, w.2 = .free → ∃ a, X.env.cells.lookup w.1 = some a := fun w hw e => C.cells _ (by rw [S.scp]; exact hcells w hw e)
  have cm : ∀ w a, (cloFrom X.env.cells scope.names []).lookup w = some a → X.env.cells.lookup w = some a := fun w a e => by
    rcases cloFrom_mem (PySem.mem_of_lookup e) with h | ⟨h1, h2⟩
    · cases h
    · obtain ⟨c1, hc⟩ := hfr _ h1 rfl
      have hc : X.env.cells.lookup w = some c1 := hc
      rw [hc] at h2
      rw [hc, show a = c1 from h2]
  have look : ∀ w, scope.names.lookup w = some .free → ∃ a, (cloFrom X.env.cells scope.names []).lookup w = some a := fun w hl => mem_lookup (cloFrom_has (cells := X.env.cells) (acc := []) (PySem.mem_of_lookup hl))
  have hst := S.stk htop
  rw [← S.K]
  refine pe_turn (W := W) (cns := cns) (S.gl hg) (by rw [S.mg]; exact hm) (by rw [S.K]; exact hk) (by rw [S.K]; exact hb) S.gd (S.room.mono hkf) hst C.tab C.code C.qual (hdef _) hfr (fun w a e => ⟨cm w a e, C.fn w⟩) hcn (fun n w j h1 h2 => ?_) (fun f c' base' cv hl hB => ?_) (by rw [S.nms]; exact hN) (by rw [S.scp]; exact hv) hdb hd hcd
  · obtain ⟨k1, k2, k3⟩ := hcns n w j h1 h2
    have k4 : X.env.scope.names.lookup w = some .cell := by rw [S.scp]; exact k3
    exact ⟨k1, look w k1, by rw [S.nms]; exact k2, .inr (.inl k4), k4⟩
  · rw [S.prog, S.w, S.K, S.mg]
    exact hFn f c' base' _ cv hl hB look⟩
end
end HD
namespace HD
open PySem PySem.Spec PyProof.Rows L2
abbrev entT (P : Addr) (F H : Hp) (args : Env') : Ent := ⟨F, H, P :: ownedE args⟩
theorem Holds.finalsE {K : PySem.W.Frag} {e : Ent} {F H F' H' : Hp} {args env : Env'} {T : Tmp} {σ' : L2.St} {vs : List V} (h0 : Holds K e args [] F (vs.map some) H) (h : Holds K e env T F' σ' H') (sm : Same F F') : Holds K e (HD.finals args env) T F' (vs.map some) H' := by
  have sub : (ownedE (HD.finals args env) ++ ownedT T).Sublist (ownedE env ++ ownedT T) := (finals_owned args env).append (List.Sublist.refl _)
  refine ⟨h.fh, ?_, fun i sl q => ?_, h.temps, h.nd.sublist sub, h.s1, h.s2, fun a ha => h.s3 a (sub.subset ha)⟩
  · rw [← h0.len]
    unfold HD.finals
    rw [List.length_map, List.length_range]
  · obtain ⟨s, hs, rfl⟩ := finals_get q
    rcases h0.slots i s hs with z | ⟨v, hv, ok⟩
    · subst z
      exact .inl rfl
    · cases s with
      | un => exact .inl rfl
      | al j a => exact .inl rfl
      | ar j a => exact .inl rfl
      | reg d cs =>
        cases e1 : env[i]? with
        | none => exact .inl rfl
        | some s' =>
          cases s' with
          | reg d' cs' =>
            show (if (rootOf d).isSome = true ∧ rootOf d = rootOf d' then Sl.reg d cs' else .un) = .un ∨ ∃ v, _ ∧ SlOk K F' H' v (if (rootOf d).isSome = true ∧ rootOf d = rootOf d' then Sl.reg d cs' else .un)
            split
            · rename_i dd
              have ed := rootOf_eq dd
              subst ed
              rcases h.slots i _ e1 with z | ⟨w, _, ok'⟩
              · cases z
              · exact .inr ⟨v, hv, Rep.same sm ok.1, ok'.2⟩
            · exact .inl rfl
          | _ => exact .inl rfl
      | ext d => exact .inr ⟨v, hv, Rep.same sm ok⟩
      | lst a ds =>
        obtain ⟨rfl, _⟩ := ok
        cases e1 : env[i]? with
        | none => exact .inl rfl
        | some s' =>
          cases s' with
          | lst b es =>
            show (if a = b then Sl.lst a es else .un) = .un ∨ ∃ v, _ ∧ SlOk K F' H' v (if a = b then Sl.lst a es else .un)
            split
            · rename_i ab
              subst ab
              rcases h.slots i _ e1 with z | ⟨w, _, ok'⟩
              · cases z
              · obtain ⟨rfl, r⟩ := ok'
                exact .inr ⟨_, hv, rfl, r⟩
            · exact .inl rfl
          | _ => exact .inl rfl
def toSpT (K : PySem.W.Frag) (P : Addr) (q : Str) (n : Nat) (spec : DSpec) : Sp := fun vs H Q E => ∃ (F : Hp) (args : Env') (Qd : Sl → List Sl → Prop),
  vs.length = n ∧ HT K P q (entT P F H args) args [] F (vs.map some) H ∧ spec args Qd (fun _ _ => False) ∧
  (∀ v H' F' r fin, HT K P q (entT P F H args) fin [(v, r)] F' (vs.map some) H' → Qd r fin → Q v H')
theorem HT.finals {K : PySem.W.Frag} {P : Addr} {q : Str} {F H F' H' : Hp} {args env : Env'} {T : Tmp} {σ' : L2.St} {vs : List V} (h0 : HT K P q (entT P F H args) args [] F (vs.map some) H) (h : HT K P q (entT P F H args) env T F' σ' H') : HT K P q (entT P F H args) (HD.finals args env) T F' (vs.map some) H' :=
  HT.of (h0.h.finalsE h.h h.h.s1) h.t h.n
section
variable {P : Program} {w : World} {K : PySem.W.Frag} {mg : Str → Option Value} {base : Heap} {C : CXT} {k : Nat} {f : Addr} {fd : FuncData} {N ps : List Str} {sp : Sp} {x qual : Str} {st : Stmt}
theorem fnG_code (hF : Fun K x qual st f fd) (S : FnScope N ps (defScope st)) (fit : ∀ vs H Q E, sp vs H Q E → vs.length = ps.length)
    (body : ∀ (A : Around) (out : List Env) (t : Shared) (H : Hp) (vs : List V) (Q : VK) (E : XK), A.guards = some [] → Room k (A.deeper (envOfC qual (defScope st) t.heap.objs.size f fd.code)) → sp vs H Q E →
      ∃ tt, PSs (cxOf C P w K mg base N qual (defScope st) f fd.code A out t H E) (defBody st) tt ∧ tt { nx := fun _ H' => Q .non H', rt := Q } (L2.start N vs) H) : FnG P w K mg base C (k + 1) f fd ps sp := by
  obtain ⟨oc, od, kV, doc, pm, an, cd, ct, osl, rfl, at_f, code⟩ := hF.ex
  refine ⟨fit, fun A out t H args us vs Q E gd room e0 bnd rel hsp => ?_⟩
  have inK : K.In t.heap := e0.mod.kin.keeps fun b o q => (e0.bs b o q).1
  have noLim : t.heap.NoLimit := e0.mod.nolimit.keeps fun b o q => (e0.bs b o q).1
  refine codeAny_call_function room.depth (inK _ _ at_f) rfl S.co S.gen rfl (PySem.W.codeRec_of inK code) (bnd _ _ _ _ ?_)
  refine wpAny_newFunctionEnv_cells S.kind (fun y hy => ?_) fun env he t1 call => ?_
  · obtain ⟨nm, v⟩ := y
    rcases S.par nm (List.of_mem_zip hy).1 with z | z
    · exact Or.inl z
    · exact Or.inr ⟨z, PySem.W.cellsFrom_some _ _ _ (.inl z)⟩
  · subst he
    refine ⟨noLim.keeps call.toInCall.keep, codeAny_func ?_⟩
    obtain ⟨tt, hb, hq⟩ := body A out t H vs Q E gd (room.deeper _) hsp
    have J : L2.Inv (cxOf C P w K mg base N qual (defScope st) f cd A out t H E) [] (L2.start N vs) H t1 := inv_start S room.hd e0 (fit _ _ _ _ hsp) rel call
    refine wpAny_mono (hb.run [] t1 (L2.start N vs) H _ J hq) (fun fl t2 h2 => ?_) fun e t2 h2 => h2
    cases fl with
    | ret u =>
      obtain ⟨v, σ2, H2, J2, rv, q⟩ := h2
      exact ⟨v, H2, J2.os, J2.bare, J2.base, J2.hok, rv, q⟩
    | next =>
      obtain ⟨σ2, H2, J2, q⟩ := h2
      exact ⟨V.non, H2, J2.os, J2.bare, J2.base, J2.hok, rfl, q⟩
    | brk => exact h2.elim fun _ z => z.elim fun _ z => z.2.elim
    | cont => exact h2.elim fun _ z => z.elim fun _ z => z.2.elim
end
section
variable {G : GG} {N ps : List Str} {k m : Nat} {P c f : Addr} {q x qual : Str} {st : Stmt} {fd : FuncData} {t : DTS} {spec : DSpec}
theorem fnT_ok (hF : Fun G.K x qual st f fd) (S : FnScope N ps (defScope st)) (hcode : fd.code = .ref c) (hq : (qual ++ ".<locals>." : Str) ++ "<lambda>" = q) (TB : LamX.TabB G.base G.mg c P) (hb : TSs G N (fnS (defScope st)) k P q (CodC c P q) (defBody st) t) (hm : Meets t ps.length m spec) (hN : N.length = ps.length + m) :
    FnG G.P G.w G.K G.mg G.base (L2.CX G.P G.w) (k + 1) f fd ps (toSpT G.K P q ps.length spec) := by
  refine fnG_code hF S (fun vs H Q E h => ?_) (fun A outer s H vs Q E gd hr hsp => ?_)
  · obtain ⟨_, _, _, hl, _⟩ := h
    exact hl
  · obtain ⟨F0, args, Qd, hl, hA, hs, hQ⟩ := hsp
    obtain ⟨ts, p1, i1⟩ := hb.ex fun cls d _ H => False
    have al : args.length = vs.length := by
      have z := hA.h.len
      rw [List.length_map] at z
      exact z
    refine ⟨ts, p1 _ ?_ ?_, ?_⟩
    · exact ⟨rfl, rfl, rfl, rfl, rfl, rfl, S.nd, rfl, rfl, hr, LamX.takes0, fun _ _ => rfl, passes_of rfl, fun _ => ⟨rfl, rfl⟩, gd⟩
    · exact ⟨hcode, hq, TB, fun z => rfl, fun z hz => cell_has hz⟩
    · have hh := start_holds N hA.h
      rw [← al] at hh
      have e : N.length - args.length = m := by omega
      rw [e] at hh
      refine i1 (entT P F0 H args) (exOf args fun _ _ => False) (fun c d env F' σ' H' hh' hx q => q) List.mem_cons_self _ F0 _ H (endsOf args Qd) _ (HT.of hh hA.t hA.n) (hm args Qd _ hs) ⟨fun env F' σ' H' hh' q => ?_, fun env F' σ' H' v r hh' q => hQ v H' F' r _ (hA.finals hh') q, fun _ _ _ _ _ z => z, fun _ _ _ _ _ z => z⟩
      exact hQ .non H' F' (.ext .non) _ (hA.finals (HT.of (hh'.h.pushE rfl) hh'.t hh'.n)) q
end
end HD
namespace HD
open PySem PySem.Spec PyProof.Rows L2
section
variable {K : PySem.W.Frag} {e : Ent} {env : Env'} {T : Tmp} {F : Hp} {σ : L2.St} {H : Hp} {P : Addr} {q : Str}
theorem Holds.setP (h : Holds K e env T F σ H) (hP : P ∈ e.A0) (ho : P ∉ ownedE env ++ ownedT T) (hF : F P = none) (hH : H P ≠ none) (o : HO) : Holds K e env T F σ (upd H P o) := by
  have ne : ∀ {a : Addr} {u : HO}, F a = some u → a ≠ P := fun {a u} e1 z => by
    rw [z, hF] at e1
    cases e1
  have sl : ∀ {s : Sl} {v : V}, SlOk K F H v s → P ∉ s.owned → SlOk K F (upd H P o) v s := fun {s v} hs hn => by
    cases s with
    | un => exact hs
    | ext d => exact hs
    | al _ _ => exact hs
    | ar _ _ => exact hs
    | lst a ds =>
      obtain ⟨h1, h2, vs, h3, h4⟩ := hs
      exact ⟨h1, h2, vs, by rw [upd_ne fun z => hn (by rw [← z]; exact List.mem_singleton.2 rfl)]; exact h3, h4⟩
    | reg d cs =>
      obtain ⟨h1, h2, h3⟩ := hs
      refine ⟨h1, h2, fun p hp => ?_⟩
      obtain ⟨h4, u, h5, h6⟩ := h3 p hp
      exact ⟨h4, u, by rw [upd_ne fun z => hn (by rw [← z]; exact List.mem_map.2 ⟨p, hp, rfl⟩)]; exact h5, h6⟩
  refine ⟨fun a u e1 => by rw [upd_ne (ne e1)]; exact h.fh _ _ e1, h.len, fun i s hs => (h.slots i s hs).imp id fun ⟨v, k1, k2⟩ => ⟨v, k1, sl k2 fun z => ho (List.mem_append_left _ (List.mem_flatMap.2 ⟨s, List.mem_of_getElem? hs, z⟩))⟩,
    fun p hp => sl (h.temps p hp) fun z => ho (List.mem_append_right _ (List.mem_flatMap.2 ⟨p, hp, z⟩)), h.nd, h.s1, fun a u e1 n => ?_, h.s3⟩
  obtain ⟨k1, k2⟩ := h.s2 a u e1 n
  exact ⟨by rw [upd_ne fun z => n (by rw [z]; exact hP)]; exact k1, k2⟩
theorem imT_callJ {W : WX} {spec : DSpec} {n i : Nat} {ta : TA} {t : DTA} {Ex : DX} {Q : Sl → Env' → Prop} {R : VK} (h : ImA K W ta t) (hn : ∀ ds Q X, spec ds Q X → ds.length = n) (hX : ∀ ds Q X X', spec ds Q X → spec ds Q X') (hl : Link K e W Ex) (hP : P ∈ e.A0) (hh : HT K P q e env [] F σ H) (ht : dCallJ spec i t Ex env Q)
    (hR : ∀ v H' F' env' sl, HT K P q e env' [(v, sl)] F' σ H' → Q sl env' → R v H') : tCallS (toSpT K P q n spec) (WE W) (tCons (tVar i) ta) σ H R := by
  unfold dCallJ at ht
  split at ht
  · rename_i a ds0 hi0
    rcases hh.h.slots i _ hi0 with z | ⟨v0, hv0, e0, _⟩
    · cases z
    · subst e0
      refine ⟨_, hv0, ?_⟩
      refine h (entH F H env []) Ex (Link.here hh.h hl) env [] F σ H _ _ hh.h.here ht fun vs H1 F1 env1 xs le hh1 q1 => ?_
      have ht1 := hh.over hh1
      split at q1
      · rename_i b ds hi
        obtain ⟨rfl, q1⟩ := q1
        obtain ⟨es, F2, sm, hh2, rr3, q2⟩ := ht1.h.here.frozs le q1
        have ht3 := ht1.over hh2
        have hh3 := ht3.h
        have tf := ht3.t
        have FP := ht3.n
        obtain ⟨tb, t1, t2, t3⟩ := ht3.t
        have own0 : ownedE (Sl.lst b ds :: es.map Sl.ext) = [b] := by
          show [b] ++ ownedE (es.map Sl.ext) = [b]
          rw [ownedE_ext, List.append_nil]
        have okJ : SlOk K F2 H1 (.ref b) (.lst b ds) := by
          rcases hh3.slots i _ hi with z | ⟨w, _, e1, r⟩
          · cases z
          · exact ⟨rfl, r⟩
        have hE := argsE (K := K) hh3.fh rr3
        have hA : Holds K (entT P F2 H1 (Sl.lst b ds :: es.map Sl.ext)) (Sl.lst b ds :: es.map Sl.ext) [] F2 ((V.ref b :: vs).map some) H1 := by
          refine ⟨hh3.fh, ?_, fun j sl q => ?_, (fun p hp => nomatch hp), ?_, Same.refl _, fun a o q _ => ⟨q, fun z => z⟩, fun a ha => ?_⟩
          · have z := hE.len
            show (es.map Sl.ext).length + 1 = (vs.map some).length + 1
            rw [z]
          · cases j with
            | zero =>
              have z := Option.some.inj q
              subst z
              exact .inr ⟨.ref b, rfl, okJ⟩
            | succ j => exact hE.slots j sl q
          · rw [own0]
            show ([b] ++ ([] : List Addr)).Nodup
            simp
          · rw [show ownedT ([] : Tmp) = [] from rfl, List.append_nil] at ha
            exact .inl (List.mem_cons_of_mem _ ha)
        have hAT := HT.of hA tf FP
        refine ⟨F2, Sl.lst b ds :: es.map Sl.ext, _, ?_, hAT, hX _ _ _ _ q2, fun v H' F' r fin hf hq => ?_⟩
        · rw [← hn _ _ _ q2]
          show vs.length + 1 = (es.map Sl.ext).length + 1
          rw [List.length_map, rr3.length]
        · cases fin with
          | nil => exact hq.elim
          | cons s' fr =>
            obtain ⟨qs, qr, q3⟩ := hq
            obtain ⟨tb', u1, u2, u3⟩ := hf.t
            have hs3 := hh3.setP hP ht3.o FP (by rw [t1]; simp) (.tbl tb')
            have nbP : b ≠ P := fun z => ht3.o (List.mem_append_left _ (List.mem_flatMap.2 ⟨_, List.mem_of_getElem? hi, by rw [← z]; exact List.mem_singleton.2 rfl⟩))
            have back : Left [b] F2 (upd H1 P (.tbl tb')) F' H' := ⟨hf.h.s1, hf.h.fh, fun x o qx nx => by
              by_cases hx : x = P
              · subst hx
                rw [upd_same] at qx
                rw [← Option.some.inj qx]
                exact ⟨u1, fun _ => hf.n⟩
              · rw [upd_ne hx] at qx
                refine hf.h.s2 x o qx fun z => ?_
                rcases List.mem_cons.1 z with z | z
                · exact hx z
                · rw [own0] at z
                  exact nx z⟩
            have ok' : SlOk K F' H' (.ref b) s' := by
              rcases hf.h.slots 0 s' rfl with z | ⟨w, hw, ok⟩
              · subst z
                trivial
              · have z := Option.some.inj (Option.some.inj hw)
                subst z
                exact ok
            have sub : (s'.owned ++ r.owned).Sublist (ownedE (s' :: fr) ++ ownedT [(v, r)]) := by
              show (s'.owned ++ r.owned).Sublist ((s'.owned ++ ownedE fr) ++ (r.owned ++ []))
              rw [List.append_nil]
              exact (List.sublist_append_left _ _).append (List.Sublist.refl _)
            have ownF : ∀ x ∈ s'.owned ++ r.owned, x = b ∨ upd H1 P (.tbl tb') x = none := fun x hx => by
              have hx2 := sub.subset hx
              have nx : x ≠ P := fun z => hf.o (by rw [← z]; exact hx2)
              rcases hf.h.s3 x hx2 with z | z
              · rcases List.mem_cons.1 z with z | z
                · exact absurd z nx
                · rw [own0] at z
                  exact .inl (List.mem_singleton.1 z)
              · exact .inr (by rw [upd_ne nx]; exact z)
            have fin1 := hs3.left1 hi back (hf.h.temps (v, r) List.mem_cons_self) ok' ownF (hf.h.nd.sublist sub) qs
            exact hR v H' F' _ r (HT.of fin1 ⟨tb', u1, u2, u3⟩ hf.n) q3
      · exact q1.elim
  · exact ht.elim
end
end HD
namespace HD
open PySem PySem.Spec PyProof.Rows L2
structure DefT (G : GG) (P : Addr) (q : Str) (kf : Nat) (x : Str) (n : Nat) (spec : DSpec) : Prop where
  ex : ∃ f fd ps, FnG G.P G.w G.K G.mg G.base (L2.CX G.P G.w) kf f fd ps (toSpT G.K P q n spec) ∧ G.mg x = some (.ref f) ∧ PySem.W.keepIn G.K (.ref f) = true ∧ Binds G.K fd ps []
  len : ∀ ds Q X, spec ds Q X → ds.length = n
  noX : ∀ ds Q X X', spec ds Q X → spec ds Q X'
section
variable {G : GG} {N : List Str} {sc : SC} {k kf n : Nat} {x : Str} {spec : DSpec} {e : Expr} {es : List Expr} {p pos : Pos} {P : Addr} {q : Str} {C : Cx → Prop}
theorem DefT.pe {W : WX} {X : Cx} {ta : TA} (d : DefT G P q kf x n spec) (S : Sit G N sc W k X) (hk : kf ≤ k) (hg : GlS sc x) (ha : PA X (e :: es) ta) (hdb : (x == ("__debug__" : Str)) = false) (he : NoStar e es) (hpl : ∀ env, (backTo pos (starEach es env)).any (·.1) = false) :
    PE X (.Call (.Name x p) (e :: es) [] pos) (tCallS (toSpT G.K P q n spec) (WE W) ta) := by
  obtain ⟨f, fd, ps, h1, h2, h3, h4⟩ := d.ex
  have pass : ∀ σ, PassesAt (L2.CX X.prog X.w) X σ (WE W σ) := fun σ => passAt S.tk σ
  rw [← S.prog, ← S.w, ← S.K, ← S.mg, ← S.base] at h1
  rw [← S.K] at h3 h4 ⊢
  rw [← S.mg] at h2
  refine ⟨fun pins s σ H Q I h => ?_⟩
  refine wpAny_Call_Name_kw (ld_glob I (S.gl hg) h2 ?_ hdb)
  refine PySem.W.callWith_K (h₀ := X.base) I.ok.mod.kin h3 (thn (ha.run pos pins s σ H _ I h) fun us s1 ⟨vs, H1, I1, r, q⟩ => ⟨I1.kIn, ?_⟩) (he _) (hpl _)
  exact runG h1 S.gd (S.room.mono hk) h4 (pass σ) I1 r q
theorem ts_ifcall {ta : DTA} {y : Str} {py upos ipos : Pos} {tb : List Stmt} {t1 : DTS} (i : Nat) (d : DefT G P q kf x n spec) (ha : DAs G N sc k es ta) (h1 : DSs G N sc k tb t1) (hk : kf ≤ k := by decide) (hg : GlS sc x := by rfl) (hN : N[i]? = some y := by rfl)
    (hv : Vis sc.sc y := by first | exact Or.inl rfl | exact Or.inr (Or.inl rfl) | exact Or.inr (Or.inr rfl)) (hdb : (x == ("__debug__" : Str)) = false := by decide) (hdy : (y == ("__debug__" : Str)) = false := by decide) (hcy : (y == ("__classdict__" : Str)) = false := by decide)
    (he : NoStar (.Name y py) es := by intro _; rfl) (hpl : ∀ env, (backTo pos (starEach es env)).any (·.1) = false := by intro _; rfl)
    (ht : ∀ env whole, isTrue (.Call (.Name x p) (.Name y py :: es) [] pos) env whole = (do let v ← whole; standAt (Expr.Call (.Name x p) (.Name y py :: es) [] pos).pos; holding [v] (truthy v)) := by intro _ _; rfl) :
    TS1 G N sc k P q C (.If (.UnaryOp .Not (.Call (.Name x p) (.Name y py :: es) [] pos) upos) tb [] ipos) (sIf (dNot (dTest (dCallJ spec i ta))) t1 sNext) := ⟨fun W => by
  obtain ⟨te, p1, i1⟩ := ha.ex W
  obtain ⟨ts, p2, i2⟩ := h1.ex W
  refine ⟨tIfS (tNot (tB (tCallS (toSpT G.K P q n spec) (WE W) (tCons (tVar i) te)))) ts tNext, fun X S _ => ps_if (pt_not (pt_val (d.pe S hk hg (pa_cons (pe_var (by rw [S.nms]; exact hN) (S.vis hv) hdy hcy) (p1 X S) (he _)) hdb he hpl) (ht _))) (p2 X S) pss_nil, fun e Ex hl hP env F σ H E Dn hh hr ok => ?_⟩
  have hr2 : dCallJ spec i ta Ex env (fun x env1 => match x with
    | .ext (.bl b) => if (!b) = true then t1 Ex E env1 else E.nx env1
    | _ => False) := hr
  show tCallS (toSpT G.K P q n spec) (WE W) (tCons (tVar i) te) σ H _
  refine imT_callJ i1 d.len d.noX hl hP hh hr2 fun v H1 F1 env1 sl hh1 q1 => ?_
  split at q1
  · rename_i b
    have ev : v = .bl b := hh1.h.temps (v, .ext (.bl b)) List.mem_cons_self
    subst ev
    have hp := HT.of hh1.h.pop hh1.t hh1.n
    refine ⟨b, rfl, ?_⟩
    cases b with
    | true => exact ok.nx env1 F1 σ H1 hp q1
    | false => exact i2.t e Ex hl hP env1 F1 σ H1 E Dn hp q1 ok
  · exact q1.elim⟩
end
end HD
namespace HD
open PySem PySem.Spec PyProof.Rows L2
theorem HT.grow {K : PySem.W.Frag} {e e' : Ent} {env env' : Env'} {T T' : Tmp} {F F1 H H1 : Hp} {σ σ' : L2.St} {P : Addr} {q : Str} (h : HT K P q e env T F σ H) (g : Grow F H F1 H1) (h1 : Holds K e' env' T' F1 σ' H1) : HT K P q e' env' T' F1 σ' H1 := by
  obtain ⟨ps, t1, t2, t3⟩ := h.t
  refine HT.of h1 ⟨ps, g.hh _ _ t1, t2, fun p cv hc => ?_⟩ ?_
  · obtain ⟨c, e1, e2⟩ := t3 p cv hc
    exact ⟨c, e1, g.ff _ _ e2⟩
  · cases hz : F1 P with
    | none => rfl
    | some o =>
      rcases g.new P (by rw [hz]; simp) with z | z
      · exact absurd h.n z
      · rw [t1] at z
        cases z
section
variable {G : GG} {N : List Str} {sc : SC} {k : Nat} {P : Addr} {q : Str} {C : Cx → Prop} {pos : Pos}
theorem ts_for {tg iter : Expr} {body : List Stmt} {ti : DTI} {vs : List Nat} {g : DTG} {tb : DTS} (hi : DI G N sc k tg iter ti) (hg : DG G N sc tg vs g) (hb : TSs G N sc k P q C body tb) (hs : ∀ env x, foldedSetIterable iter env x = pure x := by intro _ _; rfl) : TS1 G N sc k P q C (.For tg iter body [] pos) (sFor ti g tb) := ⟨fun W => by
  obtain ⟨wi, p1, i1⟩ := hi.ex W
  obtain ⟨gg, p2, i2⟩ := hg.ex
  obtain ⟨ts, p3, i3⟩ := hb.ex W
  refine ⟨tFor wi gg ts, fun X S c => ps_for S.own S.calm (p1 X S) (p2 W k X S) (p3 X S c) (hs _), fun e Ex hl hP env F σ H E Dn hh ht ok => ?_⟩
  refine i1 (entH F H env []) Ex (Link.here hh.h hl) env [] F σ H _ _ hh.h.here ht fun J H1 F1 env1 items keep hh0 src q1 => ?_
  have hh1 := hh.over hh0
  have off : ∀ {env2 T2 F2 σ2 H2}, HT G.K P q (e.at F1) env2 T2 F2 σ2 H2 → HT G.K P q e env2 T2 F2 σ2 H2 := fun h => HT.of (hh1.h.off h.h) h.t h.n
  refine ⟨fun i m σ' H' => ∃ env' F', HT G.K P q (e.at F1) env' [] F' σ' H' ∧ i + m = items.length ∧ forD g tb keep Ex E (items.drop i) env', ⟨items.length, env1, F1, HT.of (hh1.h.on hh1.h (Same.refl _)) hh1.t hh1.n, by omega, q1⟩, ?_⟩
  rintro i m σ2 H2 ⟨env2, F2, hh2, em, q2⟩
  obtain ⟨s1, s2⟩ := src (e.at F1) env2 [] F2 σ2 H2 i hh2.h hh2.h.s1 (forD_keep q2)
  cases hd : items[i]? with
  | none =>
    have hi : items.length ≤ i := List.getElem?_eq_none_iff.mp hd
    rw [List.drop_eq_nil_of_le hi] at q2
    exact .inl ⟨s1 (by omega), ok.nx env2 F2 σ2 H2 (off hh2) q2.2⟩
  | some d =>
    obtain ⟨hi, ed⟩ := List.getElem?_eq_some_iff.mp hd
    rw [List.drop_eq_getElem_cons hi, ed] at q2
    obtain ⟨_, q2⟩ := q2
    obtain ⟨go, yl⟩ := s2 d hd
    refine .inr ⟨go, fun σ' H' => ∃ env' F', HT G.K P q (e.at F1) env' [] F' σ' H' ∧ forD g tb keep Ex E (items.drop (i + 1)) env', fun σ' H' ⟨env', F', a1, a3⟩ => ⟨m - 1, by omega, env', F', a1, by omega, a3⟩, fun x H3 hy => ?_⟩
    obtain ⟨F3, gr, rd⟩ := yl x H3 hy
    refine i2 (e.at F1) env2 [] F3 σ2 H3 x d _ _ (hh2.h.grow gr) rd q2 fun env4 σ4 hh4 _ q4 => ?_
    exact i3 (e.at F1) Ex (hl.on hh1.h) hP env4 F3 σ4 H3 _ _ (hh2.grow gr hh4) q4 ⟨fun env5 F5 σ5 H5 hh5 q5 => ⟨env5, F5, hh5, q5⟩, fun env5 F5 σ5 H5 v r hh5 q5 => ok.rt env5 F5 σ5 H5 v r (off hh5) q5, fun env5 F5 σ5 H5 hh5 q5 => ok.nx env5 F5 σ5 H5 (off hh5) q5, fun env5 F5 σ5 H5 hh5 q5 => ⟨env5, F5, hh5, q5⟩⟩⟩
end
end HD
namespace HD
open PySem PySem.Spec PyProof.Rows L2
theorem law_callP {P q : Program} {w : World} {K : PySem.W.Frag} {names : List Str} {mean : ExcName → Option Value} {mg mb : Str → Option Value} {C : CXT} {k : Nat} {fa a c T : Addr} {fd : FuncData} {x : Str} {sp : Sp} {t1 : Shared} {vs : List Value} {ns : List Int}
    (KX : K.In t1.heap) (top : Top q names mean mg mb t1.heap) (hg : t1.gens = #[]) (at_T : t1.heap.get? T = some { cls := .none, data := .fields #[] }) (no_T : K.lookup T = none) (hC : PySem.W.CodeHd t1.heap c T)
    (ha : t1.heap.get? a = some { cls := .type "list", data := .seq vs.toArray }) (hi : IntsAre vs ns) (hl : ns.length ≤ sizeLine) (room : Room k callerA)
    (F : ∀ base : Heap, K.In base → base.Ns mainGlobals mg → LamX.TabB base mg c T → FnG P w K mg base C k fa fd [x] sp) (bnd : ∀ (s : Shared) (u : Value), BindsTo s fd ⟨[u], []⟩ [(x, u)])
    (hsp : ∀ H : Hp, H T = some (.tbl #[]) → SqL K H a (ns.map V.int) → sp [.ref a] H (fun v _ => v = .bl true) fun _ _ _ => False)
    (noX : ∀ H e s', C [] H t1 (fun _ _ _ => False) e s' → False) :
    codeAny (model P w) callerA (.call (.ref fa) ⟨[.ref a], []⟩) (fun r s' => r = .ok (.ret (.bool true)) ∧ OldK t1.heap s'.heap ∧ s'.os = t1.os ∧ AllBare s'.gens) t1 := by
  have rv := vals_ints hi
  have lenV := hi.length
  have aT : a ≠ T := fun z => by
    rw [z, at_T] at ha
    cases ha
  have core : ∀ H : Hp, H T = some (.tbl #[]) → (∀ b, b ≠ T → H b = none ∨ b = a ∧ ∃ o ys, H b = some (.frz o (.lst ys))) → SqL K H a (ns.map V.int) → HOk P w H t1.heap → (H a ≠ none → K.lookup a = none) →
      codeAny (model P w) callerA (.call (.ref fa) ⟨[.ref a], []⟩) (fun r s' => r = .ok (.ret (.bool true)) ∧ OldK t1.heap s'.heap ∧ s'.os = t1.os ∧ AllBare s'.gens) t1 := by
    intro H hT only hS hok hK
    have up : ∀ {b : Addr} {o : Obj}, t1.heap.get? b = some o → H b = none → (hidT t1.heap H).get? b = some o := fun e n => hidT_get e n
    have seen : ∀ {b : Addr} {o : Obj}, t1.heap.get? b = some o → o.cls ≠ .type "list" → o.cls ≠ .none → (hidT t1.heap H).get? b = some o := fun {b o} e n1 n2 => up e (by
      by_cases z : b = T
      · rw [z, at_T] at e
        cases e
        exact absurd rfl n2
      · rcases only b z with y | ⟨y, _⟩
        · exact y
        · rw [y, ha] at e
          cases e
          exact absurd rfl n1)
    have dicts : ∀ {b : Addr} {o : Obj} {es : Array DictEntry} {ep : Nat}, t1.heap.get? b = some o → o.data = .dict es ep → H b = none := fun {b o es ep} e d => by
      by_cases z : b = T
      · rw [z, at_T] at e
        cases e
        cases (show Data.fields #[] = Data.dict es ep from d)
      · rcases only b z with y | ⟨y, _⟩
        · exact y
        · rw [y, ha] at e
          cases e
          cases (show Data.seq vs.toArray _ = Data.dict es ep from d)
    have spaces : ∀ {b : Addr} {m : Str → Option Value}, t1.heap.Ns b m → (hidT t1.heap H).Ns b m := fun {b m} ⟨o, es, ep, e, d, r⟩ => ⟨o, es, ep, up e (dicts e d), d, r⟩
    have inB : K.In (hidT t1.heap H) := fun b o e => up (KX b o e) (by
      by_cases z : b = T
      · rw [z, no_T] at e
        cases e
      · rcases only b z with y | ⟨y, _⟩
        · exact y
        · rw [y] at e ⊢
          cases u : H a with
          | none => rfl
          | some _ =>
            rw [hK (by rw [u]; simp)] at e
            cases e)
    have gN : ∀ {b : Addr} {m : Str → Option Value}, t1.heap.Ns b m → b ≠ T := fun {b m} ⟨o, es, ep, e, d, _⟩ z => by
      rw [z, at_T] at e
      cases e
      cases d
    have tab : LamX.TabB (hidT t1.heap H) mg c T := by
      obtain ⟨bm, ob, b1, b2, b3, b4, b5, b6⟩ := top.bmain
      obtain ⟨o, us, u1, u2, u3, u4, u5, u6, u7, e1, r1, r2⟩ := hC
      refine ⟨⟨o, us, u1, u2, u3, u4, u5, u6, u7, seen e1 (by rw [r1]; decide) (by rw [r1]; decide), r1, r2⟩, ⟨bm, ob, b1, b2, fun z => ?_, fun z => ?_, seen b3 (by rw [b4]; decide) (by rw [b4]; decide), b4, b5, b6⟩, gN top.g⟩
      · obtain ⟨og, es, ep, e, d, _⟩ := top.g
        rw [← z, b3] at e
        cases e
        rw [b6] at d
        cases d
      · rw [z, at_T] at b3
        cases b3
        cases b6
    have md : Mod K mg (hidT t1.heap H) := ⟨inB, spaces top.g, ⟨mb, spaces top.b, top.builtins⟩, let ⟨mc, h1, h2⟩ := top.nolimit; ⟨mc, spaces h1, h2⟩⟩
    have e0 : Env0 P w K mg (hidT t1.heap H) callerA [] t1 H := ⟨rfl, md, fun b o e => of_hidT e, Nat.le_of_eq (hidT_size _ _), True.intro, fun b hb => absurd (show b ∈ ([] : List Addr) from hb) (by simp), hok, .of_eq hg⟩
    refine codeAny_mono ((F _ inB (spaces top.g) tab).go callerA [] t1 H ⟨[.ref a], []⟩ [.ref a] [.ref a] _ _ rfl room e0 (bnd t1 (.ref a)) (.cons rfl .nil) (hsp H hT hS)) fun res t2 h => ?_
    cases res with
    | error e => exact (noX H e t2 h).elim
    | ok fl =>
      cases fl with
      | next => exact h.elim
      | brk => exact h.elim
      | cont => exact h.elim
      | ret u =>
        obtain ⟨v, H2, os, bare, un, hok2, r2, vq⟩ := h
        cases (show v = .bl true from vq)
        cases (show u = Value.bool true from r2)
        have stay : ∀ b o, b ≠ T → t1.heap.get? b = some o → t2.heap.get? b = some o := fun b o z e => by
          rcases only b z with y | ⟨_, ob, ys, y⟩
          · exact un.keep b o e y (fun z => by cases z) (by simp)
          · have y1 := (hok b _ y).1
            have y2 := (hok2 b _ (un.frzs b ob _ y)).1
            rw [e] at y1
            rw [y2, y1]
        obtain ⟨more, hm⟩ := un.tbls T #[] hT
        have grown : t2.heap.get? T = some { cls := .none, data := .fields (#[] ++ more) } := hok2 T _ hm
        refine ⟨rfl, ⟨fun b o e => ?_, fun b o e => ?_⟩, os, bare⟩
        · by_cases z : b = T
          · rw [z] at e ⊢
            rw [at_T] at e
            cases e
            exact .inr (.inl ⟨(hC.tab at_T).isCodeTable, rfl, #[], more, rfl, grown⟩)
          · exact .inl (stay b o z e)
        · by_cases z : b = T
          · exact ⟨_, by rw [z]; exact grown⟩
          · exact ⟨o, stay b o z e⟩
  let o0 : Obj := { cls := .type "list", data := .seq vs.toArray }
  have tabOk : ∀ {H : Hp} {u : HO}, H T = some (.tbl #[]) → H T = some u → ObjOk P w H t1.heap T u := fun {H u} h1 h2 => by
    rw [h1] at h2
    cases h2
    exact at_T
  cases hk : K.lookup a with
  | some o =>
    have e := KX a o hk
    rw [ha] at e
    cases e
    refine core (fun b => if b = T then some (.tbl #[]) else none) (if_pos rfl) (fun b z => .inl (if_neg z)) (.inr ⟨_, vs.toArray, _, hk, rfl, rfl, rfl, by rw [List.size_toArray, lenV]; exact hl, by simpa using rv⟩) (fun b u z => ?_) fun z => absurd (if_neg aT) z
    by_cases y : b = T
    · subst y
      exact tabOk (if_pos rfl) z
    · cases (if_neg y).symm.trans z
  | none =>
    have hTn : (fun b => if b = a then some (HO.frz o0 (.lst (ns.map V.int))) else if b = T then some (.tbl #[]) else none) T = some (.tbl #[]) := (if_neg fun z => aT z.symm).trans (if_pos rfl)
    refine core (fun b => if b = a then some (HO.frz o0 (.lst (ns.map V.int))) else if b = T then some (.tbl #[]) else none) hTn (fun b z => ?_) (.inl (.inr ⟨o0, if_pos rfl⟩)) (fun b u z => ?_) fun _ => hk
    · by_cases y : b = a
      · exact .inr ⟨y, _, _, if_pos y⟩
      · exact .inl ((if_neg y).trans (if_neg z))
    · by_cases y : b = a
      · cases (if_pos y).symm.trans z
        subst y
        exact ⟨ha, by rw [List.length_map]; exact hl, vs, _, rv, ha⟩
      · by_cases y2 : b = T
        · subst y2
          exact tabOk hTn z
        · cases (if_neg y2).symm.trans ((if_neg y).symm.trans z)
theorem walkP {l : PySem.W.OpenLaw} {n k : Nat} {q : Program} {names : List Str} {XP : (Str → Option Value) → Heap → Prop} {YP : World → Heap → Prop} {d : DefRec} {CX : World → CXT} {x : Str}
    (hn : l.most = some n) (hz : n ≤ sizeLine) (hd0 : d.params.defaults = []) (room : Room k callerA)
    (F : ∀ (w : World) (mg : Str → Option Value) (f : Addr) (h : Heap), YP w h → h.Ns mainGlobals mg → mg d.name = some (.ref f) →
      ∃ (K : PySem.W.Frag) (fd : FuncData) (sp : Sp) (c T : Addr), K.In h ∧ (∀ (s : Shared) (v : Value), BindsTo s fd ⟨[v], []⟩ [(x, v)]) ∧
        h.get? T = some { cls := .none, data := .fields #[] } ∧ K.lookup T = none ∧ PySem.W.CodeHd h c T ∧
        (∀ (H : Hp) (a : Addr) (ns : List Int), ns.length ≤ n → H T = some (.tbl #[]) → SqL K H a (ns.map V.int) → sp [.ref a] H (fun v _ => v = .bl true) fun _ _ _ => False) ∧
        ∀ base : Heap, K.In base → base.Ns mainGlobals mg → LamX.TabB base mg c T → FnG l.prog w K mg base (CX w) k f fd [x] sp)
    (no : ∀ (w : World) (H : Hp) (s : Shared) (e : Value) (s' : Shared), CX w [] H s (fun _ _ _ => False) e s' → False) :
    PySem.W.WalkO q names XP YP l.row.toRowW d [] (fun f vs => PySem.call f vs) := by
  refine Att.attach_call hn hd0 fun w s s1 mg mb f o pm cd doc a vs ns G Y h1 h2 h3 hm h4 h5 h6 h7 => ?_
  obtain ⟨K, fd, sp, c, T, hK, hb, hT, nT, hC, hsp, hF⟩ := F w mg f _ Y G.T.g hm
  exact law_callP hK G.T h7 hT nT hC h4 h5 (Nat.le_trans h6 hz) room hF hb (fun H hH hS => hsp H a ns h6 hH hS) fun H e s' => no w H s1 e s'
theorem lawT_sp {K : PySem.W.Frag} {n : Nat} {H : Hp} {a P : Addr} {q : Str} {ns : List Int} (hl : ns.length ≤ n) (hP : H P = some (.tbl #[])) (hS : SqL K H a (ns.map V.int)) : toSpT K P q 1 (lawSpec n) [.ref a] H (fun v _ => v = .bl true) fun _ _ _ => False := by
  have sm : Same (fun b => if b = P then none else H b) H := fun b o e => by
    have e : (if b = P then none else H b) = some o := e
    by_cases hb : b = P
    · rw [if_pos hb] at e
      cases e
    · rwa [if_neg hb] at e
  have hS2 : SqL K (fun b => if b = P then none else H b) a (ns.map V.int) := by
    rcases hS with h | h
    · refine .inl ?_
      have ne : a ≠ P := fun z => by
        subst z
        rcases h with h | ⟨o, h⟩
        · rw [hP] at h; cases h
        · rw [hP] at h; cases h
      rcases h with h | ⟨o, h⟩
      · exact .inl ((if_neg ne).trans h)
      · exact .inr ⟨o, (if_neg ne).trans h⟩
    · exact .inr h
  have r : Reps K (fun b => if b = P then none else H b) [.fz (ns.map D.int)] [.ref a] := ⟨_, _, rfl, ⟨a, _, rfl, hS2, Reps.of_ints ns⟩, rfl⟩
  have h0 := argsE sm r
  have h1 : Holds K (entT P (fun b => if b = P then none else H b) H [.ext (.fz (ns.map D.int))]) [.ext (.fz (ns.map D.int))] [] (fun b => if b = P then none else H b) ([V.ref a].map some) H :=
    ⟨h0.fh, h0.len, h0.slots, h0.temps, h0.nd, h0.s1, fun x o e _ => ⟨e, id⟩, fun x hx => nomatch hx⟩
  refine ⟨_, [.ext (.fz (ns.map D.int))], fun r _ => r = .ext (.bl true), rfl, HT.of h1 ⟨#[], hP, True.intro, fun pos cv hc => ?_⟩ (if_pos rfl), ⟨ns, rfl, hl, fun _ => rfl⟩, fun v H' F' r fin hf hq => ?_⟩
  · have z : codeAmong pos [] = some cv := hc
    simp [codeAmong] at z
  · subst hq
    exact hf.h.temps (v, .ext (.bl true)) List.mem_cons_self
theorem code_of {K : PySem.W.Frag} {x : Str} {st : Stmt} {f : Addr} {fd : FuncData} {p : Str × Option Str} (F : FnD K x st f fd) (e : f = He.fAd K p) : fd.code = .ref (He.cT K p).1 := by
  obtain ⟨oc, od, dV, kV, doc, pm, an, cdv, ct, osl, rfl, lk, hc, _, _⟩ := F.ex
  obtain ⟨c, rfl⟩ := He.codeIn_ref hc
  subst e
  show Value.ref c = .ref (He.codeOf K p)
  rw [He.codeOf_eq lk rfl]
end HD
namespace HD
open PySem PyProof.Rows L2
def dMeth (T : D → Bool) (f : D → D → (Sl → Prop) → Prop) (to ta : DT) : DT := fun Ex env Q => to Ex env fun x env1 => wd env1 x (fun d => T d = true) ∧ ta Ex env1 fun y env2 => wd env2 x fun d => wd env2 y fun d' => f d d' fun sl => Q sl env2
def fCount (d d' : D) (Q : Sl → Prop) : Prop := match d with
  | .lst ds => d'.flat = true ∧ ds.all D.flat = true ∧ Q (.ext (.int ((ds.countP fun z => eqV z.toV d'.toV : Nat) : Int)))
  | _ => False
def fSplit (d d' : D) (Q : Sl → Prop) : Prop := match d, d' with
  | .str a, .str b => (b.length == 0) = false ∧ a.length + 2 ≤ sizeLine ∧ ∀ p, Q (.lst p ((Txt.split a b).map D.str))
  | _, _ => False
end HD
namespace LS.K22.E
open PySem L2 HD
def topS (i : Nat) : Stmt := PySem.Challenge.pw_sumorder_k22_whole_words_beside_words.main.body.getD i (.Pass ⟨0, 0, 0, 0⟩)
abbrev s_unit : Stmt := topS 2
abbrev s_join : Stmt := topS 3
abbrev s_gather : Stmt := topS 4
abbrev s_is_whole : Stmt := topS 5
abbrev s_fillings_of : Stmt := topS 6
abbrev s_place_of : Stmt := topS 13
abbrev s_law_jar : Stmt := topS 21
abbrev s_law_prime : Stmt := topS 22
abbrev s_law_times : Stmt := topS 25
abbrev s_law_turned : Stmt := topS 33
abbrev s_are_names : Stmt := topS 11
abbrev s_worth_at : Stmt := topS 14
abbrev s_all_fillings : Stmt := topS 16
abbrev s_law_dip : Stmt := topS 23
abbrev s_need_names : Stmt := topS 12
abbrev s_joined_at : Stmt := topS 15
abbrev s_law_number : Stmt := topS 28
abbrev s_law_sizes : Stmt := topS 29
abbrev s_law_some : Stmt := topS 30
abbrev s_whole : Stmt := topS 18
abbrev s_rest : Stmt := topS 19
abbrev s_law_part : Stmt := topS 31
abbrev s_law_sheet : Stmt := topS 32
abbrev s_law_ones_right : Stmt := topS 34
abbrev s_law_numbers_right : Stmt := topS 35
abbrev s_law : Stmt := topS 36
def y_unit : He.DefD := ⟨("unit", none), "unit", "unit", defArgs s_unit, defBody s_unit, defScope s_unit, [], []⟩
def y_join : He.DefD := ⟨("join", none), "join", "join", defArgs s_join, defBody s_join, defScope s_join, [], []⟩
def y_gather : He.DefD := ⟨("gather", none), "gather", "gather", defArgs s_gather, defBody s_gather, defScope s_gather, [], []⟩
def y_is_whole : He.DefD := ⟨("is_whole", none), "is_whole", "is_whole", defArgs s_is_whole, defBody s_is_whole, defScope s_is_whole, [], []⟩
def y_fillings_of : He.DefD := ⟨("fillings_of", none), "fillings_of", "fillings_of", defArgs s_fillings_of, defBody s_fillings_of, defScope s_fillings_of, [], []⟩
def y_place_of : He.DefD := ⟨("place_of", none), "place_of", "place_of", defArgs s_place_of, defBody s_place_of, defScope s_place_of, [], []⟩
def y_law_jar : He.DefD := ⟨("_law_jar", none), "_law_jar", "_law_jar", defArgs s_law_jar, defBody s_law_jar, defScope s_law_jar, [], []⟩
def y_law_prime : He.DefD := ⟨("_law_prime", none), "_law_prime", "_law_prime", defArgs s_law_prime, defBody s_law_prime, defScope s_law_prime, [], []⟩
def y_law_times : He.DefD := ⟨("_law_times", none), "_law_times", "_law_times", defArgs s_law_times, defBody s_law_times, defScope s_law_times, [], []⟩
def y_law_turned : He.DefD := ⟨("_law_turned", none), "_law_turned", "_law_turned", defArgs s_law_turned, defBody s_law_turned, defScope s_law_turned, [], []⟩
def y_are_names : He.DefD := ⟨("are_names", none), "are_names", "are_names", defArgs s_are_names, defBody s_are_names, defScope s_are_names, [], []⟩
def y_worth_at : He.DefD := ⟨("worth_at", none), "worth_at", "worth_at", defArgs s_worth_at, defBody s_worth_at, defScope s_worth_at, [], []⟩
def y_all_fillings : He.DefD := ⟨("all_fillings", none), "all_fillings", "all_fillings", defArgs s_all_fillings, defBody s_all_fillings, defScope s_all_fillings, [], []⟩
def y_law_dip : He.DefD := ⟨("_law_dip", none), "_law_dip", "_law_dip", defArgs s_law_dip, defBody s_law_dip, defScope s_law_dip, [], []⟩
def y_need_names : He.DefD := ⟨("need_names", none), "need_names", "need_names", defArgs s_need_names, defBody s_need_names, defScope s_need_names, [], []⟩
def y_joined_at : He.DefD := ⟨("joined_at", none), "joined_at", "joined_at", defArgs s_joined_at, defBody s_joined_at, defScope s_joined_at, [], []⟩
def y_law_number : He.DefD := ⟨("_law_number", none), "_law_number", "_law_number", defArgs s_law_number, defBody s_law_number, defScope s_law_number, [], []⟩
def y_law_sizes : He.DefD := ⟨("_law_sizes", none), "_law_sizes", "_law_sizes", defArgs s_law_sizes, defBody s_law_sizes, defScope s_law_sizes, [], []⟩
def y_law_some : He.DefD := ⟨("_law_some", none), "_law_some", "_law_some", defArgs s_law_some, defBody s_law_some, defScope s_law_some, [], []⟩
def y_whole : He.DefD := ⟨("whole", none), "whole", "whole", defArgs s_whole, defBody s_whole, defScope s_whole, [], []⟩
def y_rest : He.DefD := ⟨("rest", none), "rest", "rest", defArgs s_rest, defBody s_rest, defScope s_rest, [], []⟩
def y_law_part : He.DefD := ⟨("_law_part", none), "_law_part", "_law_part", defArgs s_law_part, defBody s_law_part, defScope s_law_part, [], []⟩
def y_law_sheet : He.DefD := ⟨("_law_sheet", none), "_law_sheet", "_law_sheet", defArgs s_law_sheet, defBody s_law_sheet, defScope s_law_sheet, [], []⟩
def y_law_ones_right : He.DefD := ⟨("_law_ones_right", none), "_law_ones_right", "_law_ones_right", defArgs s_law_ones_right, defBody s_law_ones_right, defScope s_law_ones_right, [], []⟩
def y_law_numbers_right : He.DefD := ⟨("_law_numbers_right", none), "_law_numbers_right", "_law_numbers_right", defArgs s_law_numbers_right, defBody s_law_numbers_right, defScope s_law_numbers_right, [], []⟩
def y_law : He.DefD := ⟨("law", none), "law", "law", defArgs s_law, defBody s_law, defScope s_law, [], []⟩
def fn0 : List He.DefD := [y_unit, y_join, y_gather, y_is_whole, y_fillings_of, y_place_of, y_law_jar, y_law_prime, y_law_times, y_law_turned, y_are_names, y_worth_at, y_all_fillings, y_law_dip, y_need_names, y_joined_at, y_law_number, y_law_sizes, y_law_some, y_whole, y_rest, y_law_part, y_law_sheet, y_law_ones_right, y_law_numbers_right, y_law]
def fn : List He.DefD := fn0
def fa0 : List He.Fa := [.glo "unit", .glo "join", .glo "gather", .glo "is_whole", .glo "fillings_of", .glo "place_of", .glo "_law_jar", .glo "_law_prime", .glo "_law_times", .glo "_law_turned", .glo "are_names", .glo "worth_at", .glo "all_fillings", .glo "_law_dip", .glo "need_names", .glo "joined_at", .glo "_law_number", .glo "_law_sizes", .glo "_law_some", .glo "whole", .glo "rest", .glo "_law_part", .glo "_law_sheet", .glo "_law_ones_right", .glo "_law_numbers_right", .glo "law", .free "len", .free "range", .free "sorted", .free "set"]
def fa1 : List He.Fa := [.free "tuple", .free "list", .free "dict", .free "zip", .free "enumerate", .free "all", .free "any", .free "sum", .free "min", .free "max", .free "isinstance", .free "str", .free "int", .free "repr", .free "bool", .glo "NoName", .exc "NoName", .int "ROOF" 1000000000000000000000000000000]
def fa : List He.Fa := fa0 ++ fa1
def nm0 : List PySem.Str := ["ROOF", "unit", "join", "gather", "is_whole", "fillings_of", "SumError", "NoName", "are_names", "need_names", "place_of", "worth_at", "joined_at", "all_fillings", "whole", "rest", "_law_jar", "_law_prime", "_law_dip", "_law_fillings", "_law_times", "_law_look", "_law_word", "_law_number", "_law_sizes", "_law_some", "_law_part", "_law_sheet", "_law_turned", "_law_ones_right"]
def nm1 : List PySem.Str := ["_law_numbers_right"]
def nm : List PySem.Str := nm0 ++ nm1
abbrev R : PySem.W.OpenRow := PySem.W.OpenLaw.row PySem.Challenge.rw_sumorder_k22_whole_words_beside_words
def ex : PySem.W.Frag → Bool := fun _ => true
abbrev pN : He.Defn := ("_law_numbers_right", none)
abbrev hk : PySem.W.Hook := He.hookX 4 fa fn [] [pN] ex
def ob (s : PySem.W.SharedT) : He.AlX := He.obsX 4 fa fn [] [pN] ex (HandSHeadRun.getT s)
theorem obE (s : PySem.W.SharedT) : ob s = hk.obs s.abs := He.obsX_eq (HandSHeadRun.getT_eq s)
theorem topRun (w : World) : HandSHeadRun.RunEq R (PySem.W.view R.prog [36]) hk ob 8000 nm w := by
  intro os; kernel_rfl
section
open PySem PySem.W PySem.Calls PyProof.Rows HandSHeadRun
theorem hold2 (call : WalkO (view (OpenLaw.row PySem.Challenge.rw_sumorder_k22_whole_words_beside_words).prog [36]) nm (XL (view (OpenLaw.row PySem.Challenge.rw_sumorder_k22_whole_words_beside_words).prog [36]) []) hk.says (OpenLaw.row PySem.Challenge.rw_sumorder_k22_whole_words_beside_words).toRowW (HandSHeadRun.topDef (OpenLaw.row PySem.Challenge.rw_sumorder_k22_whole_words_beside_words).prog 36) [] fun f vs => PySem.call f vs) : PySem.Challenge.rw_sumorder_k22_whole_words_beside_words.Holds := by
  w_on
  refine LS.S22.hold_of fun said => ?_
  refine HandSHeadRun.head_any (r := (OpenLaw.row PySem.Challenge.rw_sumorder_k22_whole_words_beside_words)) (q := view (OpenLaw.row PySem.Challenge.rw_sumorder_k22_whole_words_beside_words).prog [36]) (H := hk) (ob := ob) (M := 8000) (loose := nm) (d := HandSHeadRun.topDef (OpenLaw.row PySem.Challenge.rw_sumorder_k22_whole_words_beside_words).prog 36) (kwd := []) obE
    (by kernel_rfl) (fun s => by kernel_rfl) topRun (by kernel_rfl) (by kernel_rfl) (by kernel_rfl) (by rfl) (by first | assumption | decide +kernel) (by decide +kernel) ⟨rfl, rfl, rfl, rfl, rfl, by decide +kernel⟩ ?hw call
  case hw => w_witness2
theorem nameE : (HandSHeadRun.topDef (OpenLaw.row PySem.Challenge.rw_sumorder_k22_whole_words_beside_words).prog 36).name = ("law" : PySem.Str) := by kernel_rfl
end
section
open PySem PySem.W PySem.Calls PyProof.Rows HandSHeadRun L2 HD
theorem hold3 (F : ∀ (w : World) (mg : Str → Option Value) (f : Addr) (h : Heap), hk.says w h → h.Ns mainGlobals mg → mg ("law" : PySem.Str) = some (.ref f) →
      ∃ (K : PySem.W.Frag) (fd : FuncData) (sp : Sp) (c T : Addr), K.In h ∧ (∀ (s : Shared) (v : Value), BindsTo s fd ⟨[v], []⟩ [(("script" : PySem.Str), v)]) ∧
        h.get? T = some { cls := .none, data := .fields #[] } ∧ K.lookup T = none ∧ PySem.W.CodeHd h c T ∧
        (∀ (H : Hp) (a : Addr) (ns : List Int), ns.length ≤ 63 → H T = some (.tbl #[]) → SqL K H a (ns.map V.int) → sp [.ref a] H (fun v _ => v = .bl true) fun _ _ _ => False) ∧
        ∀ base : Heap, K.In base → base.Ns mainGlobals mg → LamX.TabB base mg c T → FnG PySem.Challenge.rw_sumorder_k22_whole_words_beside_words.prog w K mg base (L2.CX PySem.Challenge.pw_sumorder_k22_whole_words_beside_words w) 6 f fd [("script" : PySem.Str)] sp) :
    PySem.Challenge.rw_sumorder_k22_whole_words_beside_words.Holds := by
  refine hold2 ?_
  refine HD.walkP (l := PySem.Challenge.rw_sumorder_k22_whole_words_beside_words) (n := 63) (k := 6) (x := "script") (CX := fun w => L2.CX PySem.Challenge.pw_sumorder_k22_whole_words_beside_words w) rfl (by decide) (by kernel_rfl) ⟨rfl, by decide, by decide⟩ ?F (fun w H s e s' z => HD.cx_no H s e s' z)
  intro w mg f h Y N hm
  exact F w mg f h Y N (by rw [← nameE]; exact hm)
end
end LS.K22.E
namespace HD
open PySem L2
section
variable {g : DTG} {tt : DTT} {te : DT} {vs : List Nat} {keep : Env' → Prop} {Q : Sl → Env' → Prop} {env : Env'} {α : Type}
theorem lc_fm (i : α → D) (f : α → Option D) (hk : keep env) (xs : List α) : ∀ acc : List D, acc.length + xs.length ≤ sizeLine →
    (∀ x ∈ xs, ∀ R : Option D → Env' → Prop, R (f x) env → g (i x) env fun env1 => tt noX env1 fun b env2 => if b = true then te noX env2 fun y env3 => frzD env3 y fun d' env4 => R (some d') (wipeE env4 vs) else R none (wipeE env2 vs)) →
    (∀ a, Q (.lst a (acc ++ xs.filterMap f)) env) → lcD g tt te vs keep Q (xs.map i) acc env := by
  induction xs with
  | nil => intro acc _ _ hQ; exact ⟨hk, fun a => by simpa using hQ a⟩
  | cons x xs ih =>
    intro acc hl h hQ
    rw [List.length_cons] at hl
    rw [List.map_cons, lcD]
    refine ⟨hk, by omega, h x List.mem_cons_self (fun o env' => match o with
      | some d' => lcD g tt te vs keep Q (xs.map i) (acc ++ [d']) env'
      | none => lcD g tt te vs keep Q (xs.map i) acc env') ?_⟩
    cases e : f x with
    | none =>
      refine ih acc (by omega) (fun y hy => h y (List.mem_cons_of_mem _ hy)) fun a => ?_
      have := hQ a
      rw [List.filterMap_cons_none e] at this
      exact this
    | some d =>
      refine ih (acc ++ [d]) (by rw [List.length_append, List.length_singleton]; omega) (fun y hy => h y (List.mem_cons_of_mem _ hy)) fun a => ?_
      have := hQ a
      rw [List.filterMap_cons_some e] at this
      rw [List.append_assoc]
      exact this
theorem lc_map (i f : α → D) (hk : keep env) (xs : List α) (hl : xs.length ≤ sizeLine)
    (h : ∀ x ∈ xs, ∀ R : D → Env' → Prop, R (f x) env → g (i x) env fun env1 => te noX env1 fun y env3 => frzD env3 y fun d' env4 => R d' (wipeE env4 vs))
    (hQ : ∀ a, Q (.lst a (xs.map f)) env) : lcD g dYes te vs keep Q (xs.map i) [] env := by
  refine lc_fm i (fun x => some (f x)) hk xs [] (by simpa using hl) (fun x hx R hR => ?_) (fun a => by simpa [List.filterMap_eq_map] using hQ a)
  have := h x hx (fun d e => R (some d) e) hR
  simp only [dYes, if_true]
  exact this
theorem lc_ind (i : α → D) (P : List α → List D → Env' → Prop) (hnil : ∀ acc env, P [] acc env → keep env ∧ ∀ a, Q (.lst a acc) env)
    (hcons : ∀ x xs acc env (N : List D → Env' → Prop), P (x :: xs) acc env → (∀ acc' env', P xs acc' env' → N acc' env') → keep env ∧ acc.length < sizeLine ∧ g (i x) env fun env1 => tt noX env1 fun b env2 => if b = true then te noX env2 fun y env3 => frzD env3 y fun d' env4 => N (acc ++ [d']) (wipeE env4 vs) else N acc (wipeE env2 vs)) :
    ∀ (xs : List α) (acc : List D) (env : Env'), P xs acc env → lcD g tt te vs keep Q (xs.map i) acc env := by
  intro xs
  induction xs with
  | nil => intro acc env h; exact hnil acc env h
  | cons x xs ih =>
    intro acc env h
    rw [List.map_cons, lcD]
    exact hcons x xs acc env (fun acc' env' => lcD g tt te vs keep Q (xs.map i) acc' env') h fun acc' env' h' => ih acc' env' h'
end
section
variable {g : DTG} {body : DTS} {keep : Env' → Prop} {Ex : DX} {E : DEnds} {α : Type}
theorem for_ind (i : α → D) (P : List α → Env' → Prop) (hnil : ∀ env, P [] env → keep env ∧ E.nx env)
    (hcons : ∀ x xs env (N : Env' → Prop), P (x :: xs) env → (∀ env', P xs env' → N env') → keep env ∧ g (i x) env fun env1 => body Ex { E with nx := N, ct := N, bk := E.nx } env1) :
    ∀ (xs : List α) (env : Env'), P xs env → forD g body keep Ex E (xs.map i) env := by
  intro xs
  induction xs with
  | nil => intro env h; exact hnil env h
  | cons x xs ih =>
    intro env h
    rw [List.map_cons, forD]
    exact hcons x xs env _ h fun env' h' => ih env' h'
end
theorem dCallV_w (FT : FTab) (i : Nat) (ta : DTA) (Ex : DX) (env : Env') (Q : Sl → Env' → Prop) : dCallV FT i ta Ex env Q = AtS env[i]? (fun d => match d with | .glo nm => ∃ n spec, FT nm = some (n, spec) ∧ dCall spec ta Ex env Q | _ => False) (fun _ _ => False) .mk .mk := by
  unfold dCallV AtS
  rcases env[i]? with _ | (_ | d | _ | _ | _) <;> try rfl
  cases d <;> rfl
end HD
namespace HD
open PySem PySem.Spec PyProof.Rows L2
section
variable {G : GG} {N : List Str} {sc : SC} {k : Nat} {a : Expr} {ta : DT} {p p2 pos pos2 : Pos}
def dSortSetL (t : DT) : DT := fun Ex env Q => t Ex env fun x env1 => wd env1 x fun d => match d with
  | .lst ds => ∃ ns : List Int, ds = ns.map D.int ∧ ns.length < 64 ∧ ∀ (ns' : List Int) (b : Addr), ns'.Pairwise (· < ·) → (∀ n : Int, n ∈ ns' ↔ n ∈ ns) → Q (.lst b (ns'.map D.int)) env1
  | _ => False
theorem de_gint {x : Str} {i : Int} {pos : Pos} (h : ∃ t, G.mg x = some (.int i t)) (hg : GlS sc x := by rfl) (hd : (x == ("__debug__" : Str)) = false := by decide) : DE G N sc k (.Name x pos) (dC (.int i)) := by
  obtain ⟨t, h⟩ := h
  exact de_glob (v := .int i) hg h ⟨t, rfl⟩ (fun _ => rfl) hd
end
def FzS (o : Option Sl) (k : List D → Prop) (z : Prop) (_ : Tok k) (_ : Tok z) : Prop := match o with
  | some (.lst _ ds) => k ds
  | _ => z
theorem FzS_lst (a : Addr) (ds : List D) (k : List D → Prop) (z : Prop) (t : Tok k) (u : Tok z) : FzS (some (.lst a ds)) k z t u = k ds := rfl
theorem FzS_ext (d : D) (k : List D → Prop) (z : Prop) (t : Tok k) (u : Tok z) : FzS (some (.ext d)) k z t u = z := rfl
theorem sFz_w (i : Nat) (t : DTS) (Ex : DX) (E : DEnds) (env : Env') : sFz i t Ex E env = FzS env[i]? (fun ds => t Ex E (env.set i (.ext (.lst ds)))) (t Ex E env) .mk .mk := by
  unfold sFz FzS
  rcases env[i]? with _ | (_ | _ | _ | _ | _) <;> rfl
def fAbs : List D → (Sl → Prop) → Prop
  | [.int i], Q => Q (.ext (.int (if i < 0 then -i else i)))
  | _, _ => False
def fInt : List D → (Sl → Prop) → Prop
  | [.int i], Q => Q (.ext (.int i))
  | [.bl b], Q => Q (.ext (.int (if b then 1 else 0)))
  | _, _ => False
theorem t_int : TR "int" fInt := ⟨fun _ _ _ => fun xs H Q => (∃ i, xs = [.int i] ∧ Q (.int i) H) ∨ ∃ k, xs = [.bl k] ∧ Q (.int (if k then 1 else 0)) H, fun _ _ K F H vs ds Q R fh hr hf ha => by
    unfold fInt at hf
    split at hf
    · obtain ⟨v, rfl, r⟩ := hr.one
      exact .inl ⟨_, by rw [r.int], ha.int fh hf⟩
    · obtain ⟨v, rfl, r⟩ := hr.one
      exact .inr ⟨_, by rw [r.bl], ha.int fh hf⟩
    · exact hf.elim, fun X _ _ => call_int1⟩
end HD
namespace HD
open PySem PyProof.Rows L2
structure D.sh (d : D) : Prop where
  nv : d.noVal = true
  ok : d.py.showable = true
  nd : d.py.hasDict = false
  dp : d.py.depth ≤ 60
  len : d.py.shown.length ≤ sizeLine
def fRepr : List D → (Sl → Prop) → Prop
  | [d], Q => d.sh ∧ Q (.ext (.str d.py.shown))
  | _, _ => False
def fLtT : D → D → (Sl → Prop) → Prop
  | .tup xs, .tup ys, Q => ∃ ns ms : List Int, xs = ns.map D.int ∧ ys = ms.map D.int ∧ Q (.ext (.bl (HT.lexLt ns ms)))
  | _, _, _ => False
end HD
namespace PM
def sz (S : List Nat) (n : Nat) : Nat := S.getD n 0
def prodN : List Nat → Nat
  | [] => 1
  | x :: xs => x * prodN xs
def psz (S : List Nat) (ns : List Nat) : Nat := prodN (ns.map (sz S))
def fills (S : List Nat) : List Nat → List (List Nat)
  | [] => [[]]
  | n :: ns => (List.range (sz S n)).flatMap fun w => (fills S ns).map (w :: ·)
def pl (S : List Nat) : Nat → List Nat → List Nat → Nat
  | acc, n :: ns, w :: ws => pl S (acc * sz S n + w) ns ws
  | acc, _, _ => acc
def Good (S : List Nat) : List Nat → List Nat → Prop
  | [], ws => ws = []
  | n :: ns, ws => ∃ w r, ws = w :: r ∧ w < sz S n ∧ Good S ns r
theorem Good.len {S : List Nat} {ns ws : List Nat} (h : Good S ns ws) : ws.length = ns.length := by
  induction ns generalizing ws with
  | nil => rw [show ws = [] from h]
  | cons n ns ih => obtain ⟨w, r, rfl, _, h2⟩ := h; simp [ih h2]
theorem pl_acc {S : List Nat} {ns ws : List Nat} (h : ws.length = ns.length) (acc : Nat) : pl S acc ns ws = acc * psz S ns + pl S 0 ns ws := by
  induction ns generalizing ws acc with
  | nil => simp [pl, psz, prodN]
  | cons n ns ih =>
    cases ws with
    | nil => simp at h
    | cons w ws =>
      have hl : ws.length = ns.length := by simpa using h
      have e : psz S (n :: ns) = sz S n * psz S ns := rfl
      rw [pl, pl, ih hl (acc * sz S n + w), ih hl (0 * sz S n + w), e, Nat.add_mul, Nat.zero_mul, Nat.zero_add, Nat.mul_assoc, Nat.add_assoc]
theorem mem_fills {S : List Nat} {ns f : List Nat} : f ∈ fills S ns ↔ Good S ns f := by
  induction ns generalizing f with
  | nil => simp [fills, Good]
  | cons n ns ih =>
    simp only [fills, List.mem_flatMap, List.mem_range, List.mem_map, Good]
    constructor
    · rintro ⟨w, hw, r, hr, rfl⟩
      exact ⟨w, r, rfl, hw, ih.1 hr⟩
    · rintro ⟨w, r, rfl, hw, hr⟩
      exact ⟨w, hw, r, ih.2 hr, rfl⟩
theorem range_blocks (P m : Nat) : ((List.range m).flatMap fun w => (List.range P).map fun i => w * P + i) = List.range (m * P) := by
  induction m with
  | zero => simp
  | succ m ih =>
    rw [List.range_succ, List.flatMap_append, ih, Nat.succ_mul, List.range_add]
    simp
theorem fills_pl (S ns : List Nat) : (fills S ns).map (pl S 0 ns) = List.range (psz S ns) := by
  induction ns with
  | nil => simp [fills, pl, psz, prodN]
  | cons n ns ih =>
    have e : psz S (n :: ns) = sz S n * psz S ns := rfl
    rw [e, fills, List.map_flatMap, ← range_blocks (psz S ns) (sz S n), ← ih]
    congr 1
    funext w
    rw [List.map_map, List.map_map]
    refine List.map_congr_left fun f hf => ?_
    have hl := (mem_fills.1 hf).len
    show pl S (0 * sz S n + w) ns f = w * psz S ns + pl S 0 ns f
    rw [pl_acc hl, Nat.zero_mul, Nat.zero_add]
theorem len_fills (S ns : List Nat) : (fills S ns).length = psz S ns := by
  have h := congrArg List.length (fills_pl S ns)
  simpa using h
theorem fills_at {S ns f : List Nat} {i : Nat} (h : (fills S ns)[i]? = some f) : pl S 0 ns f = i := by
  have e := fills_pl S ns
  have h1 : ((fills S ns).map (pl S 0 ns))[i]? = some (pl S 0 ns f) := by rw [List.getElem?_map, h]; rfl
  rw [e] at h1
  have := List.getElem?_eq_some_iff.1 h1
  obtain ⟨h2, h3⟩ := this
  rw [List.getElem_range] at h3
  exact h3.symm
theorem fills_get {S ns f : List Nat} (h : Good S ns f) : (fills S ns)[pl S 0 ns f]? = some f := by
  obtain ⟨i, hi, e⟩ := List.getElem_of_mem (mem_fills.2 h)
  have h1 : (fills S ns)[i]? = some f := by rw [List.getElem?_eq_getElem hi, e]
  rw [fills_at h1, h1]
theorem pl_lt {S ns f : List Nat} (h : Good S ns f) : pl S 0 ns f < psz S ns := by
  have := fills_get h
  rw [← len_fills]
  exact (List.getElem?_eq_some_iff.1 this).1
theorem good_map {S ns : List Nat} {g : Nat → Nat} (h : ∀ n ∈ ns, g n < sz S n) : Good S ns (ns.map g) := by
  induction ns with
  | nil => rfl
  | cons n ns ih => exact ⟨g n, ns.map g, rfl, h n List.mem_cons_self, ih fun m hm => h m (List.mem_cons_of_mem _ hm)⟩
def ats (ns f : List Nat) : Nat → Nat := fun n => f.getD (ns.idxOf n) 0
theorem ats_lt {S ns f : List Nat} (h : Good S ns f) {n : Nat} (hn : n ∈ ns) : ats ns f n < sz S n := by
  induction ns generalizing f with
  | nil => cases hn
  | cons m ns ih =>
    obtain ⟨w, r, rfl, h1, h2⟩ := h
    by_cases e : n = m
    · subst e; simpa [ats] using h1
    · have hn' : n ∈ ns := by
        rcases List.mem_cons.1 hn with h | h
        · exact absurd h e
        · exact h
      have := ih h2 hn'
      have b : (m == n) = false := by simp [Ne.symm e]
      simpa [ats, List.idxOf_cons, b] using this
structure Part where
  ns : List Nat
  ws : List Int
def Rising (l : List Nat) : Prop := l.Pairwise (· < ·)
theorem Rising.nd {l : List Nat} (h : Rising l) : l.Nodup := List.Pairwise.imp (fun h => Nat.ne_of_lt h) h
theorem rising_ext {a b : List Nat} (ha : Rising a) (hb : Rising b) (h : ∀ n, n ∈ a ↔ n ∈ b) : a = b := by
  induction a generalizing b with
  | nil =>
    cases b with
    | nil => rfl
    | cons y b => exact absurd ((h y).2 List.mem_cons_self) (by simp)
  | cons x a ih =>
    cases b with
    | nil => exact absurd ((h x).1 List.mem_cons_self) (by simp)
    | cons y b =>
      have ha' := List.pairwise_cons.1 ha
      have hb' := List.pairwise_cons.1 hb
      have e : x = y := by
        rcases List.mem_cons.1 ((h x).1 List.mem_cons_self) with e | e
        · exact e
        · rcases List.mem_cons.1 ((h y).2 List.mem_cons_self) with e' | e'
          · exact e'.symm
          · have h1 := hb'.1 x e
            have h2 := ha'.1 y e'
            omega
      subst e
      rw [ih ha'.2 hb'.2 fun n => ?_]
      constructor
      · intro hn
        rcases List.mem_cons.1 ((h n).1 (List.mem_cons_of_mem _ hn)) with e | e
        · have := ha'.1 n hn; omega
        · exact e
      · intro hn
        rcases List.mem_cons.1 ((h n).2 (List.mem_cons_of_mem _ hn)) with e | e
        · have := hb'.1 n hn; omega
        · exact e
structure Part.Ok (S : List Nat) (p : Part) : Prop where
  rise : Rising p.ns
  lt : ∀ n ∈ p.ns, n < S.length
  len : p.ws.length = psz S p.ns
def val (S : List Nat) (p : Part) (g : Nat → Nat) : Int := p.ws.getD (pl S 0 p.ns (p.ns.map g)) 0
def Fit (S : List Nat) (ns : List Nat) (g : Nat → Nat) : Prop := ∀ n ∈ ns, g n < sz S n
def mkP (S : List Nat) (ns : List Nat) (F : (Nat → Nat) → Int) : Part := ⟨ns, (fills S ns).map fun f => F (ats ns f)⟩
theorem val_mem {S : List Nat} {p : Part} (hp : p.Ok S) {g : Nat → Nat} (hg : Fit S p.ns g) : val S p g ∈ p.ws := by
  unfold val
  have h := pl_lt (good_map hg)
  rw [← hp.len] at h
  rw [List.getD_eq_getElem?_getD, List.getElem?_eq_getElem h]
  exact List.getElem_mem h
theorem val_at {S : List Nat} {p : Part} (hp : p.Ok S) {g : Nat → Nat} (hg : Fit S p.ns g) : p.ws[pl S 0 p.ns (p.ns.map g)]? = some (val S p g) := by
  unfold val
  have h := pl_lt (good_map hg)
  rw [← hp.len] at h
  rw [List.getD_eq_getElem?_getD, List.getElem?_eq_getElem h]
  rfl
end PM
namespace LS
open PySem L2 HD PM
local macro_rules | `(tactic| trivial) => `(tactic| try simp -dsimp only [↓sSeq, ↓sIf, ↓sRet, ↓retD_ext, ↓retD_lst, ↓retD_al, ↓sSet, ↓sSetE, ↓sAsg, ↓sDrop, ↓sNext, ↓sFor, ↓sRetN, ↓sCont, ↓sBreak, ↓dTest, ↓dOp, ↓dVar_w, ↓dC, ↓dCons, ↓dNil, ↓dTup, ↓dLst, ↓frzDs, ↓frzD_ext, ↓frzD_lst, ↓frzD_al, ↓wd_ext, ↓wd_lst, ↓wd_al, ↓wds, ↓AtS_ext, ↓AtS_lst, ↓AtL, ↓fAdd, ↓fSub, ↓fMul, ↓fDiv, ↓fMod, ↓fPow, ↓fCmp, ↓fIn, ↓fEq_ii, ↓fEq_ss, ↓fEq_bb, ↓fEq_tt, ↓fEq_ll, ↓fNe_ii, ↓fNe_ss, ↓fNe_bb, ↓fNe_tt, ↓fNe_ll, ↓fIx_l, ↓fIx_t, ↓fIx_k, ↓fIx_f, ↓GetS_some, ↓NatS_some, ↓fSl, ↓fIsN, ↓fNotN, ↓D.knN, ↓dNot, ↓dAnd, ↓dOr, ↓dAndV_w, ↓dOrV_w, ↓dNotV, ↓dIf, ↓dNeg, ↓dChain_w, ↓BlS_bl, ↓dCall_w, ↓dCallJ_w, ↓anyAl, ↓frozs, ↓froz, ↓gSet, ↓gTupD, ↓gsCons, ↓gsNil, ↓dSeq, ↓seqD_tup, ↓seqD_elst, ↓seqD_lst, ↓seqD_al, ↓dRange1, ↓dRange2, ↓dZip, ↓dCB, ↓dLc, ↓dYes, ↓dNoPart, ↓dPart, ↓dSl, ↓fLen, ↓fMin, ↓fMax, ↓fSum, ↓fAll, ↓fAny, ↓fSorted, ↓fTuple, ↓fList, ↓dRg1, ↓dRg2, ↓dLstRg, ↓dTupRg, ↓dIndex, ↓fIdx, ↓dAppend_w, ↓dExtend_w, ↓extD_lst, ↓dPopAt_w, ↓popD_int, ↓dPop_w, ↓mutD_w, ↓sSetItem_w, ↓setD_int, ↓dSortSet, ↓dTable_w, ↓wipeE, finals1, finals2, finals3, finals4, finals5, finals6, fin1_ext, fin1_lst, List.getElem?_cons_zero, List.getElem?_cons_succ, List.getElem?_nil, List.set_cons_zero, List.set_cons_succ, List.cons_append, List.nil_append, List.append_nil, List.replicate_succ, List.replicate_zero, List.map_cons, List.map_nil, List.length_cons, List.length_nil, true_and, and_true, ite_true, ite_false, if_true, if_false, Bool.false_eq_true, decide_eq_true_eq, Sl.plain, D.isSq, eq_self_iff_true, forall_const, reduceIte, true_or, or_true, atI_0, atI_1, atI_2, atI_3, ixN_0, ixN_1, ixN_2, AtS_ext, AtS_lst, FzS_lst, FzS_ext, GetS_some, NatS_some, ↓fIsi1, ↓fIsi2, BoolS_some, HD.kb_non_tuple, HD.kb_non_list, HD.kb_non_bool, HD.kb_non_int, HD.kb_non_str, HD.kb_bl_tuple, HD.kb_bl_list, HD.kb_bl_bool, HD.kb_bl_int, HD.kb_bl_str, HD.kb_int_tuple, HD.kb_int_list, HD.kb_int_bool, HD.kb_int_int, HD.kb_int_str, HD.kb_str_tuple, HD.kb_str_list, HD.kb_str_bool, HD.kb_str_int, HD.kb_str_str, HD.kb_lst_tuple, HD.kb_lst_list, HD.kb_lst_bool, HD.kb_lst_int, HD.kb_lst_str, HD.kb_tup_tuple, HD.kb_tup_list, HD.kb_tup_bool, HD.kb_tup_int, HD.kb_tup_str, ↓sFz_w, ↓FzS_lst, ↓FzS_ext, ↓dSortSetL, ↓fAbs, ↓fInt, ↓fRepr, ↓fLtT, ↓sRaise, ↓sTryKeep, ↓dCallV_w, ↓dMeth, ↓fCount, ↓fSplit])
inductive Wd where
  | sum | most | least | wide | any
  deriving DecidableEq
def Wd.s : Wd → Str
  | .sum => Str.ofString "sum"
  | .most => Str.ofString "most"
  | .least => Str.ofString "least"
  | .wide => Str.ofString "wide"
  | .any => Str.ofString "any"
def jn : Wd → Int → Int → Int
  | .sum, a, b => a * b
  | .most, a, b => a + b
  | .least, a, b => a + b
  | .wide, a, b => if b < a then b else a
  | .any, a, b => if b < a then b else a
theorem w_sum (w : Wd) : (w.s == Str.ofString "sum") = decide (w = .sum) := by cases w <;> decide +kernel
theorem w_least (w : Wd) : (w.s == Str.ofString "least") = decide (w = .least) := by cases w <;> decide +kernel
theorem w_wide (w : Wd) : (w.s == Str.ofString "wide") = decide (w = .wide) := by cases w <;> decide +kernel
theorem w_any (w : Wd) : (w.s == Str.ofString "any") = decide (w = .any) := by cases w <;> decide +kernel
theorem w_in_ml (w : Wd) : (D.str w.s).isIn [.str (Str.ofString "most"), .str (Str.ofString "least")] = decide (w = .most ∨ w = .least) := by cases w <;> decide +kernel
theorem flat_ml : [D.str (Str.ofString "most"), D.str (Str.ofString "least")].all D.flat = true := rfl
abbrev dW (w : Wd) : Sl := .ext (.str w.s)
abbrev dI (i : Int) : Sl := .ext (.int i)
def sp_join : DSpec := fun args Q _ => ∃ w i j, args = [dW w, dI i, dI j] ∧ CMulW i j ∧ ∀ fin, Q (dI (jn w i j)) fin
def t_join : DTS :=
    (sSeq (sIf (dTest (dOp fEq (dVar 0) (dC (.str (Str.ofString "sum"))))) (sRet (dOp fMul (dVar 1) (dVar 2))) sNext)
    (sSeq (sIf (dTest (dOp (fIn false) (dVar 0) (dTup (dCons (dC (.str (Str.ofString "most"))) (dCons (dC (.str (Str.ofString "least"))) dNil))))) (sRet (dOp fAdd (dVar 1) (dVar 2))) sNext)
    (sRet (dCB fMin (dCons (dVar 1) (dCons (dVar 2) dNil))))))
theorem m_join : Meets t_join 3 0 sp_join := by
  rintro args Qd Xd ⟨w, i, j, rfl, hc, hQ⟩
  show t_join _ _ [_, _, _]
  unfold t_join
  trivial
  simp only [w_sum, w_in_ml, flat_ml, D.flat, decide_eq_true_eq, true_and]
  cases w <;> simp only [reduceCtorEq, if_true, if_false, or_true, true_or, or_false, and_true] <;> first | exact ⟨hc, hQ _⟩ | exact ⟨by decide, hQ _⟩
def unitW (w : Wd) : Int := match w with | .sum => 1 | .any => 1 | .most => 0 | .least => 0 | .wide => 10 ^ 30
def sp_law_nothing : DSpec := fun args Q _ => ∃ w : Wd, args = [dW w] ∧ ∀ fin, Q (dI (unitW w)) fin
def JarOk (n : Nat) (ds : List D) : Prop := ∃ (cells : List Int) (at' left : Int), ds = [.lst (iD cells), .int at', .int left] ∧ 0 ≤ at' ∧ at' ≤ n
theorem JarOk.up {n m : Nat} {ds : List D} (h : JarOk n ds) (hm : n ≤ m) : JarOk m ds := by
  obtain ⟨c, a, l, e, h1, h2⟩ := h
  exact ⟨c, a, l, e, h1, by omega⟩
theorem cut_iD (ns : List Int) (lo hi : Option Int) : cutD (iD ns) lo hi = iD ((ns.drop (HT.sIx ns.length 0 lo)).take (HT.sIx ns.length ns.length hi - HT.sIx ns.length 0 lo)) := by
  simp [cutD, List.map_take, List.map_drop]
def sp_law_jar : DSpec := fun args Q _ => ∃ ns : List Int, args = [.ext (.fz (iD ns))] ∧ ns.length ≤ 63 ∧ ∀ a ds fin, JarOk 0 ds → Q (.lst a ds) fin
def t_law_jar : DTS :=
    (sRet (dLst (dCons (dCB fList (dCons (dSl (dVar 0) dNoPart (dPart (dC (.int 63)))) dNil)) (dCons (dC (.int 0)) (dCons (dC (.int 0)) dNil)))))
theorem m_law_jar : Meets t_law_jar 1 0 sp_law_jar := by
  rintro args Qd Xd ⟨ns, rfl, hl, hQ⟩
  show t_law_jar _ _ [_]
  unfold t_law_jar
  trivial
  rw [cut_iD]
  exact ⟨by decide, fun a => hQ _ _ _ ⟨_, 0, 0, rfl, by omega, by omega⟩⟩
def sp_law_prime : DSpec := fun args Q _ => ∃ i : Int, args = [dI i] ∧ 0 ≤ i ∧ ∀ (r : Int) fin, 2147483423 ≤ r → r ≤ 2147483647 → Q (dI r) fin
def t_law_prime : DTS :=
    (sSeq (sSetE 1 (dLst (dCons (dC (.int 2147483647)) (dCons (dC (.int 2147483629)) (dCons (dC (.int 2147483587)) (dCons (dC (.int 2147483579)) (dCons (dC (.int 2147483563)) (dCons (dC (.int 2147483549)) (dCons (dC (.int 2147483543)) (dCons (dC (.int 2147483497)) dNil))))))))))
    (sRet (dOp fIx (dOp fAdd (dVar 1) (dLst (dCons (dC (.int 2147483489)) (dCons (dC (.int 2147483477)) (dCons (dC (.int 2147483423)) dNil))))) (dOp fMod (dVar 0) (dC (.int 11))))))
theorem m_law_prime : Meets t_law_prime 1 1 sp_law_prime := by
  rintro args Qd Xd ⟨i, rfl, hi, hQ⟩
  show t_law_prime _ _ [_, _]
  unfold t_law_prime
  trivial
  refine ⟨by decide, by decide, by decide, by decide, ?_⟩
  have h : i % 11 = 0 ∨ i % 11 = 1 ∨ i % 11 = 2 ∨ i % 11 = 3 ∨ i % 11 = 4 ∨ i % 11 = 5 ∨ i % 11 = 6 ∨ i % 11 = 7 ∨ i % 11 = 8 ∨ i % 11 = 9 ∨ i % 11 = 10 := by omega
  rcases h with h | h | h | h | h | h | h | h | h | h | h <;> rw [h] <;> exact ⟨_, rfl, hQ _ _ (by decide) (by decide)⟩
def sp_law_dip : DSpec := fun args Q _ => ∃ (n : Nat) (a : Addr) (ds : List D) (m : Int), args = [.lst a ds, dI m] ∧ JarOk n ds ∧ n < 4294967296 ∧ 0 < m ∧ m < 18446744073709551616 ∧
  ∀ (r : Int) ds' fin, 0 ≤ r → r < m → JarOk (n + 1) ds' → Q (dI r) (.lst a ds' :: fin)
def i1_law_dip : DTS :=
    (sSeq (sSetE 4 (dOp fMod (dOp fPow (dOp fAdd (dOp fAdd (dOp fMul (dOp fMod (dVar 3) (dC (.int 1000000007))) (dOp fAdd (dVar 2) (dC (.int 1)))) (dOp fMul (dC (.int 104729)) (dVar 2))) (dC (.int 17))) (dC (.int 3))) (dCall sp_law_prime (dCons (dVar 2) dNil))))
    (sSeq (sSetE 5 (dOp fMod (dOp fPow (dOp fAdd (dOp fAdd (dOp fMul (dVar 4) (dOp fAdd (dVar 2) (dC (.int 5)))) (dOp fMod (dVar 3) (dC (.int 65537)))) (dC (.int 1))) (dC (.int 5))) (dCall sp_law_prime (dCons (dOp fAdd (dVar 2) (dC (.int 3))) dNil))))
    (sSeq (sSetE 6 (dOp fMod (dOp fAdd (dOp fMul (dVar 5) (dVar 5)) (dVar 4)) (dCall sp_law_prime (dCons (dOp fAdd (dVar 2) (dC (.int 7))) dNil))))
    (sSetItem 0 (dC (.int 2)) (dOp fAdd (dOp fMul (dOp fAdd (dOp fMul (dVar 6) (dC (.int 2147483647))) (dVar 5)) (dC (.int 2147483629))) (dVar 4))))))
def k2_law_dip : DTS :=
    (sSeq (sSetItem 0 (dC (.int 2)) (dVar 3))
    (sIf (dOr (dTest (dOp (fCmp fun i j => decide (i < j)) (dVar 3) (dOp fPow (dC (.int 10)) (dC (.int 18))))) (dTest (dOp (fCmp fun i j => decide (j ≤ i)) (dVar 2) (dCB fLen (dCons (dOp fIx (dVar 0) (dC (.int 0))) dNil))))) i1_law_dip sNext))
def i3_law_dip : DTS :=
    (sSeq (sSetE 2 (dOp fIx (dVar 0) (dC (.int 1))))
    (sSeq (sSetItem 0 (dC (.int 1)) (dOp fAdd (dVar 2) (dC (.int 1))))
    (sSeq (sSetE 3 (dOp fAdd (dOp fMul (dC (.int 31)) (dVar 2)) (dC (.int 7))))
    (sSeq (sIf (dTest (dOp (fCmp fun i j => decide (j < i)) (dCB fLen (dCons (dOp fIx (dVar 0) (dC (.int 0))) dNil)) (dC (.int 0)))) (sSetE 3 (dOp fIx (dOp fIx (dVar 0) (dC (.int 0))) (dOp fMod (dVar 2) (dCB fLen (dCons (dOp fIx (dVar 0) (dC (.int 0))) dNil))))) sNext)
    k2_law_dip))))
def k4_law_dip : DTS :=
    (sSeq (sSetE 7 (dOp fMod (dOp fIx (dVar 0) (dC (.int 2))) (dVar 1)))
    (sSeq (sSetItem 0 (dC (.int 2)) (dOp fDiv (dOp fIx (dVar 0) (dC (.int 2))) (dVar 1)))
    (sRet (dVar 7))))
def t_law_dip : DTS :=
    (sSeq (sIf (dTest (dOp (fCmp fun i j => decide (i < j)) (dOp fIx (dVar 0) (dC (.int 2))) (dVar 1))) i3_law_dip sNext)
    k4_law_dip)
theorem q4_law_dip {Ex : DX} {E : DEnds} {n : Nat} {a : Addr} {m : Int} {cells : List Int} {at' left : Int} {s2 s3 s4 s5 s6 s7 : Sl} (h0 : 0 ≤ at') (h1 : at' ≤ (n : Int) + 1) (hm0 : 0 < m) (hm1 : m < 18446744073709551616)
    (hE : ∀ r ds' env, 0 ≤ r → r < m → JarOk (n + 1) ds' → E.rt (dI r) (.lst a ds' :: env)) : k4_law_dip Ex E [.lst a [.lst (iD cells), .int at', .int left], dI m, s2, s3, s4, s5, s6, s7] := by
  unfold k4_law_dip
  trivial
  refine ⟨hm0, ⟨hm0, ?_⟩, hE _ _ _ (Int.emod_nonneg _ (by omega)) (Int.emod_lt_of_pos _ hm0) ⟨cells, at', _, rfl, h0, by omega⟩⟩
  have : m.natAbs.log2 < 64 := (Nat.log2_lt (by omega)).2 (by omega)
  omega
theorem q3_law_dip {Ex : DX} {E : DEnds} {a : Addr} {m : Int} {cells : List Int} {at' left c : Int} {s4 s5 s6 s7 : Sl} (h0 : 0 ≤ at') (h1 : at' < 4294967296)
    (hE : ∀ left' u4 u5 u6, E.nx [.lst a [.lst (iD cells), .int (at' + 1), .int left'], dI m, dI at', dI c, u4, u5, u6, s7]) : i1_law_dip Ex E [.lst a [.lst (iD cells), .int (at' + 1), .int left], dI m, dI at', dI c, s4, s5, s6, s7] := by
  unfold i1_law_dip
  trivial
  have b0 := Int.emod_nonneg c (b := 1000000007) (by omega)
  have b1 := Int.emod_lt_of_pos c (b := 1000000007) (by omega)
  have b2 := Int.emod_nonneg c (b := 65537) (by omega)
  have b3 := Int.emod_lt_of_pos c (b := 65537) (by omega)
  generalize c % 1000000007 = c1 at *
  have g0 : 0 ≤ c1 * (at' + 1) := Int.mul_nonneg b0 (by omega)
  have g1 : c1 * (at' + 1) ≤ 1000000007 * 4294967296 := Int.mul_le_mul (by omega) (by omega) (by omega) (by omega)
  refine ⟨by decide, cmul64 (by omega) (by omega) (by omega) (by omega), cmul64 (by omega) (by omega) (by omega) (by omega), ⟨by decide, by decide, by omega⟩, at', rfl, h0, fun p fin p0 p1 => ?_⟩
  trivial
  have o0 := Int.emod_nonneg ((c1 * (at' + 1) + 104729 * at' + 17) ^ Int.toNat 3) (b := p) (by omega)
  have o1 := Int.emod_lt_of_pos ((c1 * (at' + 1) + 104729 * at' + 17) ^ Int.toNat 3) (b := p) (by omega)
  generalize (c1 * (at' + 1) + 104729 * at' + 17) ^ Int.toNat 3 % p = one at *
  generalize c % 65537 = c2 at *
  have g2 : 0 ≤ one * (at' + 5) := Int.mul_nonneg o0 (by omega)
  have g3 : one * (at' + 5) ≤ 2147483647 * 4294967300 := Int.mul_le_mul (by omega) (by omega) (by omega) (by omega)
  refine ⟨by omega, cmul64 (by omega) (by omega) (by omega) (by omega), by decide, ⟨by decide, by decide, by omega⟩, at' + 3, rfl, by omega, fun p' fin' p0' p1' => ?_⟩
  trivial
  have t0 := Int.emod_nonneg ((one * (at' + 5) + c2 + 1) ^ Int.toNat 5) (b := p') (by omega)
  have t1 := Int.emod_lt_of_pos ((one * (at' + 5) + c2 + 1) ^ Int.toNat 5) (b := p') (by omega)
  generalize (one * (at' + 5) + c2 + 1) ^ Int.toNat 5 % p' = two at *
  refine ⟨by omega, cmul64 (by omega) (by omega) (by omega) (by omega), at' + 7, rfl, by omega, fun p2 fin2 p20 p21 => ?_⟩
  trivial
  have u0 := Int.emod_nonneg (two * two + one) (b := p2) (by omega)
  have u1 := Int.emod_lt_of_pos (two * two + one) (b := p2) (by omega)
  generalize (two * two + one) % p2 = three at *
  refine ⟨by omega, cmul64 (by omega) (by omega) (by omega) (by omega), cmul64 (by omega) (by omega) (by omega) (by omega), hE _ _ _ _⟩
theorem q1_law_dip {Ex : DX} {E : DEnds} {a : Addr} {m : Int} {cells : List Int} {at' left c : Int} {s4 s5 s6 s7 : Sl} (h0 : 0 ≤ at') (h1 : at' < 4294967296)
    (hE : ∀ left' u4 u5 u6, E.nx [.lst a [.lst (iD cells), .int (at' + 1), .int left'], dI m, dI at', dI c, u4, u5, u6, s7]) : k2_law_dip Ex E [.lst a [.lst (iD cells), .int (at' + 1), .int left], dI m, dI at', dI c, s4, s5, s6, s7] := by
  unfold k2_law_dip
  trivial
  refine ⟨⟨by decide, by decide, by decide⟩, ?_⟩
  split
  · exact q3_law_dip h0 h1 hE
  · split
    · exact q3_law_dip h0 h1 hE
    · exact hE _ _ _ _
theorem m_law_dip : Meets t_law_dip 2 6 sp_law_dip := by
  rintro args Qd Xd ⟨n, a, ds, m, rfl, ⟨cells, at', left, rfl, h0, h1⟩, hn, hm0, hm1, hQ⟩
  show t_law_dip _ _ [_, _, .un, .un, .un, .un, .un, .un]
  unfold t_law_dip
  trivial
  have k2 : ∀ {at'' left'' : Int} {s2 s3 s4 s5 s6 s7 : Sl}, 0 ≤ at'' → at'' ≤ (n : Int) + 1 → k4_law_dip (exOf [Sl.lst a [D.lst (iD cells), D.int at', D.int left], dI m] Xd) (endsOf [Sl.lst a [D.lst (iD cells), D.int at', D.int left], dI m] Qd) [Sl.lst a [D.lst (iD cells), D.int at'', D.int left''], dI m, s2, s3, s4, s5, s6, s7] := by
    intro at'' left'' s2 s3 s4 s5 s6 s7 z0 z1
    refine q4_law_dip z0 z1 hm0 hm1 fun r ds' env r0 r1 hj => ?_
    trivial
    exact hQ _ _ _ r0 r1 hj
  split
  · unfold i3_law_dip
    trivial
    refine ⟨cmul64 (by omega) (by omega) (by omega) (by omega), ?_⟩
    split
    · rename_i hl
      refine ⟨hl, ?_⟩
      have z0 := Int.emod_nonneg at' (b := ((iD cells).length : Int)) (by omega)
      have z1 := Int.emod_lt_of_pos at' hl
      generalize at' % ((iD cells).length : Int) = j at z0 z1
      rw [List.length_map] at z1
      have hj : j.toNat < cells.length := by omega
      refine ⟨.int (cells[j.toNat]), atI_int z0 (by simp [List.getElem?_map, List.getElem?_eq_getElem hj]), ?_⟩
      exact q1_law_dip h0 (by omega) fun _ _ _ _ => k2 (by omega) (by omega)
    · exact q1_law_dip h0 (by omega) fun _ _ _ _ => k2 (by omega) (by omega)
  · exact k2 h0 (by omega)
end LS
namespace LS
open PySem L2 HD PM
local macro_rules | `(tactic| trivial) => `(tactic| try simp -dsimp only [↓sSeq, ↓sIf, ↓sRet, ↓retD_ext, ↓retD_lst, ↓retD_al, ↓sSet, ↓sSetE, ↓sAsg, ↓sDrop, ↓sNext, ↓sFor, ↓sRetN, ↓sCont, ↓sBreak, ↓dTest, ↓dOp, ↓dVar_w, ↓dC, ↓dCons, ↓dNil, ↓dTup, ↓dLst, ↓frzDs, ↓frzD_ext, ↓frzD_lst, ↓frzD_al, ↓wd_ext, ↓wd_lst, ↓wd_al, ↓wds, ↓AtS_ext, ↓AtS_lst, ↓AtL, ↓fAdd, ↓fSub, ↓fMul, ↓fDiv, ↓fMod, ↓fPow, ↓fCmp, ↓fIn, ↓fEq_ii, ↓fEq_ss, ↓fEq_bb, ↓fEq_tt, ↓fEq_ll, ↓fNe_ii, ↓fNe_ss, ↓fNe_bb, ↓fNe_tt, ↓fNe_ll, ↓fIx_l, ↓fIx_t, ↓fIx_k, ↓fIx_f, ↓GetS_some, ↓NatS_some, ↓fSl, ↓fIsN, ↓fNotN, ↓D.knN, ↓dNot, ↓dAnd, ↓dOr, ↓dAndV_w, ↓dOrV_w, ↓dNotV, ↓dIf, ↓dNeg, ↓dChain_w, ↓BlS_bl, ↓dCall_w, ↓dCallJ_w, ↓anyAl, ↓frozs, ↓froz, ↓gSet, ↓gTupD, ↓gsCons, ↓gsNil, ↓dSeq, ↓seqD_tup, ↓seqD_elst, ↓seqD_lst, ↓seqD_al, ↓dRange1, ↓dRange2, ↓dZip, ↓dCB, ↓dLc, ↓dYes, ↓dNoPart, ↓dPart, ↓dSl, ↓fLen, ↓fMin, ↓fMax, ↓fSum, ↓fAll, ↓fAny, ↓fSorted, ↓fTuple, ↓fList, ↓dRg1, ↓dRg2, ↓dLstRg, ↓dTupRg, ↓dIndex, ↓fIdx, ↓dAppend_w, ↓dExtend_w, ↓extD_lst, ↓dPopAt_w, ↓popD_int, ↓dPop_w, ↓mutD_w, ↓sSetItem_w, ↓setD_int, ↓dSortSet, ↓dTable_w, ↓wipeE, finals1, finals2, finals3, finals4, finals5, finals6, fin1_ext, fin1_lst, List.getElem?_cons_zero, List.getElem?_cons_succ, List.getElem?_nil, List.set_cons_zero, List.set_cons_succ, List.cons_append, List.nil_append, List.append_nil, List.replicate_succ, List.replicate_zero, List.map_cons, List.map_nil, List.length_cons, List.length_nil, true_and, and_true, ite_true, ite_false, if_true, if_false, Bool.false_eq_true, decide_eq_true_eq, Sl.plain, D.isSq, eq_self_iff_true, forall_const, reduceIte, true_or, or_true, atI_0, atI_1, atI_2, atI_3, ixN_0, ixN_1, ixN_2, AtS_ext, AtS_lst, FzS_lst, FzS_ext, GetS_some, NatS_some, ↓fIsi1, ↓fIsi2, BoolS_some, HD.kb_non_tuple, HD.kb_non_list, HD.kb_non_bool, HD.kb_non_int, HD.kb_non_str, HD.kb_bl_tuple, HD.kb_bl_list, HD.kb_bl_bool, HD.kb_bl_int, HD.kb_bl_str, HD.kb_int_tuple, HD.kb_int_list, HD.kb_int_bool, HD.kb_int_int, HD.kb_int_str, HD.kb_str_tuple, HD.kb_str_list, HD.kb_str_bool, HD.kb_str_int, HD.kb_str_str, HD.kb_lst_tuple, HD.kb_lst_list, HD.kb_lst_bool, HD.kb_lst_int, HD.kb_lst_str, HD.kb_tup_tuple, HD.kb_tup_list, HD.kb_tup_bool, HD.kb_tup_int, HD.kb_tup_str, ↓sFz_w, ↓FzS_lst, ↓FzS_ext, ↓dSortSetL, ↓fAbs, ↓fInt, ↓fRepr, ↓fLtT, ↓sRaise, ↓sTryKeep, ↓dCallV_w, ↓dMeth, ↓fCount, ↓fSplit])
def NumOk (w : Wd) (i : Int) : Prop := -1000000000000 ≤ i ∧ i ≤ 1000000000000 ∧ (w = .any → 0 ≤ i ∧ i ≤ 1)
def sp_law_number : DSpec := fun args Q _ => ∃ (n : Nat) (a : Addr) (ds : List D) (w : Wd), args = [.lst a ds, dW w] ∧ JarOk n ds ∧ n + 1 < 4294967296 ∧ ∀ (i : Int) ds' fin, NumOk w i → JarOk (n + 2) ds' → Q (dI i) (.lst a ds' :: fin)
def t_law_number : DTS :=
    (sSeq (sIf (dTest (dOp fEq (dVar 1) (dC (.str (Str.ofString "any"))))) (sRet (dCallJ sp_law_dip 0 (dCons (dC (.int 2)) dNil))) sNext)
    (sSeq (sSetE 2 (dCallJ sp_law_dip 0 (dCons (dC (.int 6)) dNil)))
    (sSeq (sIf (dTest (dOp fEq (dVar 2) (dC (.int 0)))) (sRet (dOp fIx (dLst (dCons (dOp fPow (dC (.int 10)) (dC (.int 12))) (dCons (dOp fSub (dC (.int 0)) (dOp fPow (dC (.int 10)) (dC (.int 12)))) (dCons (dOp fSub (dOp fPow (dC (.int 10)) (dC (.int 12))) (dC (.int 1))) (dCons (dC (.int 0)) dNil))))) (dCallJ sp_law_dip 0 (dCons (dC (.int 4)) dNil)))) sNext)
    (sSeq (sIf (dTest (dOp (fCmp fun i j => decide (i < j)) (dVar 2) (dC (.int 4)))) (sRet (dOp fSub (dCallJ sp_law_dip 0 (dCons (dC (.int 7)) dNil)) (dC (.int 3)))) sNext)
    (sRet (dOp fSub (dCallJ sp_law_dip 0 (dCons (dC (.int 2001)) dNil)) (dC (.int 1000))))))))
theorem m_law_number : Meets t_law_number 2 1 sp_law_number := by
  rintro args Qd Xd ⟨n, a, ds, w, rfl, hj, hn, hQ⟩
  show t_law_number _ _ [_, _, .un]
  unfold t_law_number
  trivial
  simp only [w_any, decide_eq_true_eq]
  split
  · rename_i hw
    refine ⟨n, a, ds, 2, rfl, hj, by omega, by decide, by decide, fun r ds' fin r0 r1 hj' => ?_⟩
    trivial
    exact hQ _ _ _ ⟨by omega, by omega, fun _ => by omega⟩ (hj'.up (by omega))
  · rename_i hw
    refine ⟨n, a, ds, 6, rfl, hj, by omega, by decide, by decide, fun r ds' fin r0 r1 hj' => ?_⟩
    trivial
    have c10 : CPow 10 12 := ⟨by decide, by decide, by decide⟩
    split
    · refine ⟨c10, c10, c10, by decide, fun b => ⟨n + 1, a, ds', 4, rfl, hj', by omega, by decide, by decide, fun r' ds'' fin' r0' r1' hj'' => ?_⟩⟩
      trivial
      have h : r' = 0 ∨ r' = 1 ∨ r' = 2 ∨ r' = 3 := by omega
      rcases h with rfl | rfl | rfl | rfl
      all_goals
        refine ⟨_, rfl, ?_⟩
        trivial
        exact hQ _ _ _ ⟨by decide, by decide, fun e => absurd e hw⟩ hj''
    · split
      · refine ⟨n + 1, a, ds', 7, rfl, hj', by omega, by decide, by decide, fun r' ds'' fin' r0' r1' hj'' => ?_⟩
        trivial
        exact hQ _ _ _ ⟨by omega, by omega, fun e => absurd e hw⟩ hj''
      · refine ⟨n + 1, a, ds', 2001, rfl, hj', by omega, by decide, by decide, fun r' ds'' fin' r0' r1' hj'' => ?_⟩
        trivial
        exact hQ _ _ _ ⟨by omega, by omega, fun e => absurd e hw⟩ hj''
def sp_law_times : DSpec := fun args Q _ => ∃ l : List Nat, (args = [.ext (.lst (nD l))] ∨ args = [.ext (.tup (nD l))]) ∧ (∀ x ∈ l, 0 < x) ∧ prodN l < 2 ^ 60 ∧ ∀ fin, Q (dI (prodN l : Nat)) fin
def b1_law_times : DTS :=
    (sSetE 1 (dOp fMul (dVar 1) (dVar 2)))
def k2_law_times : DTS :=
    (sRet (dVar 1))
def t_law_times : DTS :=
    (sSeq (sSetE 1 (dC (.int 1)))
    (sSeq (sFor (dSeq (dVar 0)) (gSet 2) b1_law_times)
    k2_law_times))
theorem prodN_pos {l : List Nat} (h : ∀ x ∈ l, 0 < x) : 0 < prodN l := by
  induction l with
  | nil => exact Nat.one_pos
  | cons x l ih => exact Nat.mul_pos (h x List.mem_cons_self) (ih fun y hy => h y (List.mem_cons_of_mem _ hy))
theorem q1_law_times {Ex : DX} {E : DEnds} {s0 : Sl} (l : List Nat) : ∀ (acc : Nat) (s2 : Sl), 0 < acc → (∀ x ∈ l, 0 < x) → acc * prodN l < 2 ^ 60 → (∀ u, E.nx [s0, dI (acc * prodN l : Nat), u]) →
    forD (gSet 2) b1_law_times (fun _ => True) Ex E (nD l) [s0, dI (acc : Nat), s2] := by
  induction l with
  | nil =>
    intro acc s2 _ _ _ hE
    refine ⟨True.intro, ?_⟩
    have := hE s2
    simpa [prodN] using this
  | cons x l ih =>
    intro acc s2 hz hp hb hE
    have hx := hp x List.mem_cons_self
    have hl := prodN_pos fun y hy => hp y (List.mem_cons_of_mem _ hy)
    have e : acc * prodN (x :: l) = acc * x * prodN l := by rw [prodN, Nat.mul_assoc]
    have hax : acc * x < 2 ^ 60 := Nat.lt_of_le_of_lt (Nat.le_mul_of_pos_right _ hl) (e ▸ hb)
    have ha : acc < 2 ^ 60 := Nat.lt_of_le_of_lt (Nat.le_mul_of_pos_right _ hx) hax
    have hx2 : x < 2 ^ 60 := Nat.lt_of_le_of_lt (Nat.le_mul_of_pos_left _ hz) hax
    rw [nD_cons, forD]
    unfold b1_law_times
    trivial
    refine ⟨cmulN (a := 60) (b := 60) (by simpa using ha) (by simpa using hx2) (by decide), ?_⟩
    have := ih (acc * x) (dI (x : Nat)) (Nat.mul_pos hz hx) (fun y hy => hp y (List.mem_cons_of_mem _ hy)) (e ▸ hb) (fun u => e ▸ hE u)
    rw [Int.natCast_mul] at this
    exact this
theorem m_law_times : Meets t_law_times 1 2 sp_law_times := by
  rintro args Qd Xd ⟨l, h, hp, hb, hQ⟩
  rcases h with rfl | rfl
  all_goals
    show t_law_times _ _ [_, .un, .un]
    unfold t_law_times
    trivial
    refine q1_law_times l 1 .un (by decide) hp (by rw [Nat.one_mul]; exact hb) fun u => ?_
    unfold k2_law_times
    trivial
    rw [Nat.one_mul]
    exact hQ _
structure SzOk (S : List Nat) : Prop where
  pos : ∀ s ∈ S, 0 < s
  few : S.length ≤ 24
  prod : prodN S ≤ 4096
  small : ∀ s ∈ S, s ≤ 4
abbrev dSz (S : List Nat) : Sl := .ext (.tup (nD S))
def sp_law_sizes : DSpec := fun args Q _ => ∃ (n : Nat) (a : Addr) (ds : List D) (most roof : Nat), args = [.lst a ds, dI (most : Nat), dI (roof : Nat)] ∧ JarOk n ds ∧ n + 64 < 4294967296 ∧ 0 < most ∧ most ≤ 24 ∧ 0 < roof ∧ roof ≤ 4096 ∧
  ∀ (S : List Nat) ds' fin, SzOk S → 0 < S.length → S.length ≤ most → prodN S ≤ roof → JarOk (n + 64) ds' → Q (dSz S) (.lst a ds' :: fin)
def b1_law_sizes : DTS :=
    (sSeq (sSetE 5 (dOp fIx (dLst (dCons (dC (.int 1)) (dCons (dC (.int 2)) (dCons (dC (.int 2)) (dCons (dC (.int 3)) (dCons (dC (.int 4)) dNil)))))) (dCallJ sp_law_dip 0 (dCons (dC (.int 5)) dNil))))
    (sDrop (dAppend 3 (dIf (dTest (dOp (fCmp fun i j => decide (i ≤ j)) (dOp fMul (dCall sp_law_times (dCons (dVar 3) dNil)) (dVar 5)) (dVar 2))) (dVar 5) (dC (.int 1))))))
def k2_law_sizes : DTS :=
    (sRet (dCB fTuple (dCons (dVar 3) dNil)))
def t_law_sizes : DTS :=
    (sSeq (sSet 3 (dLst dNil))
    (sSeq (sFor (dRange1 (dCons (dOp fAdd (dC (.int 1)) (dCallJ sp_law_dip 0 (dCons (dVar 1) dNil))) dNil)) (gSet 4) b1_law_sizes)
    k2_law_sizes))
theorem prodN_append (a b : List Nat) : prodN (a ++ b) = prodN a * prodN b := by
  induction a with
  | nil => simp [prodN]
  | cons x a ih => rw [List.cons_append, prodN, ih, prodN, Nat.mul_assoc]
theorem q1_law_sizes {Ex : DX} {E : DEnds} {a a2 : Addr} {s1 : Sl} {roof : Nat} (hr : 0 < roof) (hr' : roof ≤ 4096) (items : List D) : ∀ (n : Nat) (ds : List D) (S : List Nat) (s4 s5 : Sl), JarOk n ds → n + items.length < 4294967296 → (∀ s ∈ S, 0 < s ∧ s ≤ 4) → prodN S ≤ roof → S.length + items.length ≤ 24 →
    (∀ ds' S' u4 u5, JarOk (n + items.length) ds' → (∀ s ∈ S', 0 < s ∧ s ≤ 4) → prodN S' ≤ roof → S'.length = S.length + items.length → E.nx [.lst a ds', s1, dI (roof : Nat), .lst a2 (nD S'), u4, u5]) →
    forD (gSet 4) b1_law_sizes (fun _ => True) Ex E items [.lst a ds, s1, dI (roof : Nat), .lst a2 (nD S), s4, s5] := by
  induction items with
  | nil =>
    intro n ds S s4 s5 hj hn hs hp hl hE
    exact ⟨True.intro, hE _ _ _ _ hj hs hp rfl⟩
  | cons x items ih =>
    intro n ds S s4 s5 hj hn hs hp hl hE
    rw [List.length_cons] at hn hl
    rw [forD]
    unfold b1_law_sizes
    trivial
    refine ⟨by decide, fun b => ⟨n, a, ds, 5, rfl, hj, by omega, by decide, by decide, fun r ds' fin r0 r1 hj' => ?_⟩⟩
    trivial
    have fin' : ∀ s : Nat, 0 < s → s ≤ 4 → prodN S * s ≤ roof → ∀ u5, forD (gSet 4) b1_law_sizes (fun _ => True) Ex E items [.lst a ds', s1, dI (roof : Nat), .lst a2 (nD (S ++ [s])), .ext x, u5] := by
      intro s h0 h4 hps u5
      refine ih (n + 1) ds' (S ++ [s]) _ _ hj' (by omega) ?_ ?_ (by rw [List.length_append, List.length_singleton]; omega) ?_
      · intro y hy
        rcases List.mem_append.1 hy with h | h
        · exact hs y h
        · rw [List.mem_singleton.1 h]; exact ⟨h0, h4⟩
      · rw [prodN_append]; simpa [prodN] using hps
      · intro ds'' S' u4 u5' hj2 hs2 hp2 hl2
        refine hE _ _ _ _ (by rw [List.length_cons]; exact hj2.up (by omega)) hs2 hp2 ?_
        rw [hl2, List.length_append, List.length_singleton, List.length_cons]; omega
    obtain ⟨z, h0, h4, hz⟩ : ∃ z : Nat, 0 < z ∧ z ≤ 4 ∧ atI [D.int 1, D.int 2, D.int 2, D.int 3, D.int 4] r = some (D.int (z : Nat)) := by
      have h : r = 0 ∨ r = 1 ∨ r = 2 ∨ r = 3 ∨ r = 4 := by omega
      rcases h with rfl | rfl | rfl | rfl | rfl
      · exact ⟨1, by decide, by decide, rfl⟩
      · exact ⟨2, by decide, by decide, rfl⟩
      · exact ⟨2, by decide, by decide, rfl⟩
      · exact ⟨3, by decide, by decide, rfl⟩
      · exact ⟨4, by decide, by decide, rfl⟩
    refine ⟨_, hz, ?_⟩
    trivial
    refine ⟨S, .inl rfl, fun y hy => (hs y hy).1, by omega, fun fin2 => ?_⟩
    trivial
    refine ⟨.inr rfl, cmulN (a := 60) (b := 60) (by rw [Int.natAbs_natCast]; omega) (by rw [Int.natAbs_natCast]; omega) (by decide), ?_⟩
    split
    · rename_i hle
      have := fin' z h0 h4 (by exact_mod_cast hle) (dI (z : Nat))
      rw [nD_app] at this
      exact ⟨by rw [nD_len]; exact Nat.lt_of_le_of_lt (by omega : S.length ≤ 24) (by decide), this⟩
    · have := fin' 1 (by decide) (by decide) (by omega) (dI (z : Nat))
      rw [nD_app] at this
      exact ⟨by rw [nD_len]; exact Nat.lt_of_le_of_lt (by omega : S.length ≤ 24) (by decide), this⟩
theorem m_law_sizes : Meets t_law_sizes 3 3 sp_law_sizes := by
  rintro args Qd Xd ⟨n, a, ds, most, roof, rfl, hj, hn, hm0, hm1, hr0, hr1, hQ⟩
  show t_law_sizes _ _ [_, _, _, .un, .un, .un]
  unfold t_law_sizes
  trivial
  refine ⟨by decide, fun a2 => ⟨n, a, ds, most, rfl, hj, by omega, by omega, by omega, fun r ds' fin r0 r1 hj' => ?_⟩⟩
  trivial
  refine ⟨⟨by omega, by omega⟩, ?_⟩
  have hlen : (rgD 0 (1 + r)).length = 1 + r.toNat := by
    simp only [rgD, List.length_map, List.length_range]; omega
  refine q1_law_sizes (S := []) hr0 hr1 _ (n + 1) ds' _ _ hj' (by omega) (by simp) (show 1 ≤ roof from hr0) (by simp; omega) fun ds2 S2 u4 u5 hj2 hs2 hp2 hl2 => ?_
  unfold k2_law_sizes
  trivial
  have hl3 : S2.length = 1 + r.toNat := by rw [hl2, hlen]; simp
  exact hQ S2 _ _ ⟨fun s hs => (hs2 s hs).1, by omega, by omega, fun s hs => (hs2 s hs).2⟩ (by omega) (by omega) hp2 (hj2.up (by omega))
end LS
namespace LS
open PySem L2 HD PM
local macro_rules | `(tactic| trivial) => `(tactic| try simp -dsimp only [↓sSeq, ↓sIf, ↓sRet, ↓retD_ext, ↓retD_lst, ↓retD_al, ↓sSet, ↓sSetE, ↓sAsg, ↓sDrop, ↓sNext, ↓sFor, ↓sRetN, ↓sCont, ↓sBreak, ↓dTest, ↓dOp, ↓dVar_w, ↓dC, ↓dCons, ↓dNil, ↓dTup, ↓dLst, ↓frzDs, ↓frzD_ext, ↓frzD_lst, ↓frzD_al, ↓wd_ext, ↓wd_lst, ↓wd_al, ↓wds, ↓AtS_ext, ↓AtS_lst, ↓AtL, ↓fAdd, ↓fSub, ↓fMul, ↓fDiv, ↓fMod, ↓fPow, ↓fCmp, ↓fIn, ↓fEq_ii, ↓fEq_ss, ↓fEq_bb, ↓fEq_tt, ↓fEq_ll, ↓fNe_ii, ↓fNe_ss, ↓fNe_bb, ↓fNe_tt, ↓fNe_ll, ↓fIx_l, ↓fIx_t, ↓fIx_k, ↓fIx_f, ↓GetS_some, ↓NatS_some, ↓fSl, ↓fIsN, ↓fNotN, ↓D.knN, ↓dNot, ↓dAnd, ↓dOr, ↓dAndV_w, ↓dOrV_w, ↓dNotV, ↓dIf, ↓dNeg, ↓dChain_w, ↓BlS_bl, ↓dCall_w, ↓dCallJ_w, ↓anyAl, ↓frozs, ↓froz, ↓gSet, ↓gTupD, ↓gsCons, ↓gsNil, ↓dSeq, ↓seqD_tup, ↓seqD_elst, ↓seqD_lst, ↓seqD_al, ↓dRange1, ↓dRange2, ↓dZip, ↓dCB, ↓dLc, ↓dYes, ↓dNoPart, ↓dPart, ↓dSl, ↓fLen, ↓fMin, ↓fMax, ↓fSum, ↓fAll, ↓fAny, ↓fSorted, ↓fTuple, ↓fList, ↓dRg1, ↓dRg2, ↓dLstRg, ↓dTupRg, ↓dIndex, ↓fIdx, ↓dAppend_w, ↓dExtend_w, ↓extD_lst, ↓dPopAt_w, ↓popD_int, ↓dPop_w, ↓mutD_w, ↓sSetItem_w, ↓setD_int, ↓dSortSet, ↓dTable_w, ↓wipeE, finals1, finals2, finals3, finals4, finals5, finals6, fin1_ext, fin1_lst, List.getElem?_cons_zero, List.getElem?_cons_succ, List.getElem?_nil, List.set_cons_zero, List.set_cons_succ, List.cons_append, List.nil_append, List.append_nil, List.replicate_succ, List.replicate_zero, List.map_cons, List.map_nil, List.length_cons, List.length_nil, true_and, and_true, ite_true, ite_false, if_true, if_false, Bool.false_eq_true, decide_eq_true_eq, Sl.plain, D.isSq, eq_self_iff_true, forall_const, reduceIte, true_or, or_true, atI_0, atI_1, atI_2, atI_3, ixN_0, ixN_1, ixN_2, AtS_ext, AtS_lst, FzS_lst, FzS_ext, GetS_some, NatS_some, ↓fIsi1, ↓fIsi2, BoolS_some, HD.kb_non_tuple, HD.kb_non_list, HD.kb_non_bool, HD.kb_non_int, HD.kb_non_str, HD.kb_bl_tuple, HD.kb_bl_list, HD.kb_bl_bool, HD.kb_bl_int, HD.kb_bl_str, HD.kb_int_tuple, HD.kb_int_list, HD.kb_int_bool, HD.kb_int_int, HD.kb_int_str, HD.kb_str_tuple, HD.kb_str_list, HD.kb_str_bool, HD.kb_str_int, HD.kb_str_str, HD.kb_lst_tuple, HD.kb_lst_list, HD.kb_lst_bool, HD.kb_lst_int, HD.kb_lst_str, HD.kb_tup_tuple, HD.kb_tup_list, HD.kb_tup_bool, HD.kb_tup_int, HD.kb_tup_str, ↓sFz_w, ↓FzS_lst, ↓FzS_ext, ↓dSortSetL, ↓fAbs, ↓fInt, ↓fRepr, ↓fLtT, ↓sRaise, ↓sTryKeep, ↓dCallV_w, ↓dMeth, ↓fCount, ↓fSplit])
def sp_law_some : DSpec := fun args Q _ => ∃ (n : Nat) (a : Addr) (ds : List D) (many most : Nat), args = [.lst a ds, dI (many : Nat), dI (most : Nat)] ∧ JarOk n ds ∧ n + 64 < 4294967296 ∧ many ≤ 60 ∧ most ≤ 60 ∧
  ∀ (ns : List Nat) ds' fin, Rising ns → (∀ x ∈ ns, x < many) → ns.length ≤ most → JarOk (n + 64) ds' → Q (.ext (.tup (nD ns))) (.lst a ds' :: fin)
def b1_law_some : DTS :=
    (sIf (dTest (dOp (fCmp fun i j => decide (j < i)) (dCB fLen (dCons (dVar 3) dNil)) (dC (.int 0)))) (sDrop (dAppend 4 (dPopAt 3 (dCallJ sp_law_dip 0 (dCons (dCB fLen (dCons (dVar 3) dNil)) dNil))))) sNext)
def k2_law_some : DTS :=
    (sRet (dCB fTuple (dCons (dCB fSorted (dCons (dVar 4) dNil)) dNil)))
def t_law_some : DTS :=
    (sSeq (sSet 3 (dLstRg (dRg1 (dVar 1))))
    (sSeq (sSet 4 (dLst dNil))
    (sSeq (sFor (dRange1 (dCons (dCallJ sp_law_dip 0 (dCons (dOp fAdd (dVar 2) (dC (.int 1))) dNil)) dNil)) (gSet 5) b1_law_some)
    k2_law_some)))
theorem erase_perm {α : Type} (l : List α) : ∀ {i : Nat} (h : i < l.length), (l[i] :: l.eraseIdx i).Perm l := by
  induction l with
  | nil => intro i h; simp at h
  | cons x l ih =>
    intro i h
    cases i with
    | zero => exact .refl _
    | succ i =>
      have := ih (i := i) (by simpa using h)
      simp only [List.getElem_cons_succ, List.eraseIdx_cons_succ]
      exact (List.Perm.swap _ _ _).trans (List.Perm.cons x this)
theorem map_erase {α β : Type} (f : α → β) (l : List α) : ∀ i, (l.eraseIdx i).map f = (l.map f).eraseIdx i := by
  induction l with
  | nil => intro i; rfl
  | cons x l ih =>
    intro i
    cases i with
    | zero => rfl
    | succ i => simp only [List.eraseIdx_cons_succ, List.map_cons, ih]
theorem q1_law_some {Ex : DX} {E : DEnds} {a a2 a3 : Addr} {s1 s2 : Sl} {many : Nat} (items : List D) : ∀ (n : Nat) (ds : List D) (L Fd : List Nat) (s5 : Sl), JarOk n ds → n + items.length < 4294967296 → (L ++ Fd).Nodup → (∀ x ∈ L ++ Fd, x < many) → (L.length ≤ 60) → Fd.length + items.length ≤ 100 →
    (∀ ds' L' Fd' u5, JarOk (n + items.length) ds' → Fd'.Nodup → (∀ x ∈ Fd', x < many) → Fd'.length ≤ Fd.length + items.length → E.nx [.lst a ds', s1, s2, .lst a2 (nD L'), .lst a3 (nD Fd'), u5]) →
    forD (gSet 5) b1_law_some (fun _ => True) Ex E items [.lst a ds, s1, s2, .lst a2 (nD L), .lst a3 (nD Fd), s5] := by
  induction items with
  | nil =>
    intro n ds L Fd s5 hj hn hd hm hL hl hE
    exact ⟨True.intro, hE _ _ _ _ hj (List.nodup_append.1 hd).2.1 (fun x hx => hm x (List.mem_append_right _ hx)) (Nat.le_refl _)⟩
  | cons x items ih =>
    intro n ds L Fd s5 hj hn hd hm hL hl hE
    rw [List.length_cons] at hn hl
    rw [forD]
    unfold b1_law_some
    trivial
    rw [nD_len]
    split
    · rename_i h0
      have hL0 : 0 < L.length := by omega
      refine ⟨n, a, ds, (L.length : Int), rfl, hj, by omega, by omega, by omega, fun r ds' fin r0 r1 hj' => ?_⟩
      trivial
      have hr : r.toNat < L.length := by omega
      refine ⟨r0, by omega, .int (L[r.toNat] : Nat), by simp [List.getElem?_map, List.getElem?_eq_getElem hr], ?_⟩
      trivial
      refine ⟨by rw [nD_len]; exact Nat.lt_of_le_of_lt (by omega : Fd.length ≤ 100) (by decide), ?_⟩
      have pm : (L.eraseIdx r.toNat ++ (Fd ++ [L[r.toNat]])).Perm (L ++ Fd) := by
        have p1 := erase_perm L hr
        have p2 : (L.eraseIdx r.toNat ++ (Fd ++ [L[r.toNat]])).Perm (L[r.toNat] :: (L.eraseIdx r.toNat ++ Fd)) := by
          rw [← List.append_assoc]
          exact List.perm_append_singleton _ _
        exact p2.trans ((List.Perm.append_right Fd p1))
      have := ih (n + 1) ds' (L.eraseIdx r.toNat) (Fd ++ [L[r.toNat]]) (.ext x) hj' (by omega) (pm.nodup_iff.2 hd) (fun y hy => hm y (pm.mem_iff.1 hy)) (Nat.le_trans (List.length_eraseIdx_le _ _) hL)
        (by rw [List.length_append, List.length_singleton]; omega) fun ds2 L2 Fd2 u5 hj2 h2 h3 h4 => hE _ _ _ _ (by rw [List.length_cons]; exact hj2.up (by omega)) h2 h3 (by rw [List.length_append, List.length_singleton] at h4; rw [List.length_cons]; omega)
      rw [nD_app] at this
      have e : nD (L.eraseIdx r.toNat) = (nD L).eraseIdx r.toNat := map_erase _ _ _
      rw [e] at this
      exact this
    · exact ih n ds L Fd _ hj (by omega) hd hm hL (by omega) fun ds2 L2 Fd2 u5 hj2 h2 h3 h4 => hE _ _ _ _ (by rw [List.length_cons]; exact hj2.up (by omega)) h2 h3 (by rw [List.length_cons]; omega)
theorem rgD_nat (n : Nat) : rgD 0 (n : Int) = nD (List.range n) := by
  unfold rgD
  simp
theorem nat_of_ints {l : List Nat} {ns : List Int} (h : ns.Perm (l.map fun n : Nat => (n : Int))) : ∃ l' : List Nat, ns = l'.map (fun n : Nat => (n : Int)) ∧ l'.Perm l := by
  have h1 : ∀ x ∈ ns, 0 ≤ x := by
    intro x hx
    obtain ⟨y, _, rfl⟩ := List.mem_map.1 (h.mem_iff.1 hx)
    omega
  have e : ns = (ns.map Int.toNat).map fun n : Nat => (n : Int) := by
    rw [List.map_map]
    conv => lhs; rw [← List.map_id ns]
    refine List.map_congr_left fun x hx => ?_
    have := h1 x hx
    simp; omega
  refine ⟨ns.map Int.toNat, e, ?_⟩
  have := h.map Int.toNat
  rw [List.map_map] at this
  have e2 : l.map (Int.toNat ∘ fun n : Nat => (n : Int)) = l := by
    conv => rhs; rw [← List.map_id l]
    exact List.map_congr_left fun x _ => by simp
  rwa [e2] at this
theorem iD_nat (l : List Nat) : iD (l.map fun n : Nat => (n : Int)) = nD l := by simp [iD, nD]
theorem rising_of {l : List Nat} (h : (l.map fun n : Nat => (n : Int)).Pairwise (· ≤ ·)) (hn : l.Nodup) : Rising l := by
  rw [List.pairwise_map] at h
  exact (List.pairwise_and_iff.2 ⟨h, hn⟩).imp fun ⟨h1, h2⟩ => by
    have : _ ≠ _ := h2
    omega
theorem m_law_some : Meets t_law_some 3 3 sp_law_some := by
  rintro args Qd Xd ⟨n, a, ds, many, most, rfl, hj, hn, hm0, hm1, hQ⟩
  show t_law_some _ _ [_, _, _, .un, .un, .un]
  unfold t_law_some
  trivial
  refine ⟨RgOk.of_le (by omega) (by omega) (by omega) (by omega), fun a2 => ⟨by decide, fun a3 => ⟨n, a, ds, (most : Int) + 1, rfl, hj, by omega, by omega, by omega, fun r ds' fin r0 r1 hj' => ?_⟩⟩⟩
  trivial
  refine ⟨⟨by omega, by omega⟩, ?_⟩
  rw [rgD_nat]
  have hlen : (rgD 0 r).length = r.toNat := by simp [rgD]
  refine q1_law_some (many := many) _ (n + 1) ds' (List.range many) [] _ hj' (by omega) (by simpa using List.nodup_range) (by simp) (by simpa using hm0) (by simp; omega) fun ds2 L2 Fd2 u5 hj2 hd2 hm2 hl2 => ?_
  unfold k2_law_some
  trivial
  refine ⟨Fd2.map fun n : Nat => (n : Int), (iD_nat _).symm, fun ns' hp hw => ?_⟩
  obtain ⟨l, rfl, hl⟩ := nat_of_ints hp
  rw [show List.map D.int (List.map (fun n : Nat => (n : Int)) l) = nD l from iD_nat l]
  exact hQ l _ _ (rising_of hw (hl.nodup_iff.2 hd2)) (fun x hx => hm2 x (hl.mem_iff.1 hx)) (by rw [hl.length_eq]; simp at hl2; omega) (hj2.up (by omega))
abbrev dP (p : Part) : D := .tup [.tup (nD p.ns), .tup (iD p.ws)]
theorem psz_le {S ns : List Nat} (hS : ∀ s ∈ S, 0 < s) (h : Rising ns) (hl : ∀ n ∈ ns, n < S.length) : psz S ns ≤ prodN S := by
  have e : ns = (List.range S.length).filter fun n => decide (n ∈ ns) := by
    refine rising_ext h (List.Pairwise.filter _ List.pairwise_lt_range) fun n => ?_
    simp only [List.mem_filter, List.mem_range, decide_eq_true_eq]
    exact ⟨fun hn => ⟨hl n hn, hn⟩, fun hn => hn.2⟩
  have sub : ns.Sublist (List.range S.length) := by rw [e]; exact List.filter_sublist
  have e2 : (List.range S.length).map (sz S) = S := by
    refine List.ext_getElem? fun i => ?_
    rw [List.getElem?_map]
    by_cases hi : i < S.length
    · simp [List.getElem?_range hi, sz, List.getD_eq_getElem?_getD, List.getElem?_eq_getElem hi]
    · rw [List.getElem?_eq_none (by simpa using hi), List.getElem?_eq_none (by omega)]; rfl
  have sub2 : (ns.map (sz S)).Sublist S := by have := sub.map (sz S); rwa [e2] at this
  have gen : ∀ {a b : List Nat}, a.Sublist b → (∀ s ∈ b, 0 < s) → prodN a ≤ prodN b := by
    intro a b hs
    induction hs with
    | slnil => intro _; exact Nat.le_refl _
    | cons x h ih =>
      intro hb
      have h1 := ih fun s hs => hb s (List.mem_cons_of_mem _ hs)
      exact Nat.le_trans h1 (Nat.le_mul_of_pos_left _ (hb x List.mem_cons_self))
    | cons_cons x h ih =>
      intro hb
      exact Nat.mul_le_mul_left _ (ih fun s hs => hb s (List.mem_cons_of_mem _ hs))
  exact gen sub2 hS
theorem sz_mem {S : List Nat} {n : Nat} (h : n < S.length) : sz S n ∈ S := by
  unfold sz
  rw [List.getD_eq_getElem?_getD, List.getElem?_eq_getElem h]
  exact List.getElem_mem h
theorem sz_at {S : List Nat} {n : Nat} (h : n < S.length) : (nD S)[n]? = some (.int (sz S n : Nat)) := by
  unfold sz
  simp [List.getElem?_map, List.getD_eq_getElem?_getD, List.getElem?_eq_getElem h]
theorem rising_len {ns : List Nat} {m : Nat} (h : Rising ns) (hl : ∀ n ∈ ns, n < m) : ns.length ≤ m := by
  have e : ns = (List.range m).filter fun n => decide (n ∈ ns) := by
    refine rising_ext h (List.Pairwise.filter _ List.pairwise_lt_range) fun n => ?_
    simp only [List.mem_filter, List.mem_range, decide_eq_true_eq]
    exact ⟨fun hn => ⟨hl n hn, hn⟩, fun hn => hn.2⟩
  rw [e]
  have := List.length_filter_le (fun n => decide (n ∈ ns)) (List.range m)
  simpa using this
def NumsOk (w : Wd) (p : Part) : Prop := ∀ x ∈ p.ws, NumOk w x
def sp_law_part : DSpec := fun args Q _ => ∃ (n : Nat) (a : Addr) (ds : List D) (w : Wd) (S : List Nat) (most : Nat), args = [.lst a ds, dW w, dSz S, dI (most : Nat)] ∧ JarOk n ds ∧ n + 10000 < 4294967296 ∧ SzOk S ∧ most ≤ 60 ∧
  ∀ (p : Part) ds' fin, p.Ok S → NumsOk w p → p.ns.length ≤ most → JarOk (n + 10000) ds' → Q (.ext (dP p)) (.lst a ds' :: fin)
def e1_law_part : DT :=
    (dOp fIx (dVar 2) (dVar 6))
def e2_law_part : DT :=
    (dCallJ sp_law_number 0 (dCons (dVar 1) dNil))
def t_law_part : DTS :=
    (sSeq (sSetE 4 (dCallJ sp_law_some 0 (dCons (dCB fLen (dCons (dVar 2) dNil)) (dCons (dVar 3) dNil))))
    (sSeq (sSetE 5 (dCall sp_law_times (dCons (dLc (dSeq (dVar 4)) (gSet 6) dYes e1_law_part [6]) dNil)))
    (sRet (dTup (dCons (dVar 4) (dCons (dCB fTuple (dCons (dLc (dRange1 (dCons (dVar 5) dNil)) (gSet 7) dYes e2_law_part [7]) dNil)) dNil))))))
theorem q1_law_part {s0 s1 s3 s4 s5 s7 : Sl} {S : List Nat} {Q : Sl → Env' → Prop} (ns : List Nat) : ∀ (acc : List Nat), (∀ n ∈ ns, n < S.length) → acc.length + ns.length ≤ 100 → (∀ b, Q (.lst b (nD (acc ++ ns.map (sz S)))) [s0, s1, dSz S, s3, s4, s5, .un, s7]) →
    lcD (gSet 6) dYes e1_law_part [6] (fun _ => True) Q (nD ns) (nD acc) [s0, s1, dSz S, s3, s4, s5, .un, s7] := by
  induction ns with
  | nil =>
    intro acc _ _ hQ
    exact ⟨True.intro, fun b => by simpa using hQ b⟩
  | cons x ns ih =>
    intro acc hl hn hQ
    rw [List.length_cons] at hn
    rw [nD_cons, lcD]
    unfold e1_law_part
    trivial
    refine ⟨by rw [nD_len]; exact Nat.lt_of_le_of_lt (by omega : acc.length ≤ 100) (by decide), ?_⟩
    refine ⟨_, atN (sz_at (hl x List.mem_cons_self)), ?_⟩
    trivial
    have := ih (acc ++ [sz S x]) (fun n hn => hl n (List.mem_cons_of_mem _ hn)) (by rw [List.length_append, List.length_singleton]; omega) (fun b => by simpa using hQ b)
    rw [nD_app] at this
    exact this
theorem q2_law_part {a : Addr} {w : Wd} {s2 s3 s4 s5 s6 : Sl} {Q : Sl → Env' → Prop} (items : List D) : ∀ (n : Nat) (ds : List D) (acc : List Int), JarOk n ds → n + 2 * items.length + 1 < 4294967296 → acc.length + items.length ≤ 5000 → (∀ x ∈ acc, NumOk w x) →
    (∀ b ds' ws, JarOk (n + 2 * items.length) ds' → (∀ x ∈ ws, NumOk w x) → ws.length = acc.length + items.length → Q (.lst b (iD ws)) [.lst a ds', dW w, s2, s3, s4, s5, s6, .un]) →
    lcD (gSet 7) dYes e2_law_part [7] (fun _ => True) Q items (iD acc) [.lst a ds, dW w, s2, s3, s4, s5, s6, .un] := by
  induction items with
  | nil =>
    intro n ds acc hj _ _ hx hQ
    exact ⟨True.intro, fun b => hQ b _ _ hj hx rfl⟩
  | cons x items ih =>
    intro n ds acc hj hn hl hx hQ
    rw [List.length_cons] at hn hl
    rw [lcD]
    unfold e2_law_part
    trivial
    refine ⟨by rw [iD_len]; exact Nat.lt_of_le_of_lt (by omega : acc.length ≤ 5000) (by decide), n, a, ds, w, rfl, hj, by omega, fun i ds' fin hi hj' => ?_⟩
    trivial
    have := ih (n + 2) ds' (acc ++ [i]) hj' (by omega) (by rw [List.length_append, List.length_singleton]; omega) (fun y hy => by
      rcases List.mem_append.1 hy with h | h
      · exact hx y h
      · rw [List.mem_singleton.1 h]; exact hi) (fun b ds2 ws hj2 h2 h3 => hQ b ds2 ws (by rw [List.length_cons]; exact hj2.up (by omega)) h2 (by rw [h3, List.length_append, List.length_singleton, List.length_cons]; omega))
    rw [iD_app] at this
    exact this
theorem m_law_part : Meets t_law_part 4 4 sp_law_part := by
  rintro args Qd Xd ⟨n, a, ds, w, S, most, rfl, hj, hn, hS, hm, hQ⟩
  show t_law_part _ _ [_, _, _, _, .un, .un, .un, .un]
  unfold t_law_part
  trivial
  have := hS.few
  refine ⟨n, a, ds, S.length, most, by rw [nD_len], hj, by omega, by omega, hm, fun ns ds' fin hr hl hlen hj' => ?_⟩
  trivial
  refine q1_law_part (S := S) ns [] hl (by have := rising_len hr hl; simp; omega) fun b => ?_
  trivial
  have hp := psz_le hS.pos hr hl
  have hp4 := hS.prod
  refine ⟨ns.map (sz S), .inl rfl, fun x hx => ?_, ?_, fun fin2 => ?_⟩
  · obtain ⟨y, hy, rfl⟩ := List.mem_map.1 hx
    exact hS.pos _ (sz_mem (hl y hy))
  · exact Nat.lt_of_le_of_lt hp (by omega)
  trivial
  have hlen2 : (rgD 0 ((prodN (ns.map (sz S)) : Nat) : Int)).length = psz S ns := by simp [rgD, psz]
  refine ⟨⟨by have : prodN (ns.map (sz S)) = psz S ns := rfl; omega, by have : prodN (ns.map (sz S)) = psz S ns := rfl; omega⟩, ?_⟩
  refine q2_law_part (w := w) _ (n + 64) ds' [] hj' (by rw [hlen2]; omega) (by rw [hlen2]; simp; omega) (by simp) fun b ds2 ws hj2 hx2 hl2 => ?_
  trivial
  rw [hlen2] at hj2 hl2
  exact ⟨by decide, hQ ⟨ns, ws⟩ _ _ ⟨hr, hl, by simpa using hl2⟩ hx2 hlen (hj2.up (by omega))⟩
end LS
namespace LS
open PySem L2 HD PM
local macro_rules | `(tactic| trivial) => `(tactic| try simp -dsimp only [↓sSeq, ↓sIf, ↓sRet, ↓retD_ext, ↓retD_lst, ↓retD_al, ↓sSet, ↓sSetE, ↓sAsg, ↓sDrop, ↓sNext, ↓sFor, ↓sRetN, ↓sCont, ↓sBreak, ↓dTest, ↓dOp, ↓dVar_w, ↓dC, ↓dCons, ↓dNil, ↓dTup, ↓dLst, ↓frzDs, ↓frzD_ext, ↓frzD_lst, ↓frzD_al, ↓wd_ext, ↓wd_lst, ↓wd_al, ↓wds, ↓AtS_ext, ↓AtS_lst, ↓AtL, ↓fAdd, ↓fSub, ↓fMul, ↓fDiv, ↓fMod, ↓fPow, ↓fCmp, ↓fIn, ↓fEq_ii, ↓fEq_ss, ↓fEq_bb, ↓fEq_tt, ↓fEq_ll, ↓fNe_ii, ↓fNe_ss, ↓fNe_bb, ↓fNe_tt, ↓fNe_ll, ↓fIx_l, ↓fIx_t, ↓fIx_k, ↓fIx_f, ↓GetS_some, ↓NatS_some, ↓fSl, ↓fIsN, ↓fNotN, ↓D.knN, ↓dNot, ↓dAnd, ↓dOr, ↓dAndV_w, ↓dOrV_w, ↓dNotV, ↓dIf, ↓dNeg, ↓dChain_w, ↓BlS_bl, ↓dCall_w, ↓dCallJ_w, ↓anyAl, ↓frozs, ↓froz, ↓gSet, ↓gTupD, ↓gsCons, ↓gsNil, ↓dSeq, ↓seqD_tup, ↓seqD_elst, ↓seqD_lst, ↓seqD_al, ↓dRange1, ↓dRange2, ↓dZip, ↓dCB, ↓dLc, ↓dYes, ↓dNoPart, ↓dPart, ↓dSl, ↓fLen, ↓fMin, ↓fMax, ↓fSum, ↓fAll, ↓fAny, ↓fSorted, ↓fTuple, ↓fList, ↓dRg1, ↓dRg2, ↓dLstRg, ↓dTupRg, ↓dIndex, ↓fIdx, ↓dAppend_w, ↓dExtend_w, ↓extD_lst, ↓dPopAt_w, ↓popD_int, ↓dPop_w, ↓mutD_w, ↓sSetItem_w, ↓setD_int, ↓dSortSet, ↓dTable_w, ↓wipeE, finals1, finals2, finals3, finals4, finals5, finals6, fin1_ext, fin1_lst, List.getElem?_cons_zero, List.getElem?_cons_succ, List.getElem?_nil, List.set_cons_zero, List.set_cons_succ, List.cons_append, List.nil_append, List.append_nil, List.replicate_succ, List.replicate_zero, List.map_cons, List.map_nil, List.length_cons, List.length_nil, true_and, and_true, ite_true, ite_false, if_true, if_false, Bool.false_eq_true, decide_eq_true_eq, Sl.plain, D.isSq, eq_self_iff_true, forall_const, reduceIte, true_or, or_true, atI_0, atI_1, atI_2, atI_3, ixN_0, ixN_1, ixN_2, AtS_ext, AtS_lst, FzS_lst, FzS_ext, GetS_some, NatS_some, ↓fIsi1, ↓fIsi2, BoolS_some, HD.kb_non_tuple, HD.kb_non_list, HD.kb_non_bool, HD.kb_non_int, HD.kb_non_str, HD.kb_bl_tuple, HD.kb_bl_list, HD.kb_bl_bool, HD.kb_bl_int, HD.kb_bl_str, HD.kb_int_tuple, HD.kb_int_list, HD.kb_int_bool, HD.kb_int_int, HD.kb_int_str, HD.kb_str_tuple, HD.kb_str_list, HD.kb_str_bool, HD.kb_str_int, HD.kb_str_str, HD.kb_lst_tuple, HD.kb_lst_list, HD.kb_lst_bool, HD.kb_lst_int, HD.kb_lst_str, HD.kb_tup_tuple, HD.kb_tup_list, HD.kb_tup_bool, HD.kb_tup_int, HD.kb_tup_str, ↓sFz_w, ↓FzS_lst, ↓FzS_ext, ↓dSortSetL, ↓fAbs, ↓fInt, ↓fRepr, ↓fLtT, ↓sRaise, ↓sTryKeep, ↓dCallV_w, ↓dMeth, ↓fCount, ↓fSplit])
abbrev fD (fs : List (List Nat)) : List D := fs.map fun f => D.tup (nD f)
theorem fD_cons (f : List Nat) (fs : List (List Nat)) : fD (f :: fs) = D.tup (nD f) :: fD fs := rfl
theorem fD_app (a b : List (List Nat)) : fD (a ++ b) = fD a ++ fD b := List.map_append
theorem fD_len (a : List (List Nat)) : (fD a).length = a.length := List.length_map _
def SqN (l : List Nat) (Z : D) : Prop := Z = .tup (nD l) ∨ Z = .lst (nD l)
def FArgs (S ns : List Nat) (args : List Sl) : Prop := ∃ Z W, args = [.ext Z, .ext W] ∧ SqN S Z ∧ SqN ns W
theorem fArgs_tt {S ns : List Nat} : FArgs S ns [dSz S, .ext (.tup (nD ns))] := ⟨_, _, rfl, .inl rfl, .inl rfl⟩
theorem fArgs_tl {S ns : List Nat} : FArgs S ns [dSz S, .ext (.lst (nD ns))] := ⟨_, _, rfl, .inl rfl, .inr rfl⟩
theorem ix_sq {S : List Nat} {Z : D} {n : Nat} {Q : Sl → Prop} (hZ : SqN S Z) (hn : n < S.length) (q : Q (dI (sz S n : Nat))) : fIx Z (.int (n : Nat)) Q := by
  rcases hZ with rfl | rfl
  · exact ⟨_, atN (sz_at hn), q⟩
  · exact ⟨_, atN (sz_at hn), q⟩
def sp_fillings_of : DSpec := fun args Q _ => ∃ (S ns : List Nat), FArgs S ns args ∧ (∀ n ∈ ns, n < S.length ∧ 0 < sz S n) ∧ psz S ns ≤ 4096 ∧ ns.length ≤ 100 ∧ ∀ fin, Q (.ext (.lst (fD (fills S ns)))) fin
def e1_fillings_of : DT :=
    (dOp fAdd (dVar 5) (dTup (dCons (dVar 6) dNil)))
def b2_fillings_of : DTS :=
    (sDrop (dExtend 4 (dLc (dRange1 (dCons (dOp fIx (dVar 0) (dVar 3)) dNil)) (gSet 6) dYes e1_fillings_of [6])))
def k3_fillings_of : DTS :=
    (sSetE 2 (dVar 4))
def b4_fillings_of : DTS :=
    (sSeq (sSet 4 (dLst dNil))
    (sSeq (sFor (dSeq (dVar 2)) (gSet 5) b2_fillings_of)
    k3_fillings_of))
def k5_fillings_of : DTS :=
    (sRet (dVar 2))
def t_fillings_of : DTS :=
    (sSeq (sSetE 2 (dLst (dCons (dTup dNil) dNil)))
    (sSeq (sFor (dSeq (dVar 1)) (gSet 3) b4_fillings_of)
    k5_fillings_of))
theorem q1_fillings_of {Q : Sl → Env' → Prop} {s0 s1 s2 s3 s4 : Sl} {f : List Nat} (hf : f.length ≤ 1000) (ws : List Nat) : ∀ (acc : List D), acc.length + ws.length ≤ 5000 → (∀ b, Q (.lst b (acc ++ fD (ws.map fun w => f ++ [w]))) [s0, s1, s2, s3, s4, .ext (.tup (nD f)), .un]) →
    lcD (gSet 6) dYes e1_fillings_of [6] (fun _ => True) Q (nD ws) acc [s0, s1, s2, s3, s4, .ext (.tup (nD f)), .un] := by
  induction ws with
  | nil => intro acc _ hQ; exact ⟨True.intro, fun b => by simpa using hQ b⟩
  | cons w ws ih =>
    intro acc hl hQ
    rw [List.length_cons] at hl
    rw [nD_cons, lcD]
    unfold e1_fillings_of
    trivial
    refine ⟨Nat.lt_of_le_of_lt (by omega : acc.length ≤ 5000) (by decide), by decide, by rw [nD_len]; exact Nat.le_trans (by omega : f.length + (0 + 1) ≤ 2000) (by decide), ?_⟩
    have := ih (acc ++ [.tup (nD (f ++ [w]))]) (by rw [List.length_append, List.length_singleton]; omega) (fun b => by simpa using hQ b)
    rw [nD_app] at this
    exact this
theorem q2_fillings_of {Ex : DX} {E : DEnds} {S : List Nat} {Z : D} {s1 s2 : Sl} {a4 : Addr} {n : Nat} (hZ : SqN S Z) (hn : n < S.length) (fs : List (List Nat)) : ∀ (A : List (List Nat)) (s5 : Sl), (∀ f ∈ fs, f.length ≤ 1000) → A.length + fs.length * sz S n ≤ 5000 → sz S n ≤ 5000 →
    (∀ u5, E.nx [.ext Z, s1, s2, dI (n : Nat), .lst a4 (fD (A ++ fs.flatMap fun f => (List.range (sz S n)).map fun w => f ++ [w])), u5, .un]) →
    forD (gSet 5) b2_fillings_of (fun _ => True) Ex E (fD fs) [.ext Z, s1, s2, dI (n : Nat), .lst a4 (fD A), s5, .un] := by
  induction fs with
  | nil => intro A s5 _ _ _ hE; exact ⟨True.intro, by simpa using hE s5⟩
  | cons f fs ih =>
    intro A s5 hf hl hz hE
    rw [List.length_cons, Nat.add_mul, Nat.one_mul] at hl
    rw [fD_cons, forD]
    unfold b2_fillings_of
    trivial
    refine ix_sq hZ hn ?_
    trivial
    refine ⟨⟨by omega, by omega⟩, ?_⟩
    rw [rgD_nat]
    refine q1_fillings_of (hf f List.mem_cons_self) _ [] (by simpa using hz) fun b => ?_
    trivial
    refine ⟨?_, ?_⟩
    · rw [fD_len, fD_len, List.length_map, List.length_range]
      exact Nat.le_trans (by omega : A.length + sz S n ≤ 10000) (by decide)
    have := ih (A ++ (List.range (sz S n)).map fun w => f ++ [w]) (.ext (.tup (nD f))) (fun g hg => hf g (List.mem_cons_of_mem _ hg)) (by rw [List.length_append, List.length_map, List.length_range]; omega) hz (fun u5 => by simpa using hE u5)
    rw [fD_app] at this
    exact this
theorem fills_step {S : List Nat} (fs : List (List Nat)) (n : Nat) (ns : List Nat) :
    ((fs.flatMap fun f => (List.range (sz S n)).map fun w => f ++ [w]).flatMap fun f => (fills S ns).map (f ++ ·)) = fs.flatMap fun f => (fills S (n :: ns)).map (f ++ ·) := by
  rw [List.flatMap_assoc]
  congr 1
  funext f
  rw [fills, List.map_flatMap, List.flatMap_map]
  congr 1
  funext w
  rw [List.map_map]
  exact List.map_congr_left fun g _ => by simp
theorem q3_fillings_of {Ex : DX} {E : DEnds} {S : List Nat} {Z : D} {s1 : Sl} (hZ : SqN S Z) (ns : List Nat) : ∀ (fs : List (List Nat)) (k : Nat) (s3 s4 s5 : Sl), (∀ n ∈ ns, n < S.length ∧ 0 < sz S n) → fs.length * psz S ns ≤ 4096 → (∀ f ∈ fs, f.length = k) → k + ns.length ≤ 1000 →
    (∀ u3 u4 u5, E.nx [.ext Z, s1, .ext (.lst (fD (fs.flatMap fun f => (fills S ns).map (f ++ ·)))), u3, u4, u5, .un]) →
    forD (gSet 3) b4_fillings_of (fun _ => True) Ex E (nD ns) [.ext Z, s1, .ext (.lst (fD fs)), s3, s4, s5, .un] := by
  induction ns with
  | nil =>
    intro fs k s3 s4 s5 _ _ _ _ hE
    have := hE s3 s4 s5
    simp only [fills, List.map_cons, List.map_nil, List.append_nil] at this
    have e : fs.flatMap (fun f => [f]) = fs := by simp
    rw [e] at this
    exact ⟨True.intro, this⟩
  | cons n ns ih =>
    intro fs k s3 s4 s5 hn hb hk hl hE
    rw [List.length_cons] at hl
    obtain ⟨hn1, hn2⟩ := hn n List.mem_cons_self
    have hpos : 0 < psz S ns := prodN_pos fun x hx => by
      obtain ⟨y, hy, rfl⟩ := List.mem_map.1 hx
      exact (hn y (List.mem_cons_of_mem _ hy)).2
    have e : psz S (n :: ns) = sz S n * psz S ns := rfl
    rw [e, ← Nat.mul_assoc] at hb
    have hb2 : fs.length * sz S n ≤ 4096 := Nat.le_trans (Nat.le_mul_of_pos_right _ hpos) hb
    rw [nD_cons, forD]
    unfold b4_fillings_of
    trivial
    refine ⟨by decide, fun a4 => ?_⟩
    by_cases hz : fs = []
    · subst hz
      refine ⟨True.intro, ?_⟩
      unfold k3_fillings_of
      trivial
      exact ih [] (k + 1) _ _ _ (fun m hm => hn m (List.mem_cons_of_mem _ hm)) (by simp) (by simp) (by omega) (fun u3 u4 u5 => by simpa using hE u3 u4 u5)
    have hfl : 0 < fs.length := List.length_pos_iff.2 hz
    have hs : sz S n ≤ 5000 := Nat.le_trans (Nat.le_mul_of_pos_left _ hfl) (by omega)
    refine q2_fillings_of (a4 := a4) hZ hn1 fs [] _ (fun f hf => by rw [hk f hf]; omega) (by simp; omega) hs fun u5 => ?_
    unfold k3_fillings_of
    trivial
    refine ih _ (k + 1) _ _ _ (fun m hm => hn m (List.mem_cons_of_mem _ hm)) ?_ ?_ (by omega) (fun u3 u4 u5 => by rw [fills_step]; exact hE u3 u4 u5)
    · have el : (fs.flatMap fun f => (List.range (sz S n)).map fun w => f ++ [w]).length = fs.length * sz S n := by
        clear ih hb hk hE hz hfl hb2
        induction fs with
        | nil => simp
        | cons f fs ihf => rw [List.flatMap_cons, List.length_append, ihf]; simp [Nat.add_mul, Nat.add_comm]
      rw [el]; exact hb
    · intro f hf
      obtain ⟨g, hg, hf2⟩ := List.mem_flatMap.1 hf
      obtain ⟨w, _, rfl⟩ := List.mem_map.1 hf2
      rw [List.length_append, hk g hg]; rfl
theorem m_fillings_of : Meets t_fillings_of 2 5 sp_fillings_of := by
  rintro args Qd Xd ⟨S, ns, ⟨Z, W, rfl, hZ, hW⟩, hn, hb, hl, hQ⟩
  show t_fillings_of _ _ [_, _, .un, .un, .un, .un, .un]
  unfold t_fillings_of
  have e : ([[]].flatMap fun f => (fills S ns).map (f ++ ·)) = fills S ns := by simp
  rcases hW with rfl | rfl
  all_goals
    trivial
    refine ⟨by decide, by decide, ?_⟩
    refine q3_fillings_of hZ ns [[]] 0 _ _ _ hn (by simpa using hb) (by simp) (by omega) fun u3 u4 u5 => ?_
    unfold k5_fillings_of
    trivial
    rw [e]
    exact hQ _
def sp_place_of : DSpec := fun args Q _ => ∃ (S ns ws : List Nat) (W : D), args = [dSz S, .ext (.tup (nD ns)), .ext W] ∧ (W = .lst (nD ws) ∨ W = .tup (nD ws)) ∧ (∀ n ∈ ns, n < S.length ∧ 0 < sz S n) ∧ Good S ns ws ∧ psz S ns ≤ 4096 ∧ ∀ fin, Q (dI (pl S 0 ns ws : Nat)) fin
def b1_place_of : DTS :=
    (sSetE 3 (dOp fAdd (dOp fMul (dVar 3) (dOp fIx (dVar 0) (dVar 4))) (dVar 5)))
def k2_place_of : DTS :=
    (sRet (dVar 3))
def t_place_of : DTS :=
    (sSeq (sSetE 3 (dC (.int 0)))
    (sSeq (sFor (dZip (dVar 1) (dVar 2)) (gTupD 2 (gsCons (gSet 4) (gsCons (gSet 5) gsNil))) b1_place_of)
    k2_place_of))
theorem zip_pairs (ns ws : List Nat) : ((nD ns).zip (nD ws)).map (fun p => D.tk [p.1, p.2]) = (ns.zip ws).map fun p => D.tk [.int (p.1 : Nat), .int (p.2 : Nat)] := by
  induction ns generalizing ws with
  | nil => rfl
  | cons n ns ih =>
    cases ws with
    | nil => rfl
    | cons w ws => simp only [nD_cons, List.zip_cons_cons, List.map_cons, ih]
theorem q1_place_of {Ex : DX} {E : DEnds} {S : List Nat} {s1 s2 : Sl} {keep : Env' → Prop} (hk : ∀ e, keep e) (ns : List Nat) : ∀ (ws : List Nat) (acc : Nat) (s4 s5 : Sl), (∀ n ∈ ns, n < S.length ∧ 0 < sz S n) → Good S ns ws → (acc + 1) * psz S ns ≤ 4096 →
    (∀ u4 u5, E.nx [dSz S, s1, s2, dI (pl S acc ns ws : Nat), u4, u5]) →
    forD (gTupD 2 (gsCons (gSet 4) (gsCons (gSet 5) gsNil))) b1_place_of keep Ex E ((ns.zip ws).map fun p => D.tk [.int (p.1 : Nat), .int (p.2 : Nat)]) [dSz S, s1, s2, dI (acc : Nat), s4, s5] := by
  induction ns with
  | nil =>
    intro ws acc s4 s5 _ hg _ hE
    have e : ws = [] := hg
    subst e
    exact ⟨hk _, hE s4 s5⟩
  | cons n ns ih =>
    intro ws acc s4 s5 hn hg hb hE
    obtain ⟨w, r, rfl, hw, hr⟩ := hg
    obtain ⟨hn1, hn2⟩ := hn n List.mem_cons_self
    have hpos : 0 < psz S ns := prodN_pos fun x hx => by
      obtain ⟨y, hy, rfl⟩ := List.mem_map.1 hx
      exact (hn y (List.mem_cons_of_mem _ hy)).2
    have e : psz S (n :: ns) = sz S n * psz S ns := rfl
    rw [e, ← Nat.mul_assoc] at hb
    have hb2 : (acc + 1) * sz S n ≤ 4096 := Nat.le_trans (Nat.le_mul_of_pos_right _ hpos) hb
    have hb3 : acc + 1 ≤ 4096 := Nat.le_trans (Nat.le_mul_of_pos_right _ hn2) hb2
    have hb4 : sz S n ≤ 4096 := Nat.le_trans (Nat.le_mul_of_pos_left _ (by omega)) hb2
    have hb5 : (acc * sz S n + w + 1) ≤ (acc + 1) * sz S n := by rw [Nat.add_mul]; omega
    rw [List.zip_cons_cons, List.map_cons, forD]
    unfold b1_place_of
    trivial
    refine ⟨hk _, ⟨_, atN (sz_at hn1), ?_⟩⟩
    trivial
    refine ⟨cmul64 (by omega) (by omega) (by omega) (by omega), ?_⟩
    have := ih r (acc * sz S n + w) (dI (n : Nat)) (dI (w : Nat)) (fun m hm => hn m (List.mem_cons_of_mem _ hm)) hr (Nat.le_trans (Nat.mul_le_mul_right _ hb5) hb) hE
    rw [Int.natCast_add, Int.natCast_mul] at this
    exact this
theorem m_place_of : Meets t_place_of 3 3 sp_place_of := by
  rintro args Qd Xd ⟨S, ns, ws, W, rfl, hW, hn, hg, hb, hQ⟩
  show t_place_of _ _ [_, _, _, .un, .un, .un]
  unfold t_place_of
  rcases hW with rfl | rfl
  all_goals
    trivial
    rw [zip_pairs]
    refine q1_place_of (fun _ => by trivial) ns ws 0 _ _ hn hg (by simpa using hb) fun u4 u5 => ?_
    unfold k2_place_of
    trivial
    exact hQ _
theorem getD_at {g : List Nat} {n : Nat} (h : n < g.length) : (nD g)[n]? = some (.int (g.getD n 0 : Nat)) := by
  simp [List.getElem?_map, List.getD_eq_getElem?_getD, List.getElem?_eq_getElem h]
theorem Part.Ok.both {S : List Nat} {p : Part} (hS : SzOk S) (hp : p.Ok S) : ∀ n ∈ p.ns, n < S.length ∧ 0 < sz S n := fun n hn => ⟨hp.lt n hn, hS.pos _ (sz_mem (hp.lt n hn))⟩
theorem Part.Ok.psz {S : List Nat} {p : Part} (hS : SzOk S) (hp : p.Ok S) : PM.psz S p.ns ≤ 4096 := Nat.le_trans (psz_le hS.pos hp.rise hp.lt) hS.prod
theorem iD_at {l : List Int} {i : Nat} {x : Int} (h : l[i]? = some x) : (iD l)[i]? = some (.int x) := by
  rw [List.getElem?_map, h]; rfl
end LS
namespace LS
open PySem L2 HD PM
def D.pl : Nat → D → Bool
  | _, .non => true
  | _, .bl _ => true
  | _, .int _ => true
  | _, .str _ => true
  | k + 1, .lst ds => decide (ds.length ≤ 100000) && ds.all (D.pl k)
  | k + 1, .tup ds => decide (ds.length ≤ 100000) && ds.all (D.pl k)
  | _, _ => false
theorem noVals_of {ds : List D} (h : ∀ d ∈ ds, d.noVal = true) : D.noVals ds = true := by
  induction ds with
  | nil => rfl
  | cons d ds ih => rw [D.noVals, h d List.mem_cons_self, ih fun e he => h e (List.mem_cons_of_mem _ he)]; rfl
theorem pl_noVal : ∀ (k : Nat) (d : D), D.pl k d = true → d.noVal = true := by
  intro k
  induction k with
  | zero => intro d h; cases d <;> first | rfl | simp [D.pl] at h
  | succ k ih =>
    intro d h
    cases d with
    | lst ds => rw [D.pl, Bool.and_eq_true, List.all_eq_true] at h; exact noVals_of fun e he => ih e (h.2 e he)
    | tup ds => rw [D.pl, Bool.and_eq_true, List.all_eq_true] at h; exact noVals_of fun e he => ih e (h.2 e he)
    | non => rfl
    | bl _ => rfl
    | int _ => rfl
    | str _ => rfl
    | val _ => simp [D.pl] at h
    | fz _ => simp [D.pl] at h
    | tk _ => simp [D.pl] at h
    | exc _ => simp [D.pl] at h
    | glo _ => simp [D.pl] at h
    | dk _ _ => simp [D.pl] at h
    | dt _ _ => simp [D.pl] at h
end LS
namespace LS
open PySem L2 HD PM
def D.pi : Nat → D → Bool
  | _, .non => true
  | _, .bl _ => true
  | _, .int _ => true
  | _, .str x => PyData.canLay0 (.str x)
  | k + 1, .lst ds => ds.all (D.pi k)
  | k + 1, .tup ds => ds.all (D.pi k)
  | _, _ => false
theorem pys_of {k : Nat} {ds : List D} (h : ∀ d ∈ ds, d.noVal = true ∧ d.py.canLay0 = true ∧ d.py.depth ≤ k) : D.noVals ds = true ∧ PyData.canLayAll0 (D.pys ds) = true ∧ PyData.depthAll (D.pys ds) ≤ k := by
  induction ds with
  | nil => exact ⟨rfl, rfl, by simp [D.pys, PyData.depthAll]⟩
  | cons d ds ih =>
    obtain ⟨h1, h2, h3⟩ := h d List.mem_cons_self
    obtain ⟨i1, i2, i3⟩ := ih fun e he => h e (List.mem_cons_of_mem _ he)
    refine ⟨by simp [D.noVals, h1, i1], by simp [D.pys, PyData.canLayAll0, h2, i2], ?_⟩
    simp only [D.pys, PyData.depthAll]
    omega
theorem pi_cmp0 : ∀ (k : Nat) (d : D), D.pi k d = true → d.noVal = true ∧ d.py.canLay0 = true ∧ d.py.depth ≤ k := by
  intro k
  induction k with
  | zero => intro d h; cases d <;> first | exact ⟨rfl, rfl, by simp [D.py, PyData.depth]⟩ | exact ⟨rfl, h, by simp [D.py, PyData.depth]⟩ | simp [D.pi] at h
  | succ k ih =>
    intro d h
    cases d with
    | lst ds =>
      rw [D.pi, List.all_eq_true] at h
      obtain ⟨h1, h2, h3⟩ := pys_of fun e he => ih e (h e he)
      exact ⟨h1, by simpa [D.py, PyData.canLay0] using h2, by simp only [D.py, PyData.depth]; omega⟩
    | tup ds =>
      rw [D.pi, List.all_eq_true] at h
      obtain ⟨h1, h2, h3⟩ := pys_of fun e he => ih e (h e he)
      exact ⟨h1, by simpa [D.py, PyData.canLay0] using h2, by simp only [D.py, PyData.depth]; omega⟩
    | non => exact ⟨rfl, rfl, by simp [D.py, PyData.depth]⟩
    | bl _ => exact ⟨rfl, rfl, by simp [D.py, PyData.depth]⟩
    | int _ => exact ⟨rfl, rfl, by simp [D.py, PyData.depth]⟩
    | str _ => exact ⟨rfl, h, by simp [D.py, PyData.depth]⟩
    | val _ => simp [D.pi] at h
    | fz _ => simp [D.pi] at h
    | tk _ => simp [D.pi] at h
    | exc _ => simp [D.pi] at h
    | glo _ => simp [D.pi] at h
    | dk _ _ => simp [D.pi] at h
    | dt _ _ => simp [D.pi] at h
theorem pi_cmp {k : Nat} {d : D} (hk : k ≤ 64) (h : D.pi k d = true) : d.cmp := by
  obtain ⟨h1, h2, h3⟩ := pi_cmp0 k d h
  refine ⟨h1, ?_⟩
  unfold SeqAt.shaped
  rw [h2]
  simp; omega
theorem pi_ints (k : Nat) (l : List Int) : (iD l).all (D.pi k) = true := by
  rw [List.all_eq_true]
  intro d hd
  obtain ⟨i, _, rfl⟩ := List.mem_map.1 hd
  cases k <;> rfl
theorem pi_nats (k : Nat) (l : List Nat) : (nD l).all (D.pi k) = true := by
  rw [List.all_eq_true]
  intro d hd
  obtain ⟨i, _, rfl⟩ := List.mem_map.1 hd
  cases k <;> rfl
theorem pl_nats (k : Nat) (l : List Nat) : (nD l).all (D.pl k) = true := by
  rw [List.all_eq_true]
  intro d hd
  obtain ⟨i, _, rfl⟩ := List.mem_map.1 hd
  cases k <;> rfl
def Bd (k : Nat) (p : Part) : Prop := ∀ x ∈ p.ws, x.natAbs < 2 ^ k
theorem jn_bd {w : Wd} {a b : Nat} {x y : Int} (ha : 0 < a) (hb : 0 < b) (hx : x.natAbs < 2 ^ a) (hy : y.natAbs < 2 ^ b) : (jn w x y).natAbs < 2 ^ (a + b) := by
  have e : 2 ^ (a + b) = 2 ^ a * 2 ^ b := Nat.pow_add 2 a b
  have a2 : 2 ≤ 2 ^ a := by
    have := Nat.pow_le_pow_right (n := 2) (by decide) ha
    simpa using this
  have b2 : 2 ≤ 2 ^ b := by
    have := Nat.pow_le_pow_right (n := 2) (by decide) hb
    simpa using this
  have s1 : 2 ^ a * 2 ≤ 2 ^ a * 2 ^ b := Nat.mul_le_mul_left _ b2
  have s2 : 2 * 2 ^ b ≤ 2 ^ a * 2 ^ b := Nat.mul_le_mul_right _ a2
  cases w with
  | sum =>
    show (x * y).natAbs < _
    rw [Int.natAbs_mul, e]
    rcases Nat.eq_zero_or_pos y.natAbs with z | z
    · rw [z, Nat.mul_zero]; omega
    · exact Nat.mul_lt_mul'' hx hy
  | most => show (x + y).natAbs < _; omega
  | least => show (x + y).natAbs < _; omega
  | wide => show (if y < x then y else x).natAbs < _; split <;> omega
  | any => show (if y < x then y else x).natAbs < _; split <;> omega
end LS
namespace PM
open LS
def fold1 (op : Int → Int → Int) : List Int → Int
  | [] => 0
  | x :: xs => xs.foldl op x
def gop : Wd → Int → Int → Int
  | .sum, a, b => a + b
  | .least, a, b => if b < a then b else a
  | _, a, b => if a < b then b else a
abbrev gt (w : Wd) (l : List Int) : Int := fold1 (gop w) l
def put (g : Nat → Nat) (n v : Nat) : Nat → Nat := fun m => if m = n then v else g m
def wo (ns : List Nat) (n : Nat) : List Nat := ns.filter fun m => decide (m ≠ n)
def setP (S : List Nat) (p : Part) (n v : Nat) : Part := mkP S (wo p.ns n) fun g => val S p (put g n v)
end PM
namespace LS
open PySem L2 HD PM
local macro_rules | `(tactic| trivial) => `(tactic| try simp -dsimp only [↓sSeq, ↓sIf, ↓sRet, ↓retD_ext, ↓retD_lst, ↓retD_al, ↓sSet, ↓sSetE, ↓sAsg, ↓sDrop, ↓sNext, ↓sFor, ↓sRetN, ↓sCont, ↓sBreak, ↓dTest, ↓dOp, ↓dVar_w, ↓dC, ↓dCons, ↓dNil, ↓dTup, ↓dLst, ↓frzDs, ↓frzD_ext, ↓frzD_lst, ↓frzD_al, ↓wd_ext, ↓wd_lst, ↓wd_al, ↓wds, ↓AtS_ext, ↓AtS_lst, ↓AtL, ↓fAdd, ↓fSub, ↓fMul, ↓fDiv, ↓fMod, ↓fPow, ↓fCmp, ↓fIn, ↓fEq_ii, ↓fEq_ss, ↓fEq_bb, ↓fEq_tt, ↓fEq_ll, ↓fNe_ii, ↓fNe_ss, ↓fNe_bb, ↓fNe_tt, ↓fNe_ll, ↓fIx_l, ↓fIx_t, ↓fIx_k, ↓fIx_f, ↓GetS_some, ↓NatS_some, ↓fSl, ↓fIsN, ↓fNotN, ↓D.knN, ↓dNot, ↓dAnd, ↓dOr, ↓dAndV_w, ↓dOrV_w, ↓dNotV, ↓dIf, ↓dNeg, ↓dChain_w, ↓BlS_bl, ↓dCall_w, ↓dCallJ_w, ↓anyAl, ↓frozs, ↓froz, ↓gSet, ↓gTupD, ↓gsCons, ↓gsNil, ↓dSeq, ↓seqD_tup, ↓seqD_elst, ↓seqD_lst, ↓seqD_al, ↓dRange1, ↓dRange2, ↓dZip, ↓dCB, ↓dLc, ↓dYes, ↓dNoPart, ↓dPart, ↓dSl, ↓fLen, ↓fMin, ↓fMax, ↓fSum, ↓fAll, ↓fAny, ↓fSorted, ↓fTuple, ↓fList, ↓dRg1, ↓dRg2, ↓dLstRg, ↓dTupRg, ↓dIndex, ↓fIdx, ↓dAppend_w, ↓dExtend_w, ↓extD_lst, ↓dPopAt_w, ↓popD_int, ↓dPop_w, ↓mutD_w, ↓sSetItem_w, ↓setD_int, ↓dSortSet, ↓dTable_w, ↓wipeE, finals1, finals2, finals3, finals4, finals5, finals6, fin1_ext, fin1_lst, List.getElem?_cons_zero, List.getElem?_cons_succ, List.getElem?_nil, List.set_cons_zero, List.set_cons_succ, List.cons_append, List.nil_append, List.append_nil, List.replicate_succ, List.replicate_zero, List.map_cons, List.map_nil, List.length_cons, List.length_nil, true_and, and_true, ite_true, ite_false, if_true, if_false, Bool.false_eq_true, decide_eq_true_eq, Sl.plain, D.isSq, eq_self_iff_true, forall_const, reduceIte, true_or, or_true, atI_0, atI_1, atI_2, atI_3, ixN_0, ixN_1, ixN_2, AtS_ext, AtS_lst, FzS_lst, FzS_ext, GetS_some, NatS_some, ↓fIsi1, ↓fIsi2, BoolS_some, HD.kb_non_tuple, HD.kb_non_list, HD.kb_non_bool, HD.kb_non_int, HD.kb_non_str, HD.kb_bl_tuple, HD.kb_bl_list, HD.kb_bl_bool, HD.kb_bl_int, HD.kb_bl_str, HD.kb_int_tuple, HD.kb_int_list, HD.kb_int_bool, HD.kb_int_int, HD.kb_int_str, HD.kb_str_tuple, HD.kb_str_list, HD.kb_str_bool, HD.kb_str_int, HD.kb_str_str, HD.kb_lst_tuple, HD.kb_lst_list, HD.kb_lst_bool, HD.kb_lst_int, HD.kb_lst_str, HD.kb_tup_tuple, HD.kb_tup_list, HD.kb_tup_bool, HD.kb_tup_int, HD.kb_tup_str, ↓sFz_w, ↓FzS_lst, ↓FzS_ext, ↓dSortSetL, ↓fAbs, ↓fInt, ↓fRepr, ↓fLtT, ↓sRaise, ↓sTryKeep, ↓dCallV_w, ↓dMeth, ↓fCount, ↓fSplit])
def sp_gather : DSpec := fun args Q _ => ∃ (w : Wd) (l : List Int), args = [dW w, .ext (.lst (iD l))] ∧ l ≠ [] ∧ ∀ fin, Q (dI (gt w l)) fin
def t_gather : DTS :=
    (sSeq (sIf (dTest (dOp fEq (dVar 0) (dC (.str (Str.ofString "sum"))))) (sRet (dCB fSum (dCons (dVar 1) dNil))) sNext)
    (sRet (dIf (dTest (dOp fEq (dVar 0) (dC (.str (Str.ofString "least"))))) (dCB fMin (dCons (dVar 1) dNil)) (dCB fMax (dCons (dVar 1) dNil)))))
theorem fold1_mem {op : Int → Int → Int} (h : ∀ a b, op a b = a ∨ op a b = b) (l : List Int) : ∀ x, l.foldl op x = x ∨ l.foldl op x ∈ l := by
  induction l with
  | nil => intro x; exact .inl rfl
  | cons y l ih =>
    intro x
    rw [List.foldl_cons]
    rcases ih (op x y) with e | e
    · rw [e]
      rcases h x y with h | h <;> rw [h]
      · exact .inl rfl
      · exact .inr List.mem_cons_self
    · exact .inr (List.mem_cons_of_mem _ e)
theorem fold1_low {op : Int → Int → Int} (R : Int → Int → Prop) (rf : ∀ a, R a a) (tr : ∀ a b c, R a b → R b c → R a c) (hl : ∀ a b, R (op a b) a) (hr : ∀ a b, R (op a b) b) (l : List Int) : ∀ x, R (l.foldl op x) x ∧ ∀ y ∈ l, R (l.foldl op x) y := by
  induction l with
  | nil => intro x; exact ⟨rf x, by simp⟩
  | cons y l ih =>
    intro x
    rw [List.foldl_cons]
    obtain ⟨h1, h2⟩ := ih (op x y)
    refine ⟨tr _ _ _ h1 (hl x y), fun z hz => ?_⟩
    rcases List.mem_cons.1 hz with rfl | hz
    · exact tr _ _ _ h1 (hr x z)
    · exact h2 z hz
theorem gt_least {l : List Int} (hl : l ≠ []) {m : Int} (h1 : m ∈ l) (h2 : ∀ y ∈ l, m ≤ y) : gt .least l = m := by
  cases l with
  | nil => exact absurd rfl hl
  | cons x l =>
    obtain ⟨a1, a2⟩ := fold1_low (op := gop .least) (· ≤ ·) Int.le_refl (fun a b c => Int.le_trans) (fun a b => by simp only [gop]; split <;> omega) (fun a b => by simp only [gop]; split <;> omega) l x
    have a3 : l.foldl (gop .least) x ≤ m := by
      rcases List.mem_cons.1 h1 with rfl | h
      · exact a1
      · exact a2 m h
    have a4 : m ≤ l.foldl (gop .least) x := by
      rcases fold1_mem (op := gop .least) (fun a b => by simp only [gop]; split <;> simp) l x with e | e
      · rw [e]; exact h2 x List.mem_cons_self
      · exact h2 _ (List.mem_cons_of_mem _ e)
    exact Int.le_antisymm a3 a4
theorem gt_max {w : Wd} (hw : w ≠ .sum) (hw2 : w ≠ .least) {l : List Int} (hl : l ≠ []) {m : Int} (h1 : m ∈ l) (h2 : ∀ y ∈ l, y ≤ m) : gt w l = m := by
  have e : gop w = gop .most := by cases w <;> first | rfl | contradiction
  cases l with
  | nil => exact absurd rfl hl
  | cons x l =>
    show l.foldl (gop w) x = m
    rw [e]
    obtain ⟨a1, a2⟩ := fold1_low (op := gop .most) (· ≥ ·) Int.le_refl (fun a b c h1 h2 => Int.le_trans h2 h1) (fun a b => by simp only [gop]; split <;> omega) (fun a b => by simp only [gop]; split <;> omega) l x
    have a3 : l.foldl (gop .most) x ≥ m := by
      rcases List.mem_cons.1 h1 with rfl | h
      · exact a1
      · exact a2 m h
    have a4 : m ≥ l.foldl (gop .most) x := by
      rcases fold1_mem (op := gop .most) (fun a b => by simp only [gop]; split <;> simp) l x with e | e
      · rw [e]; exact h2 x List.mem_cons_self
      · exact h2 _ (List.mem_cons_of_mem _ e)
    exact Int.le_antisymm a4 a3
theorem gt_sum (l : List Int) : gt .sum l = l.sum := by
  cases l with
  | nil => rfl
  | cons x l =>
    show l.foldl (gop .sum) x = _
    rw [List.sum_cons]
    induction l generalizing x with
    | nil => show x = x + 0; omega
    | cons y l ih =>
      rw [List.foldl_cons, ih, List.sum_cons]
      show x + y + _ = _
      omega
theorem m_gather : Meets t_gather 2 0 sp_gather := by
  rintro args Qd Xd ⟨w, l, rfl, hl, hQ⟩
  show t_gather _ _ [_, _]
  unfold t_gather
  trivial
  simp only [w_sum, w_least, decide_eq_true_eq]
  split
  · rename_i e; subst e
    refine ⟨l, rfl, ?_⟩
    rw [gt_sum] at hQ
    exact hQ _
  · rename_i e1
    split
    · rename_i e; subst e
      refine ⟨l, rfl, hl, fun m h1 h2 => ?_⟩
      have := hQ [dW Wd.least, .ext (.lst (iD l))]
      rw [gt_least hl h1 h2] at this
      exact this
    · rename_i e2
      refine ⟨l, rfl, hl, fun m h1 h2 => ?_⟩
      have := hQ [dW w, .ext (.lst (iD l))]
      rw [gt_max e1 e2 hl h1 h2] at this
      exact this
def D.isInt : D → Bool
  | .int _ => true
  | _ => false
def sp_is_whole : DSpec := fun args Q _ => ∃ (d : D) (k : Nat), args = [.ext d] ∧ D.pl k d = true ∧ ∀ fin, Q (.ext (.bl (D.isInt d))) fin
def t_is_whole : DTS :=
    (sRet (dAndV (dCB fIsi (dCons (dVar 0) (dCons (dC (.val (.ty "int"))) dNil))) (dNotV (dCB fIsi (dCons (dVar 0) (dCons (dC (.val (.ty "bool"))) dNil))))))
theorem m_is_whole : Meets t_is_whole 1 0 sp_is_whole := by
  rintro args Qd Xd ⟨d, k, rfl, hp, hQ⟩
  have nv := pl_noVal k d hp
  show t_is_whole _ _ [_]
  unfold t_is_whole
  cases d with
  | val _ => cases k <;> simp [D.pl] at hp
  | fz _ => cases k <;> simp [D.pl] at hp
  | tk _ => cases k <;> simp [D.pl] at hp
  | exc _ => cases k <;> simp [D.pl] at hp
  | glo _ => cases k <;> simp [D.pl] at hp
  | dk _ _ => cases k <;> simp [D.pl] at hp
  | dt _ _ => cases k <;> simp [D.pl] at hp
  | _ =>
    trivial
    simp only [nv, D.isFz, true_and, Bool.not_true, Bool.not_false]
    exact hQ _
theorem ok_len {S : List Nat} {p : Part} (hS : SzOk S) (hp : p.Ok S) : p.ns.length ≤ 24 := Nat.le_trans (rising_len hp.rise hp.lt) hS.few
def NamesD (many : Int) (d : D) : Prop := ∃ ns : List Nat, d = .tup (nD ns) ∧ Rising ns ∧ ∀ n ∈ ns, (n : Int) < many
def inR (many : Int) : D → Bool
  | .int i => decide (0 ≤ i) && decide (i < many)
  | _ => false
theorem all_inR {many : Int} {ds : List D} (h : ds.all (inR many) = true) : ∃ ns : List Nat, ds = nD ns ∧ ∀ n ∈ ns, (n : Int) < many := by
  induction ds with
  | nil => exact ⟨[], rfl, by simp⟩
  | cons d ds ih =>
    rw [List.all_cons, Bool.and_eq_true] at h
    obtain ⟨ns, rfl, h2⟩ := ih h.2
    cases d with
    | int i =>
      have h1 : decide (0 ≤ i) && decide (i < many) := h.1
      rw [Bool.and_eq_true, decide_eq_true_eq, decide_eq_true_eq] at h1
      refine ⟨i.toNat :: ns, ?_, fun n hn => ?_⟩
      · rw [nD_cons, Int.toNat_of_nonneg h1.1]
      · rcases List.mem_cons.1 hn with rfl | hn
        · omega
        · exact h2 n hn
    | _ => exact absurd h.1 (by simp [inR])
theorem inR_all {many : Int} {ns : List Nat} (h : ∀ n ∈ ns, (n : Int) < many) : (nD ns).all (inR many) = true := by
  rw [List.all_eq_true]
  intro d hd
  obtain ⟨n, hn, rfl⟩ := List.mem_map.1 hd
  have := h n hn
  simp [inR]; omega
theorem rising_adj {ns : List Nat} : Rising ns ↔ ∀ k, k + 1 < ns.length → ns.getD k 0 < ns.getD (k + 1) 0 := by
  induction ns with
  | nil => exact ⟨fun _ k hk => by simp at hk, fun _ => .nil⟩
  | cons x ns ih =>
    unfold Rising at *
    rw [List.pairwise_cons, ih]
    constructor
    · rintro ⟨h1, h2⟩ k hk
      cases k with
      | zero =>
        cases ns with
        | nil => simp at hk
        | cons y ns => simpa using h1 y List.mem_cons_self
      | succ k => simpa using h2 k (by simpa using hk)
    · intro h
      refine ⟨?_, fun k hk => by simpa using h (k + 1) (by simpa using hk)⟩
      have h2 : ∀ k, k < ns.length → x < ns.getD k 0 := by
        intro k
        induction k with
        | zero =>
          intro hk
          have := h 0 (by simp; omega)
          simpa using this
        | succ k ihk =>
          intro hk
          have a := ihk (by omega)
          have b := h (k + 1) (by simp; omega)
          have b' : ns.getD k 0 < ns.getD (k + 1) 0 := by simpa using b
          omega
      intro y hy
      obtain ⟨i, hi, rfl⟩ := List.getElem_of_mem hy
      have := h2 i hi
      simpa [List.getD_eq_getElem?_getD, List.getElem?_eq_getElem hi] using this
theorem nD_inj {a b : List Nat} (h : nD a = nD b) : a = b := by
  induction a generalizing b with
  | nil => cases b with
    | nil => rfl
    | cons y b => simp at h
  | cons x a ih => cases b with
    | nil => simp at h
    | cons y b =>
      rw [nD_cons, nD_cons] at h
      have h1 := (List.cons.inj h).1
      have h2 := ih (List.cons.inj h).2
      have h3 := D.int.inj h1
      rw [h2, show x = y by omega]
def sp_are_names : DSpec := fun args Q _ => ∃ (many : Int) (d : D) (k : Nat), args = [dI many, .ext d] ∧ D.pl k d = true ∧ ∀ (b : Bool) fin, (b = true ↔ NamesD many d) → Q (.ext (.bl b)) fin
def e1_are_names : DT :=
    (dAndV (dCall sp_is_whole (dCons (dVar 2) dNil)) (dChain (fCmp fun i j => decide (i ≤ j)) (fCmp fun i j => decide (i < j)) (dC (.int 0)) (dVar 2) (dVar 0)))
def e2_are_names : DT :=
    (dOp (fCmp fun i j => decide (i < j)) (dOp fIx (dVar 1) (dOp fSub (dVar 3) (dC (.int 1)))) (dOp fIx (dVar 1) (dVar 3)))
def t_are_names : DTS :=
    (sSeq (sIf (dOr (dNot (dTest (dCB fIsi (dCons (dVar 1) (dCons (dC (.val (.ty "tuple"))) dNil))))) (dNot (dTest (dCB fAll (dCons (dLc (dSeq (dVar 1)) (gSet 2) dYes e1_are_names [2]) dNil))))) (sRet (dC (.bl false))) sNext)
    (sRet (dCB fAll (dCons (dLc (dRange2 (dCons (dC (.int 1)) (dCons (dCB fLen (dCons (dVar 1) dNil)) dNil))) (gSet 3) dYes e2_are_names [3]) dNil))))
theorem q1_are_names {Q : Sl → Env' → Prop} {many : Int} {s1 s3 : Sl} {k : Nat} (ds : List D) : ∀ acc : List Bool, (∀ d ∈ ds, D.pl k d = true) → acc.length + ds.length ≤ 200000 → (∀ b, Q (.lst b ((acc ++ ds.map (inR many)).map D.bl)) [dI many, s1, .un, s3]) →
    lcD (gSet 2) dYes e1_are_names [2] (fun _ => True) Q ds (acc.map D.bl) [dI many, s1, .un, s3] := by
  induction ds with
  | nil => intro acc _ _ hQ; exact ⟨True.intro, fun b => by simpa using hQ b⟩
  | cons d ds ih =>
    intro acc hp hl hQ
    rw [List.length_cons] at hl
    rw [lcD]
    unfold e1_are_names
    trivial
    refine ⟨by rw [List.length_map]; exact Nat.lt_of_le_of_lt (by omega : acc.length ≤ 200000) (by decide), d, k, rfl, hp d List.mem_cons_self, fun fin => ?_⟩
    trivial
    have next : ∀ b : Bool, b = inR many d → lcD (gSet 2) dYes e1_are_names [2] (fun _ => True) Q ds (acc.map D.bl ++ [.bl b]) [dI many, s1, .un, s3] := by
      intro b hb
      have := ih (acc ++ [b]) (fun e he => hp e (List.mem_cons_of_mem _ he)) (by rw [List.length_append, List.length_singleton]; omega) (fun a => by rw [hb]; simpa using hQ a)
      rw [List.map_append] at this
      exact this
    cases d with
    | int i =>
      rw [if_pos (show D.isInt (.int i) = true from rfl)]
      trivial
      split
      · refine next _ ?_
        rename_i h0
        simp [inR, h0]
      · refine next _ ?_
        rename_i h0
        simp [inR, h0]
    | _ =>
      rw [if_neg (by simp [D.isInt])]
      exact next _ rfl
theorem q2_are_names {Q : Sl → Env' → Prop} {s0 s2 : Sl} {ns : List Nat} (m : Nat) : ∀ (j : Nat) (acc : List Bool), j + m = ns.length - 1 → acc.length = j → ns.length ≤ 200000 → (∀ b, Q (.lst b ((acc ++ (List.range m).map fun i => decide (ns.getD (j + i) 0 < ns.getD (j + i + 1) 0)).map D.bl)) [s0, .ext (.tup (nD ns)), s2, .un]) →
    lcD (gSet 3) dYes e2_are_names [3] (fun _ => True) Q ((List.range m).map fun i => D.int (1 + ((j + i : Nat) : Int))) (acc.map D.bl) [s0, .ext (.tup (nD ns)), s2, .un] := by
  induction m with
  | zero => intro j acc _ _ _ hQ; exact ⟨True.intro, fun b => by simpa using hQ b⟩
  | succ m ih =>
    intro j acc hj ha hl hQ
    rw [List.range_succ_eq_map, List.map_cons, List.map_map, lcD]
    unfold e2_are_names
    trivial
    refine ⟨by rw [List.length_map]; exact Nat.lt_of_le_of_lt (by omega : acc.length ≤ 200000) (by decide), ?_⟩
    rw [show (1 + ((j + 0 : Nat) : Int) - 1) = ((j : Nat) : Int) by omega, show (1 + ((j + 0 : Nat) : Int)) = ((j + 1 : Nat) : Int) by omega]
    refine ⟨_, atN (getD_at (g := ns) (n := j) (by omega)), ?_⟩
    trivial
    refine ⟨_, atN (getD_at (g := ns) (n := j + 1) (by omega)), ?_⟩
    trivial
    have := ih (j + 1) (acc ++ [decide (ns.getD j 0 < ns.getD (j + 1) 0)]) (by omega) (by simp; omega) hl (fun b => by
      have := hQ b
      rw [List.range_succ_eq_map, List.map_cons, List.map_map] at this
      rw [List.append_assoc]
      have e : ((List.range m).map fun i => decide (ns.getD (j + 1 + i) 0 < ns.getD (j + 1 + i + 1) 0)) = (List.range m).map ((fun i => decide (ns.getD (j + i) 0 < ns.getD (j + i + 1) 0)) ∘ Nat.succ) :=
        List.map_congr_left fun i _ => by show _ = decide (ns.getD (j + (i + 1)) 0 < ns.getD (j + (i + 1) + 1) 0); rw [show j + 1 + i = j + (i + 1) by omega]
      rw [e]
      exact this)
    rw [List.map_append] at this
    have e : ((List.range m).map ((fun i : Nat => D.int (1 + ((j + i : Nat) : Int))) ∘ Nat.succ)) = (List.range m).map fun i : Nat => D.int (1 + ((j + 1 + i : Nat) : Int)) :=
      List.map_congr_left fun i _ => by show D.int (1 + ((j + (i + 1) : Nat) : Int)) = _; rw [show j + 1 + i = j + (i + 1) by omega]
    rw [e]
    have e2 : decide (((ns.getD j 0 : Nat) : Int) < ((ns.getD (j + 1) 0 : Nat) : Int)) = decide (ns.getD j 0 < ns.getD (j + 1) 0) := by
      simp
    rw [e2]
    exact this
theorem m_are_names : Meets t_are_names 2 2 sp_are_names := by
  rintro args Qd Xd ⟨many, d, k, rfl, hp, hQ⟩
  have nv := pl_noVal k d hp
  show t_are_names _ _ [_, _, .un, .un]
  unfold t_are_names
  cases d with
  | val _ => cases k <;> simp [D.pl] at hp
  | fz _ => cases k <;> simp [D.pl] at hp
  | tk _ => cases k <;> simp [D.pl] at hp
  | exc _ => cases k <;> simp [D.pl] at hp
  | glo _ => cases k <;> simp [D.pl] at hp
  | dk _ _ => cases k <;> simp [D.pl] at hp
  | dt _ _ => cases k <;> simp [D.pl] at hp
  | tup ds =>
    cases k with
    | zero => simp [D.pl] at hp
    | succ k =>
      rw [D.pl, Bool.and_eq_true, List.all_eq_true, decide_eq_true_eq] at hp
      trivial
      simp only [nv, D.isFz, true_and, Bool.not_true, Bool.false_eq_true, if_false]
      refine q1_are_names (k := k) ds [] hp.2 (by simp; omega) fun b => ?_
      trivial
      refine ⟨ds.map (inR many), rfl, ?_⟩
      have ea : (ds.map (inR many)).all id = ds.all (inR many) := by rw [List.all_map]; rfl
      rw [ea]
      by_cases h : ds.all (inR many) = true
      · rw [h, if_neg (by simp)]
        obtain ⟨ns, rfl, hns⟩ := all_inR h
        rw [nD_len] at *
        trivial
        refine ⟨⟨by omega, by omega⟩, ⟨by omega, by omega⟩, ?_⟩
        have er : rgD 1 (ns.length : Int) = (List.range (ns.length - 1)).map fun i : Nat => D.int (1 + ((0 + i : Nat) : Int)) := by
          unfold rgD
          rw [show ((ns.length : Int) - 1).toNat = ns.length - 1 by omega]
          exact List.map_congr_left fun i _ => by rw [Nat.zero_add]
        rw [er]
        refine q2_are_names (ns.length - 1) 0 [] (by omega) rfl (by omega) fun b => ?_
        trivial
        refine ⟨_, rfl, ?_⟩
        refine hQ _ _ ?_
        rw [List.all_map, List.all_eq_true]
        constructor
        · intro hr
          refine ⟨ns, rfl, rising_adj.2 fun j hj => ?_, hns⟩
          have := hr j (List.mem_range.2 (by omega))
          simpa using this
        · rintro ⟨ns', e, hr, _⟩ j hj
          have e' : ns = ns' := by
            have := D.tup.inj e
            exact nD_inj this
          subst e'
          have := rising_adj.1 hr j (by have := List.mem_range.1 hj; omega)
          simpa using this
      · have hf : ds.all (inR many) = false := by simpa using h
        rw [hf, if_pos (by simp)]
        refine hQ _ _ ⟨fun z => by simp at z, ?_⟩
        rintro ⟨ns, e, _, hn⟩
        have e := D.tup.inj e
        subst e
        exact absurd (inR_all hn) h
  | _ =>
    trivial
    simp only [nv, D.isFz, true_and, Bool.not_false, if_true]
    exact hQ _ _ ⟨fun z => by simp at z, fun ⟨_, e, _⟩ => by simp at e⟩
def sp_need_names : DSpec := fun args Q X => ∃ (many : Int) (d : D) (k : Nat), args = [dI many, .ext d] ∧ D.pl k d = true ∧ (NamesD many d → ∀ fin, Q (.ext .non) fin) ∧ (¬ NamesD many d → ∀ fin, X "NoName" fin)
def t_need_names : DTS :=
    (sIf (dNot (dTest (dCall sp_are_names (dCons (dVar 0) (dCons (dVar 1) dNil))))) (sRaise "NoName") sNext)
theorem m_need_names : Meets t_need_names 2 0 sp_need_names := by
  rintro args Qd Xd ⟨many, d, k, rfl, hp, hQ, hX⟩
  show t_need_names _ _ [_, _]
  unfold t_need_names
  trivial
  refine ⟨many, d, k, rfl, hp, fun b fin hb => ?_⟩
  trivial
  by_cases hn : NamesD many d
  · rw [hb.2 hn, if_neg (by simp)]
    exact hQ hn _
  · rw [if_pos (by cases b with
      | true => exact absurd (hb.1 rfl) hn
      | false => rfl)]
    exact hX hn _
end LS
namespace LS
open PySem L2 HD PM
local macro_rules | `(tactic| trivial) => `(tactic| try simp -dsimp only [↓sSeq, ↓sIf, ↓sRet, ↓retD_ext, ↓retD_lst, ↓retD_al, ↓sSet, ↓sSetE, ↓sAsg, ↓sDrop, ↓sNext, ↓sFor, ↓sRetN, ↓sCont, ↓sBreak, ↓dTest, ↓dOp, ↓dVar_w, ↓dC, ↓dCons, ↓dNil, ↓dTup, ↓dLst, ↓frzDs, ↓frzD_ext, ↓frzD_lst, ↓frzD_al, ↓wd_ext, ↓wd_lst, ↓wd_al, ↓wds, ↓AtS_ext, ↓AtS_lst, ↓AtL, ↓fAdd, ↓fSub, ↓fMul, ↓fDiv, ↓fMod, ↓fPow, ↓fCmp, ↓fIn, ↓fEq_ii, ↓fEq_ss, ↓fEq_bb, ↓fEq_tt, ↓fEq_ll, ↓fNe_ii, ↓fNe_ss, ↓fNe_bb, ↓fNe_tt, ↓fNe_ll, ↓fIx_l, ↓fIx_t, ↓fIx_k, ↓fIx_f, ↓GetS_some, ↓NatS_some, ↓fSl, ↓fIsN, ↓fNotN, ↓D.knN, ↓dNot, ↓dAnd, ↓dOr, ↓dAndV_w, ↓dOrV_w, ↓dNotV, ↓dIf, ↓dNeg, ↓dChain_w, ↓BlS_bl, ↓dCall_w, ↓dCallJ_w, ↓anyAl, ↓frozs, ↓froz, ↓gSet, ↓gTupD, ↓gsCons, ↓gsNil, ↓dSeq, ↓seqD_tup, ↓seqD_elst, ↓seqD_lst, ↓seqD_al, ↓dRange1, ↓dRange2, ↓dZip, ↓dCB, ↓dLc, ↓dYes, ↓dNoPart, ↓dPart, ↓dSl, ↓fLen, ↓fMin, ↓fMax, ↓fSum, ↓fAll, ↓fAny, ↓fSorted, ↓fTuple, ↓fList, ↓dRg1, ↓dRg2, ↓dLstRg, ↓dTupRg, ↓dIndex, ↓fIdx, ↓dAppend_w, ↓dExtend_w, ↓extD_lst, ↓dPopAt_w, ↓popD_int, ↓dPop_w, ↓mutD_w, ↓sSetItem_w, ↓setD_int, ↓dSortSet, ↓dTable_w, ↓wipeE, finals1, finals2, finals3, finals4, finals5, finals6, fin1_ext, fin1_lst, List.getElem?_cons_zero, List.getElem?_cons_succ, List.getElem?_nil, List.set_cons_zero, List.set_cons_succ, List.cons_append, List.nil_append, List.append_nil, List.replicate_succ, List.replicate_zero, List.map_cons, List.map_nil, List.length_cons, List.length_nil, true_and, and_true, ite_true, ite_false, if_true, if_false, Bool.false_eq_true, decide_eq_true_eq, Sl.plain, D.isSq, eq_self_iff_true, forall_const, reduceIte, true_or, or_true, atI_0, atI_1, atI_2, atI_3, ixN_0, ixN_1, ixN_2, AtS_ext, AtS_lst, FzS_lst, FzS_ext, GetS_some, NatS_some, ↓fIsi1, ↓fIsi2, BoolS_some, HD.kb_non_tuple, HD.kb_non_list, HD.kb_non_bool, HD.kb_non_int, HD.kb_non_str, HD.kb_bl_tuple, HD.kb_bl_list, HD.kb_bl_bool, HD.kb_bl_int, HD.kb_bl_str, HD.kb_int_tuple, HD.kb_int_list, HD.kb_int_bool, HD.kb_int_int, HD.kb_int_str, HD.kb_str_tuple, HD.kb_str_list, HD.kb_str_bool, HD.kb_str_int, HD.kb_str_str, HD.kb_lst_tuple, HD.kb_lst_list, HD.kb_lst_bool, HD.kb_lst_int, HD.kb_lst_str, HD.kb_tup_tuple, HD.kb_tup_list, HD.kb_tup_bool, HD.kb_tup_int, HD.kb_tup_str, ↓sFz_w, ↓FzS_lst, ↓FzS_ext, ↓dSortSetL, ↓fAbs, ↓fInt, ↓fRepr, ↓fLtT, ↓sRaise, ↓sTryKeep, ↓dCallV_w, ↓dMeth, ↓fCount, ↓fSplit])
def sp_unit : DSpec := sp_law_nothing
def t_unit : DTS :=
    (sSeq (sIf (dTest (dOp (fIn false) (dVar 0) (dTup (dCons (dC (.str (Str.ofString "sum"))) (dCons (dC (.str (Str.ofString "any"))) dNil))))) (sRet (dC (.int 1))) sNext)
    (sRet (dIf (dTest (dOp fEq (dVar 0) (dC (.str (Str.ofString "wide"))))) (dC (.int 1000000000000000000000000000000)) (dC (.int 0)))))
theorem w_in_sa (w : Wd) : (D.str w.s).isIn [.str (Str.ofString "sum"), .str (Str.ofString "any")] = decide (w = .sum ∨ w = .any) := by cases w <;> decide +kernel
theorem m_unit : Meets t_unit 1 0 sp_unit := by
  rintro args Qd Xd ⟨w, rfl, hQ⟩
  show t_unit _ _ [_]
  unfold t_unit
  trivial
  simp only [w_in_sa, w_wide, D.flat, decide_eq_true_eq, true_and]
  cases w <;> simp only [reduceCtorEq, if_true, if_false, or_true, true_or, or_false, and_true] <;> exact ⟨by decide, rfl, hQ _⟩
end LS
namespace LS
open PySem L2 HD PM
local macro_rules | `(tactic| trivial) => `(tactic| try simp -dsimp only [↓sSeq, ↓sIf, ↓sRet, ↓retD_ext, ↓retD_lst, ↓retD_al, ↓sSet, ↓sSetE, ↓sAsg, ↓sDrop, ↓sNext, ↓sFor, ↓sRetN, ↓sCont, ↓sBreak, ↓dTest, ↓dOp, ↓dVar_w, ↓dC, ↓dCons, ↓dNil, ↓dTup, ↓dLst, ↓frzDs, ↓frzD_ext, ↓frzD_lst, ↓frzD_al, ↓wd_ext, ↓wd_lst, ↓wd_al, ↓wds, ↓AtS_ext, ↓AtS_lst, ↓AtL, ↓fAdd, ↓fSub, ↓fMul, ↓fDiv, ↓fMod, ↓fPow, ↓fCmp, ↓fIn, ↓fEq_ii, ↓fEq_ss, ↓fEq_bb, ↓fEq_tt, ↓fEq_ll, ↓fNe_ii, ↓fNe_ss, ↓fNe_bb, ↓fNe_tt, ↓fNe_ll, ↓fIx_l, ↓fIx_t, ↓fIx_k, ↓fIx_f, ↓GetS_some, ↓NatS_some, ↓fSl, ↓fIsN, ↓fNotN, ↓D.knN, ↓dNot, ↓dAnd, ↓dOr, ↓dAndV_w, ↓dOrV_w, ↓dNotV, ↓dIf, ↓dNeg, ↓dChain_w, ↓BlS_bl, ↓dCall_w, ↓dCallJ_w, ↓anyAl, ↓frozs, ↓froz, ↓gSet, ↓gTupD, ↓gsCons, ↓gsNil, ↓dSeq, ↓seqD_tup, ↓seqD_elst, ↓seqD_lst, ↓seqD_al, ↓dRange1, ↓dRange2, ↓dZip, ↓dCB, ↓dLc, ↓dYes, ↓dNoPart, ↓dPart, ↓dSl, ↓fLen, ↓fMin, ↓fMax, ↓fSum, ↓fAll, ↓fAny, ↓fSorted, ↓fTuple, ↓fList, ↓dRg1, ↓dRg2, ↓dLstRg, ↓dTupRg, ↓dIndex, ↓fIdx, ↓dAppend_w, ↓dExtend_w, ↓extD_lst, ↓dPopAt_w, ↓popD_int, ↓dPop_w, ↓mutD_w, ↓sSetItem_w, ↓setD_int, ↓dSortSet, ↓dTable_w, ↓wipeE, finals1, finals2, finals3, finals4, finals5, finals6, fin1_ext, fin1_lst, List.getElem?_cons_zero, List.getElem?_cons_succ, List.getElem?_nil, List.set_cons_zero, List.set_cons_succ, List.cons_append, List.nil_append, List.append_nil, List.replicate_succ, List.replicate_zero, List.map_cons, List.map_nil, List.length_cons, List.length_nil, true_and, and_true, ite_true, ite_false, if_true, if_false, Bool.false_eq_true, decide_eq_true_eq, Sl.plain, D.isSq, eq_self_iff_true, forall_const, reduceIte, true_or, or_true, atI_0, atI_1, atI_2, atI_3, ixN_0, ixN_1, ixN_2, AtS_ext, AtS_lst, FzS_lst, FzS_ext, GetS_some, NatS_some, ↓fIsi1, ↓fIsi2, BoolS_some, HD.kb_non_tuple, HD.kb_non_list, HD.kb_non_bool, HD.kb_non_int, HD.kb_non_str, HD.kb_bl_tuple, HD.kb_bl_list, HD.kb_bl_bool, HD.kb_bl_int, HD.kb_bl_str, HD.kb_int_tuple, HD.kb_int_list, HD.kb_int_bool, HD.kb_int_int, HD.kb_int_str, HD.kb_str_tuple, HD.kb_str_list, HD.kb_str_bool, HD.kb_str_int, HD.kb_str_str, HD.kb_lst_tuple, HD.kb_lst_list, HD.kb_lst_bool, HD.kb_lst_int, HD.kb_lst_str, HD.kb_tup_tuple, HD.kb_tup_list, HD.kb_tup_bool, HD.kb_tup_int, HD.kb_tup_str, ↓sFz_w, ↓FzS_lst, ↓FzS_ext, ↓dSortSetL, ↓fAbs, ↓fInt, ↓fRepr, ↓fLtT, ↓sRaise, ↓sTryKeep, ↓dCallV_w, ↓dMeth, ↓fCount, ↓fSplit])
def jAll (w : Wd) (S : List Nat) (ps : List Part) (g : Nat → Nat) : Int := ps.foldl (fun acc p => jn w acc (val S p g)) (unitW w)
abbrev dPs (ps : List Part) : D := .tup (ps.map dP)
abbrev dSh (S : List Nat) (ps : List Part) : D := .tup [.tup (nD S), dPs ps]
structure ShOk (S : List Nat) (ps : List Part) : Prop where
  sz : SzOk S
  one : 0 < S.length
  ok : ∀ p ∈ ps, p.Ok S
  bd : ∃ b, 0 < b ∧ b * ps.length ≤ 40 * max ps.length 20 ∧ ∀ p ∈ ps, Bd b p
  few : ps.length ≤ 60
structure ShO4 (S : List Nat) (ps : List Part) : Prop extends ShOk S ps where
  b4 : ∀ p ∈ ps, Bd 40 p
instance {S : List Nat} {ps : List Part} : Coe (ShO4 S ps) (ShOk S ps) := ⟨fun h => h.toShOk⟩
theorem unit_bd (w : Wd) : (unitW w).natAbs < 2 ^ 100 := by cases w <;> decide
theorem val_bd {S : List Nat} {p : Part} {g : Nat → Nat} (hp : p.Ok S) {b : Nat} (hb : Bd b p) (hg : Fit S p.ns g) : (val S p g).natAbs < 2 ^ b := hb _ (val_mem hp hg)
def FitF (S : List Nat) (f : List Nat) : Prop := f.length = S.length ∧ ∀ n, n < S.length → f.getD n 0 < sz S n
theorem FitF.fit {S f : List Nat} {p : Part} (h : FitF S f) (hp : p.Ok S) : Fit S p.ns fun n => f.getD n 0 := fun n hn => h.2 n (hp.lt n hn)
def sp_worth_at : DSpec := fun args Q _ => ∃ (S : List Nat) (p : Part) (f : List Nat), args = [dSz S, .ext (dP p), .ext (.tup (nD f))] ∧ SzOk S ∧ p.Ok S ∧ FitF S f ∧ ∀ fin, Q (dI (val S p fun n => f.getD n 0)) fin
def e1_worth_at : DT :=
    (dOp fIx (dVar 2) (dVar 5))
def t_worth_at : DTS :=
    (sSeq (sAsg (dVar 1) (gTupD 2 (gsCons (gSet 3) (gsCons (gSet 4) gsNil))))
    (sRet (dOp fIx (dVar 4) (dCall sp_place_of (dCons (dVar 0) (dCons (dVar 3) (dCons (dLc (dSeq (dVar 3)) (gSet 5) dYes e1_worth_at [5]) dNil)))))))
theorem m_worth_at : Meets t_worth_at 3 3 sp_worth_at := by
  rintro args Qd Xd ⟨S, p, f, rfl, hS, hp, hf, hQ⟩
  show t_worth_at _ _ [_, _, _, .un, .un, .un]
  unfold t_worth_at
  trivial
  have hfit := hf.fit hp
  refine lc_map (fun n : Nat => D.int (n : Int)) (fun n : Nat => D.int ((f.getD n 0 : Nat) : Int)) True.intro p.ns (Nat.le_trans (ok_len hS hp) (by decide)) (fun n hn R hR => ?_) fun b => ?_
  · unfold e1_worth_at
    trivial
    refine ⟨_, atN (getD_at (by rw [hf.1]; exact hp.lt n hn)), ?_⟩
    trivial
    exact hR
  trivial
  refine ⟨S, p.ns, p.ns.map fun n => f.getD n 0, _, rfl, .inl (by rw [nD, List.map_map]; rfl), Part.Ok.both hS hp, good_map hfit, Part.Ok.psz hS hp, fun fin => ?_⟩
  trivial
  refine ⟨_, atN (iD_at (val_at hp hfit)), ?_⟩
  trivial
  exact hQ _
def sp_joined_at : DSpec := fun args Q _ => ∃ (w : Wd) (S : List Nat) (ps : List Part) (f : List Nat), args = [dW w, .ext (dSh S ps), .ext (.tup (nD f))] ∧ ShOk S ps ∧ FitF S f ∧ ∀ fin, Q (dI (jAll w S ps fun n => f.getD n 0)) fin
def b1_joined_at : DTS :=
    (sSetE 3 (dCall sp_join (dCons (dVar 0) (dCons (dVar 3) (dCons (dCall sp_worth_at (dCons (dOp fIx (dVar 1) (dC (.int 0))) (dCons (dVar 4) (dCons (dVar 2) dNil)))) dNil)))))
def k2_joined_at : DTS :=
    (sRet (dVar 3))
def t_joined_at : DTS :=
    (sSeq (sSetE 3 (dCall sp_unit (dCons (dVar 0) dNil)))
    (sSeq (sFor (dSeq (dOp fIx (dVar 1) (dC (.int 1)))) (gSet 4) b1_joined_at)
    k2_joined_at))
theorem m_joined_at : Meets t_joined_at 3 2 sp_joined_at := by
  rintro args Qd Xd ⟨w, S, ps, f, rfl, hs, hf, hQ⟩
  show t_joined_at _ _ [_, _, _, .un, .un]
  unfold t_joined_at
  trivial
  refine ⟨w, rfl, fun fin => ?_⟩
  trivial
  have hfew := hs.few
  obtain ⟨bb, hbz, hbl, hbb⟩ := hs.bd
  have hbl : bb * ps.length ≤ 2400 := by omega
  refine for_ind dP (fun qs env => ∃ (acc : Int) (k : Nat) (u4 : Sl), env = [dW w, .ext (dSh S ps), .ext (.tup (nD f)), dI acc, u4] ∧ 0 < k ∧ k + bb * qs.length ≤ 3000 ∧ acc.natAbs < 2 ^ k ∧ (∀ p ∈ qs, p.Ok S ∧ Bd bb p) ∧
    qs.foldl (fun acc p => jn w acc (val S p fun n => f.getD n 0)) acc = jAll w S ps fun n => f.getD n 0) ?_ ?_ ps _ ⟨unitW w, 100, _, rfl, by decide, by omega, unit_bd w, fun p hp => ⟨hs.ok p hp, hbb p hp⟩, rfl⟩
  · rintro env ⟨acc, k, u4, rfl, _, _, _, _, h⟩
    refine ⟨True.intro, ?_⟩
    rw [List.foldl_nil] at h
    subst h
    unfold k2_joined_at
    trivial
    exact hQ _
  · rintro p qs env N ⟨acc, k, u4, rfl, hk, hl, hb, hp, h⟩ hN
    rw [List.length_cons, Nat.mul_add] at hl
    obtain ⟨h1, h2⟩ := hp p List.mem_cons_self
    have hv := val_bd h1 h2 (hf.fit h1)
    refine ⟨True.intro, ?_⟩
    unfold b1_joined_at
    trivial
    refine ⟨S, p, f, rfl, hs.sz, h1, hf, fun fin => ?_⟩
    trivial
    refine ⟨w, acc, _, rfl, cmulN hb hv (by omega), fun fin => ?_⟩
    trivial
    exact hN _ ⟨_, k + bb, _, rfl, by omega, by omega, jn_bd hk hbz hb hv, fun q hq => hp q (List.mem_cons_of_mem _ hq), h⟩
def allF (S : List Nat) : List (List Nat) := fills S (List.range S.length)
theorem prodN_range (S : List Nat) : (List.range S.length).map (sz S) = S := by
  apply List.ext_getElem
  · simp
  · intro i h1 h2
    simp [sz, List.getD_eq_getElem?_getD, List.getElem?_eq_getElem h2]
theorem psz_all (S : List Nat) : psz S (List.range S.length) = prodN S := by unfold psz; rw [prodN_range]
theorem rng_both {S : List Nat} (hS : SzOk S) : ∀ n ∈ List.range S.length, n < S.length ∧ 0 < sz S n := fun n hn => ⟨List.mem_range.1 hn, hS.pos _ (sz_mem (List.mem_range.1 hn))⟩
theorem ats_rng {m : Nat} {f : List Nat} (h : f.length = m) {n : Nat} (hn : n < m) : ats (List.range m) f n = f.getD n 0 := by
  unfold ats
  congr 1
  have hl := List.idxOf_lt_length_of_mem (List.mem_range.2 hn)
  have := List.getElem_idxOf hl
  rwa [List.getElem_range] at this
theorem allF_fit {S f : List Nat} (h : f ∈ allF S) : FitF S f := by
  have hg := mem_fills.1 h
  have hl := hg.len
  rw [List.length_range] at hl
  refine ⟨hl, fun n hn => ?_⟩
  have := ats_lt hg (n := n) (List.mem_range.2 hn)
  rwa [ats_rng hl hn] at this
theorem allF_len {S : List Nat} (hS : SzOk S) : (allF S).length ≤ 4096 := by unfold allF; rw [len_fills, psz_all]; exact hS.prod
def sp_all_fillings : DSpec := fun args Q _ => ∃ (S : List Nat) (ps : List Part), args = [.ext (dSh S ps)] ∧ ShOk S ps ∧ ∀ fin, Q (.ext (.lst (fD (allF S)))) fin
def t_all_fillings : DTS :=
    (sRet (dCall sp_fillings_of (dCons (dOp fIx (dVar 0) (dC (.int 0))) (dCons (dLstRg (dRg1 (dCB fLen (dCons (dOp fIx (dVar 0) (dC (.int 0))) dNil)))) dNil))))
theorem m_all_fillings : Meets t_all_fillings 1 0 sp_all_fillings := by
  rintro args Qd Xd ⟨S, ps, rfl, hs, hQ⟩
  show t_all_fillings _ _ [_]
  unfold t_all_fillings
  trivial
  have h24 := hs.sz.few
  rw [nD_len]
  refine ⟨⟨by decide, by omega, by omega⟩, fun b => ?_⟩
  rw [rgD_nat]
  refine ⟨S, List.range S.length, fArgs_tl, rng_both hs.sz, by rw [psz_all]; exact hs.sz.prod, by simp; omega, fun fin => ?_⟩
  trivial
  exact hQ _
end LS
namespace LS
open PySem L2 HD PM
def PsOk (w : Wd) (S : List Nat) (ps : List Part) : Prop := ∀ p ∈ ps, p.Ok S ∧ NumsOk w p
end LS
namespace HD
open PySem PyProof.Rows L2
def stepL {α : Type} (xs : List α) (c : Int) : List α := (sliceRange (sliceBounds none none (some c) xs.length).1 (sliceBounds none none (some c) xs.length).2.1 (sliceBounds none none (some c) xs.length).2.2).filterMap (xs[·]?)
def fStep (d : D) (o : Option Int) (Q : Sl → Prop) : Prop := match d, o with
  | .lst ds, some c => c ≠ 0 ∧ ∀ a, Q (.lst a (stepL ds c))
  | .fz ds, some c => c ≠ 0 ∧ ∀ a, Q (.lst a (stepL ds c))
  | .tup ds, some c => c = -1 ∧ Q (.ext (.tup ds.reverse))
  | _, _ => False
def dStep (ta : DT) (tp : DTO) : DT := fun Ex env Q => ta Ex env fun x env1 => tp Ex env1 fun o env2 => wd env2 x fun d => fStep d o fun sl => Q sl env2
end HD
namespace HD
open PySem L2
section
variable {G : GG} {N : List Str} {sc : SC} {k : Nat} {a b : Expr} {pos : Pos}
def sPar (i j : Nat) (t : DTA) : DTS := fun Ex E env => t Ex env fun xs env1 => frzDs env1 xs fun ds env2 => match ds with
  | [d, d'] => E.nx ((env2.set i (.ext d)).set j (.ext d'))
  | _ => False
end
end HD
namespace HD
open PySem L2
def enD (xs : List D) : List D := (xs.zipIdx).map fun p => D.tk [.int (p.2 : Nat), p.1]
def dEnum (ta : DT) : DTI := fun Ex env Q => ta Ex env fun x env1 => seqD env1 x fun xs k1 => Q (enD xs) k1 env1
end HD
namespace HD
open PySem PySem.Spec PyProof.Rows L2
def fMulT : D → D → (Sl → Prop) → Prop
  | .tup xs, .int k, Q => 0 ≤ k ∧ k < 2 ^ 63 ∧ xs.length * k.toNat ≤ sizeLine ∧ Q (.ext (.tup (List.replicate k.toNat xs).flatten))
  | _, _, _ => False
def fIsB : D → D → (Sl → Prop) → Prop
  | .bl i, .bl j, Q => Q (.ext (.bl (i == j)))
  | _, _, _ => False
def fNotB : D → D → (Sl → Prop) → Prop
  | .bl i, .bl j, Q => Q (.ext (.bl (!(i == j))))
  | _, _, _ => False
end HD
namespace HD
open PySem L2
theorem seq_setE (i : Nat) (t : DT) (u : DTS) (Ex : DX) (E : DEnds) (env : Env') : sSeq (sSetE i t) u Ex E env = t Ex env fun x env1 => frzD env1 x fun d env2 => u Ex E (env2.set i (.ext d)) := rfl
theorem seq_set (i : Nat) (t : DT) (u : DTS) (Ex : DX) (E : DEnds) (env : Env') : sSeq (sSet i t) u Ex E env = t Ex env fun x env1 => retD env1 x fun r env2 => u Ex E (env2.set i r) := rfl
theorem seq_drop (t : DT) (u : DTS) (Ex : DX) (E : DEnds) (env : Env') : sSeq (sDrop t) u Ex E env = t Ex env fun _ env1 => u Ex E env1 := rfl
theorem seq_asg (t : DT) (g : DTG) (u : DTS) (Ex : DX) (E : DEnds) (env : Env') : sSeq (sAsg t g) u Ex E env = t Ex env fun x env1 => frzD env1 x fun d env2 => g d env2 fun env3 => u Ex E env3 := rfl
theorem seq_if (c : DTT) (t v : DTS) (u : DTS) (Ex : DX) (E : DEnds) (env : Env') : sSeq (sIf c t v) u Ex E env = c Ex env fun b env1 => if b = true then t Ex { E with nx := fun env1 => u Ex E env1 } env1 else v Ex { E with nx := fun env1 => u Ex E env1 } env1 := rfl
theorem seq_for (ti : DTI) (g : DTG) (b : DTS) (u : DTS) (Ex : DX) (E : DEnds) (env : Env') : sSeq (sFor ti g b) u Ex E env = ti Ex env fun items keep env1 => forD g b keep Ex { E with nx := fun env1 => u Ex E env1 } items env1 := rfl
theorem dv0 (d : D) (r : Env') (Ex : DX) (Q : Sl → Env' → Prop) : dVar 0 Ex (.ext d :: r) Q = Q (.ext d) (.ext d :: r) := rfl
theorem dw0 (a : Addr) (ds : List D) (r : Env') (Ex : DX) (Q : Sl → Env' → Prop) : dVar 0 Ex (.lst a ds :: r) Q = Q (.al 0 a) (.lst a ds :: r) := rfl
theorem dv1 (s0 : Sl) (d : D) (r : Env') (Ex : DX) (Q : Sl → Env' → Prop) : dVar 1 Ex (s0 :: .ext d :: r) Q = Q (.ext d) (s0 :: .ext d :: r) := rfl
theorem dw1 (s0 : Sl) (a : Addr) (ds : List D) (r : Env') (Ex : DX) (Q : Sl → Env' → Prop) : dVar 1 Ex (s0 :: .lst a ds :: r) Q = Q (.al 1 a) (s0 :: .lst a ds :: r) := rfl
theorem dv2 (s0 s1 : Sl) (d : D) (r : Env') (Ex : DX) (Q : Sl → Env' → Prop) : dVar 2 Ex (s0 :: s1 :: .ext d :: r) Q = Q (.ext d) (s0 :: s1 :: .ext d :: r) := rfl
theorem dw2 (s0 s1 : Sl) (a : Addr) (ds : List D) (r : Env') (Ex : DX) (Q : Sl → Env' → Prop) : dVar 2 Ex (s0 :: s1 :: .lst a ds :: r) Q = Q (.al 2 a) (s0 :: s1 :: .lst a ds :: r) := rfl
theorem dv3 (s0 s1 s2 : Sl) (d : D) (r : Env') (Ex : DX) (Q : Sl → Env' → Prop) : dVar 3 Ex (s0 :: s1 :: s2 :: .ext d :: r) Q = Q (.ext d) (s0 :: s1 :: s2 :: .ext d :: r) := rfl
theorem dw3 (s0 s1 s2 : Sl) (a : Addr) (ds : List D) (r : Env') (Ex : DX) (Q : Sl → Env' → Prop) : dVar 3 Ex (s0 :: s1 :: s2 :: .lst a ds :: r) Q = Q (.al 3 a) (s0 :: s1 :: s2 :: .lst a ds :: r) := rfl
theorem dv4 (s0 s1 s2 s3 : Sl) (d : D) (r : Env') (Ex : DX) (Q : Sl → Env' → Prop) : dVar 4 Ex (s0 :: s1 :: s2 :: s3 :: .ext d :: r) Q = Q (.ext d) (s0 :: s1 :: s2 :: s3 :: .ext d :: r) := rfl
theorem dw4 (s0 s1 s2 s3 : Sl) (a : Addr) (ds : List D) (r : Env') (Ex : DX) (Q : Sl → Env' → Prop) : dVar 4 Ex (s0 :: s1 :: s2 :: s3 :: .lst a ds :: r) Q = Q (.al 4 a) (s0 :: s1 :: s2 :: s3 :: .lst a ds :: r) := rfl
theorem dv5 (s0 s1 s2 s3 s4 : Sl) (d : D) (r : Env') (Ex : DX) (Q : Sl → Env' → Prop) : dVar 5 Ex (s0 :: s1 :: s2 :: s3 :: s4 :: .ext d :: r) Q = Q (.ext d) (s0 :: s1 :: s2 :: s3 :: s4 :: .ext d :: r) := rfl
theorem dw5 (s0 s1 s2 s3 s4 : Sl) (a : Addr) (ds : List D) (r : Env') (Ex : DX) (Q : Sl → Env' → Prop) : dVar 5 Ex (s0 :: s1 :: s2 :: s3 :: s4 :: .lst a ds :: r) Q = Q (.al 5 a) (s0 :: s1 :: s2 :: s3 :: s4 :: .lst a ds :: r) := rfl
theorem dv6 (s0 s1 s2 s3 s4 s5 : Sl) (d : D) (r : Env') (Ex : DX) (Q : Sl → Env' → Prop) : dVar 6 Ex (s0 :: s1 :: s2 :: s3 :: s4 :: s5 :: .ext d :: r) Q = Q (.ext d) (s0 :: s1 :: s2 :: s3 :: s4 :: s5 :: .ext d :: r) := rfl
theorem dw6 (s0 s1 s2 s3 s4 s5 : Sl) (a : Addr) (ds : List D) (r : Env') (Ex : DX) (Q : Sl → Env' → Prop) : dVar 6 Ex (s0 :: s1 :: s2 :: s3 :: s4 :: s5 :: .lst a ds :: r) Q = Q (.al 6 a) (s0 :: s1 :: s2 :: s3 :: s4 :: s5 :: .lst a ds :: r) := rfl
theorem dv7 (s0 s1 s2 s3 s4 s5 s6 : Sl) (d : D) (r : Env') (Ex : DX) (Q : Sl → Env' → Prop) : dVar 7 Ex (s0 :: s1 :: s2 :: s3 :: s4 :: s5 :: s6 :: .ext d :: r) Q = Q (.ext d) (s0 :: s1 :: s2 :: s3 :: s4 :: s5 :: s6 :: .ext d :: r) := rfl
theorem dw7 (s0 s1 s2 s3 s4 s5 s6 : Sl) (a : Addr) (ds : List D) (r : Env') (Ex : DX) (Q : Sl → Env' → Prop) : dVar 7 Ex (s0 :: s1 :: s2 :: s3 :: s4 :: s5 :: s6 :: .lst a ds :: r) Q = Q (.al 7 a) (s0 :: s1 :: s2 :: s3 :: s4 :: s5 :: s6 :: .lst a ds :: r) := rfl
theorem dv8 (s0 s1 s2 s3 s4 s5 s6 s7 : Sl) (d : D) (r : Env') (Ex : DX) (Q : Sl → Env' → Prop) : dVar 8 Ex (s0 :: s1 :: s2 :: s3 :: s4 :: s5 :: s6 :: s7 :: .ext d :: r) Q = Q (.ext d) (s0 :: s1 :: s2 :: s3 :: s4 :: s5 :: s6 :: s7 :: .ext d :: r) := rfl
theorem dw8 (s0 s1 s2 s3 s4 s5 s6 s7 : Sl) (a : Addr) (ds : List D) (r : Env') (Ex : DX) (Q : Sl → Env' → Prop) : dVar 8 Ex (s0 :: s1 :: s2 :: s3 :: s4 :: s5 :: s6 :: s7 :: .lst a ds :: r) Q = Q (.al 8 a) (s0 :: s1 :: s2 :: s3 :: s4 :: s5 :: s6 :: s7 :: .lst a ds :: r) := rfl
theorem dv9 (s0 s1 s2 s3 s4 s5 s6 s7 s8 : Sl) (d : D) (r : Env') (Ex : DX) (Q : Sl → Env' → Prop) : dVar 9 Ex (s0 :: s1 :: s2 :: s3 :: s4 :: s5 :: s6 :: s7 :: s8 :: .ext d :: r) Q = Q (.ext d) (s0 :: s1 :: s2 :: s3 :: s4 :: s5 :: s6 :: s7 :: s8 :: .ext d :: r) := rfl
theorem dw9 (s0 s1 s2 s3 s4 s5 s6 s7 s8 : Sl) (a : Addr) (ds : List D) (r : Env') (Ex : DX) (Q : Sl → Env' → Prop) : dVar 9 Ex (s0 :: s1 :: s2 :: s3 :: s4 :: s5 :: s6 :: s7 :: s8 :: .lst a ds :: r) Q = Q (.al 9 a) (s0 :: s1 :: s2 :: s3 :: s4 :: s5 :: s6 :: s7 :: s8 :: .lst a ds :: r) := rfl
theorem dv10 (s0 s1 s2 s3 s4 s5 s6 s7 s8 s9 : Sl) (d : D) (r : Env') (Ex : DX) (Q : Sl → Env' → Prop) : dVar 10 Ex (s0 :: s1 :: s2 :: s3 :: s4 :: s5 :: s6 :: s7 :: s8 :: s9 :: .ext d :: r) Q = Q (.ext d) (s0 :: s1 :: s2 :: s3 :: s4 :: s5 :: s6 :: s7 :: s8 :: s9 :: .ext d :: r) := rfl
theorem dw10 (s0 s1 s2 s3 s4 s5 s6 s7 s8 s9 : Sl) (a : Addr) (ds : List D) (r : Env') (Ex : DX) (Q : Sl → Env' → Prop) : dVar 10 Ex (s0 :: s1 :: s2 :: s3 :: s4 :: s5 :: s6 :: s7 :: s8 :: s9 :: .lst a ds :: r) Q = Q (.al 10 a) (s0 :: s1 :: s2 :: s3 :: s4 :: s5 :: s6 :: s7 :: s8 :: s9 :: .lst a ds :: r) := rfl
theorem dv11 (s0 s1 s2 s3 s4 s5 s6 s7 s8 s9 s10 : Sl) (d : D) (r : Env') (Ex : DX) (Q : Sl → Env' → Prop) : dVar 11 Ex (s0 :: s1 :: s2 :: s3 :: s4 :: s5 :: s6 :: s7 :: s8 :: s9 :: s10 :: .ext d :: r) Q = Q (.ext d) (s0 :: s1 :: s2 :: s3 :: s4 :: s5 :: s6 :: s7 :: s8 :: s9 :: s10 :: .ext d :: r) := rfl
theorem dw11 (s0 s1 s2 s3 s4 s5 s6 s7 s8 s9 s10 : Sl) (a : Addr) (ds : List D) (r : Env') (Ex : DX) (Q : Sl → Env' → Prop) : dVar 11 Ex (s0 :: s1 :: s2 :: s3 :: s4 :: s5 :: s6 :: s7 :: s8 :: s9 :: s10 :: .lst a ds :: r) Q = Q (.al 11 a) (s0 :: s1 :: s2 :: s3 :: s4 :: s5 :: s6 :: s7 :: s8 :: s9 :: s10 :: .lst a ds :: r) := rfl
theorem dv12 (s0 s1 s2 s3 s4 s5 s6 s7 s8 s9 s10 s11 : Sl) (d : D) (r : Env') (Ex : DX) (Q : Sl → Env' → Prop) : dVar 12 Ex (s0 :: s1 :: s2 :: s3 :: s4 :: s5 :: s6 :: s7 :: s8 :: s9 :: s10 :: s11 :: .ext d :: r) Q = Q (.ext d) (s0 :: s1 :: s2 :: s3 :: s4 :: s5 :: s6 :: s7 :: s8 :: s9 :: s10 :: s11 :: .ext d :: r) := rfl
theorem dw12 (s0 s1 s2 s3 s4 s5 s6 s7 s8 s9 s10 s11 : Sl) (a : Addr) (ds : List D) (r : Env') (Ex : DX) (Q : Sl → Env' → Prop) : dVar 12 Ex (s0 :: s1 :: s2 :: s3 :: s4 :: s5 :: s6 :: s7 :: s8 :: s9 :: s10 :: s11 :: .lst a ds :: r) Q = Q (.al 12 a) (s0 :: s1 :: s2 :: s3 :: s4 :: s5 :: s6 :: s7 :: s8 :: s9 :: s10 :: s11 :: .lst a ds :: r) := rfl
theorem dv13 (s0 s1 s2 s3 s4 s5 s6 s7 s8 s9 s10 s11 s12 : Sl) (d : D) (r : Env') (Ex : DX) (Q : Sl → Env' → Prop) : dVar 13 Ex (s0 :: s1 :: s2 :: s3 :: s4 :: s5 :: s6 :: s7 :: s8 :: s9 :: s10 :: s11 :: s12 :: .ext d :: r) Q = Q (.ext d) (s0 :: s1 :: s2 :: s3 :: s4 :: s5 :: s6 :: s7 :: s8 :: s9 :: s10 :: s11 :: s12 :: .ext d :: r) := rfl
theorem dw13 (s0 s1 s2 s3 s4 s5 s6 s7 s8 s9 s10 s11 s12 : Sl) (a : Addr) (ds : List D) (r : Env') (Ex : DX) (Q : Sl → Env' → Prop) : dVar 13 Ex (s0 :: s1 :: s2 :: s3 :: s4 :: s5 :: s6 :: s7 :: s8 :: s9 :: s10 :: s11 :: s12 :: .lst a ds :: r) Q = Q (.al 13 a) (s0 :: s1 :: s2 :: s3 :: s4 :: s5 :: s6 :: s7 :: s8 :: s9 :: s10 :: s11 :: s12 :: .lst a ds :: r) := rfl
theorem dv14 (s0 s1 s2 s3 s4 s5 s6 s7 s8 s9 s10 s11 s12 s13 : Sl) (d : D) (r : Env') (Ex : DX) (Q : Sl → Env' → Prop) : dVar 14 Ex (s0 :: s1 :: s2 :: s3 :: s4 :: s5 :: s6 :: s7 :: s8 :: s9 :: s10 :: s11 :: s12 :: s13 :: .ext d :: r) Q = Q (.ext d) (s0 :: s1 :: s2 :: s3 :: s4 :: s5 :: s6 :: s7 :: s8 :: s9 :: s10 :: s11 :: s12 :: s13 :: .ext d :: r) := rfl
theorem dw14 (s0 s1 s2 s3 s4 s5 s6 s7 s8 s9 s10 s11 s12 s13 : Sl) (a : Addr) (ds : List D) (r : Env') (Ex : DX) (Q : Sl → Env' → Prop) : dVar 14 Ex (s0 :: s1 :: s2 :: s3 :: s4 :: s5 :: s6 :: s7 :: s8 :: s9 :: s10 :: s11 :: s12 :: s13 :: .lst a ds :: r) Q = Q (.al 14 a) (s0 :: s1 :: s2 :: s3 :: s4 :: s5 :: s6 :: s7 :: s8 :: s9 :: s10 :: s11 :: s12 :: s13 :: .lst a ds :: r) := rfl
theorem dv15 (s0 s1 s2 s3 s4 s5 s6 s7 s8 s9 s10 s11 s12 s13 s14 : Sl) (d : D) (r : Env') (Ex : DX) (Q : Sl → Env' → Prop) : dVar 15 Ex (s0 :: s1 :: s2 :: s3 :: s4 :: s5 :: s6 :: s7 :: s8 :: s9 :: s10 :: s11 :: s12 :: s13 :: s14 :: .ext d :: r) Q = Q (.ext d) (s0 :: s1 :: s2 :: s3 :: s4 :: s5 :: s6 :: s7 :: s8 :: s9 :: s10 :: s11 :: s12 :: s13 :: s14 :: .ext d :: r) := rfl
theorem dw15 (s0 s1 s2 s3 s4 s5 s6 s7 s8 s9 s10 s11 s12 s13 s14 : Sl) (a : Addr) (ds : List D) (r : Env') (Ex : DX) (Q : Sl → Env' → Prop) : dVar 15 Ex (s0 :: s1 :: s2 :: s3 :: s4 :: s5 :: s6 :: s7 :: s8 :: s9 :: s10 :: s11 :: s12 :: s13 :: s14 :: .lst a ds :: r) Q = Q (.al 15 a) (s0 :: s1 :: s2 :: s3 :: s4 :: s5 :: s6 :: s7 :: s8 :: s9 :: s10 :: s11 :: s12 :: s13 :: s14 :: .lst a ds :: r) := rfl
theorem dv16 (s0 s1 s2 s3 s4 s5 s6 s7 s8 s9 s10 s11 s12 s13 s14 s15 : Sl) (d : D) (r : Env') (Ex : DX) (Q : Sl → Env' → Prop) : dVar 16 Ex (s0 :: s1 :: s2 :: s3 :: s4 :: s5 :: s6 :: s7 :: s8 :: s9 :: s10 :: s11 :: s12 :: s13 :: s14 :: s15 :: .ext d :: r) Q = Q (.ext d) (s0 :: s1 :: s2 :: s3 :: s4 :: s5 :: s6 :: s7 :: s8 :: s9 :: s10 :: s11 :: s12 :: s13 :: s14 :: s15 :: .ext d :: r) := rfl
theorem dw16 (s0 s1 s2 s3 s4 s5 s6 s7 s8 s9 s10 s11 s12 s13 s14 s15 : Sl) (a : Addr) (ds : List D) (r : Env') (Ex : DX) (Q : Sl → Env' → Prop) : dVar 16 Ex (s0 :: s1 :: s2 :: s3 :: s4 :: s5 :: s6 :: s7 :: s8 :: s9 :: s10 :: s11 :: s12 :: s13 :: s14 :: s15 :: .lst a ds :: r) Q = Q (.al 16 a) (s0 :: s1 :: s2 :: s3 :: s4 :: s5 :: s6 :: s7 :: s8 :: s9 :: s10 :: s11 :: s12 :: s13 :: s14 :: s15 :: .lst a ds :: r) := rfl
theorem dv17 (s0 s1 s2 s3 s4 s5 s6 s7 s8 s9 s10 s11 s12 s13 s14 s15 s16 : Sl) (d : D) (r : Env') (Ex : DX) (Q : Sl → Env' → Prop) : dVar 17 Ex (s0 :: s1 :: s2 :: s3 :: s4 :: s5 :: s6 :: s7 :: s8 :: s9 :: s10 :: s11 :: s12 :: s13 :: s14 :: s15 :: s16 :: .ext d :: r) Q = Q (.ext d) (s0 :: s1 :: s2 :: s3 :: s4 :: s5 :: s6 :: s7 :: s8 :: s9 :: s10 :: s11 :: s12 :: s13 :: s14 :: s15 :: s16 :: .ext d :: r) := rfl
theorem dw17 (s0 s1 s2 s3 s4 s5 s6 s7 s8 s9 s10 s11 s12 s13 s14 s15 s16 : Sl) (a : Addr) (ds : List D) (r : Env') (Ex : DX) (Q : Sl → Env' → Prop) : dVar 17 Ex (s0 :: s1 :: s2 :: s3 :: s4 :: s5 :: s6 :: s7 :: s8 :: s9 :: s10 :: s11 :: s12 :: s13 :: s14 :: s15 :: s16 :: .lst a ds :: r) Q = Q (.al 17 a) (s0 :: s1 :: s2 :: s3 :: s4 :: s5 :: s6 :: s7 :: s8 :: s9 :: s10 :: s11 :: s12 :: s13 :: s14 :: s15 :: s16 :: .lst a ds :: r) := rfl
theorem dv18 (s0 s1 s2 s3 s4 s5 s6 s7 s8 s9 s10 s11 s12 s13 s14 s15 s16 s17 : Sl) (d : D) (r : Env') (Ex : DX) (Q : Sl → Env' → Prop) : dVar 18 Ex (s0 :: s1 :: s2 :: s3 :: s4 :: s5 :: s6 :: s7 :: s8 :: s9 :: s10 :: s11 :: s12 :: s13 :: s14 :: s15 :: s16 :: s17 :: .ext d :: r) Q = Q (.ext d) (s0 :: s1 :: s2 :: s3 :: s4 :: s5 :: s6 :: s7 :: s8 :: s9 :: s10 :: s11 :: s12 :: s13 :: s14 :: s15 :: s16 :: s17 :: .ext d :: r) := rfl
theorem dw18 (s0 s1 s2 s3 s4 s5 s6 s7 s8 s9 s10 s11 s12 s13 s14 s15 s16 s17 : Sl) (a : Addr) (ds : List D) (r : Env') (Ex : DX) (Q : Sl → Env' → Prop) : dVar 18 Ex (s0 :: s1 :: s2 :: s3 :: s4 :: s5 :: s6 :: s7 :: s8 :: s9 :: s10 :: s11 :: s12 :: s13 :: s14 :: s15 :: s16 :: s17 :: .lst a ds :: r) Q = Q (.al 18 a) (s0 :: s1 :: s2 :: s3 :: s4 :: s5 :: s6 :: s7 :: s8 :: s9 :: s10 :: s11 :: s12 :: s13 :: s14 :: s15 :: s16 :: s17 :: .lst a ds :: r) := rfl
theorem dv19 (s0 s1 s2 s3 s4 s5 s6 s7 s8 s9 s10 s11 s12 s13 s14 s15 s16 s17 s18 : Sl) (d : D) (r : Env') (Ex : DX) (Q : Sl → Env' → Prop) : dVar 19 Ex (s0 :: s1 :: s2 :: s3 :: s4 :: s5 :: s6 :: s7 :: s8 :: s9 :: s10 :: s11 :: s12 :: s13 :: s14 :: s15 :: s16 :: s17 :: s18 :: .ext d :: r) Q = Q (.ext d) (s0 :: s1 :: s2 :: s3 :: s4 :: s5 :: s6 :: s7 :: s8 :: s9 :: s10 :: s11 :: s12 :: s13 :: s14 :: s15 :: s16 :: s17 :: s18 :: .ext d :: r) := rfl
theorem dw19 (s0 s1 s2 s3 s4 s5 s6 s7 s8 s9 s10 s11 s12 s13 s14 s15 s16 s17 s18 : Sl) (a : Addr) (ds : List D) (r : Env') (Ex : DX) (Q : Sl → Env' → Prop) : dVar 19 Ex (s0 :: s1 :: s2 :: s3 :: s4 :: s5 :: s6 :: s7 :: s8 :: s9 :: s10 :: s11 :: s12 :: s13 :: s14 :: s15 :: s16 :: s17 :: s18 :: .lst a ds :: r) Q = Q (.al 19 a) (s0 :: s1 :: s2 :: s3 :: s4 :: s5 :: s6 :: s7 :: s8 :: s9 :: s10 :: s11 :: s12 :: s13 :: s14 :: s15 :: s16 :: s17 :: s18 :: .lst a ds :: r) := rfl
end HD
namespace HD
open PySem PyProof.Rows L2
section
variable {G : GG} {N : List Str} {sc : SC} {k : Nat} {a b : Expr} {ta tb : DT} {p p2 pos pos2 : Pos}
def dListZip (ta tb : DT) : DT := fun Ex env Q => ta Ex env fun x env1 => tb Ex env1 fun y env2 => seqD env2 x fun xs _ => seqD env2 y fun ys _ => ∀ a, Q (.lst a ((xs.zip ys).map fun p => D.tk [p.1, p.2])) env2
end
end HD
namespace HD
open PySem PyProof.Rows L2
theorem retD_reg (env : Env') (a : D) (cs : List (Addr × OC)) (q : Sl → Env' → Prop) : retD env (.reg a cs) q = q (.reg a cs) env := rfl
def nestC (a : Addr) (xs : List (Addr × List D)) : List (Addr × OC) := (a, .lst (xs.map fun p => .val (.ref p.1))) :: xs.map fun p => (p.1, .lst p.2)
abbrev nestS (a : Addr) (xs : List (Addr × List D)) : Sl := .reg (.val (.ref a)) (nestC a xs)
theorem nest_own (a : Addr) (xs : List (Addr × List D)) : (nestS a xs).owned = a :: xs.map (·.1) := by
  show (nestC a xs).map (·.1) = _
  unfold nestC
  rw [List.map_cons, List.map_map]
  rfl
theorem refs_rep {K : PySem.W.Frag} {F : Hp} : ∀ (xs : List (Addr × List D)) {vs : List V}, Reps K F (xs.map fun p => D.val (.ref p.1)) vs → vs = xs.map fun p => V.ref p.1
  | [], _, h => h
  | p :: xs, _, h => by
    obtain ⟨v, r, rfl, h1, h2⟩ := h
    have e : v = .ref p.1 := h1
    rw [e, refs_rep xs h2]
    rfl
theorem rep_refs {K : PySem.W.Frag} {F : Hp} : ∀ (xs : List (Addr × List D)), Reps K F (xs.map fun p => D.val (.ref p.1)) (xs.map fun p => V.ref p.1)
  | [] => rfl
  | p :: xs => ⟨_, _, rfl, rfl, rep_refs xs⟩
theorem nodup_ix {α : Type} {l : List α} {x : α} (nd : l.Nodup) {i j : Nat} (h1 : l[i]? = some x) (h2 : l[j]? = some x) : i = j := by
  obtain ⟨l1, f1⟩ := List.getElem?_eq_some_iff.mp h1
  obtain ⟨l2, f2⟩ := List.getElem?_eq_some_iff.mp h2
  have p := List.pairwise_iff_getElem.mp nd
  rcases Nat.lt_trichotomy i j with h | h | h
  · exact absurd (f1.trans f2.symm) (p i j l1 l2 h)
  · exact h
  · exact absurd (f2.trans f1.symm) (p j i l2 l1 h)
section
variable {K : PySem.W.Frag} {e : Ent} {env : Env'} {T : Tmp} {F : Hp} {σ : L2.St} {H : Hp}
theorem nest_ok {v : V} {a : Addr} {xs : List (Addr × List D)} : SlOk K F H v (nestS a xs) ↔ v = .ref a ∧ (a :: xs.map (·.1)).Nodup ∧ F a = none ∧ H a = some (.lst (xs.map fun p => V.ref p.1)) ∧ ∀ p ∈ xs, F p.1 = none ∧ ∃ vs, H p.1 = some (.lst vs) ∧ Reps K F p.2 vs := by
  constructor
  · rintro ⟨h1, h2, h3⟩
    obtain ⟨n, o, ho, vs, rfl, hr⟩ := h3 (a, .lst (xs.map fun p => .val (.ref p.1))) List.mem_cons_self
    refine ⟨h1, by rw [← nest_own]; exact h2, n, by rw [← refs_rep xs hr]; exact ho, fun p hp => ?_⟩
    obtain ⟨n, o, ho, vs, rfl, hr⟩ := h3 (p.1, .lst p.2) (List.mem_cons_of_mem _ (List.mem_map.mpr ⟨p, hp, rfl⟩))
    exact ⟨n, vs, ho, hr⟩
  · rintro ⟨h1, h2, h3, h4, h5⟩
    refine ⟨h1, by rw [show (nestC a xs).map (·.1) = a :: xs.map (·.1) from nest_own a xs]; exact h2, fun p hp => ?_⟩
    rcases List.mem_cons.mp hp with rfl | hp
    · exact ⟨h3, _, h4, _, rfl, rep_refs xs⟩
    · obtain ⟨q, hq, rfl⟩ := List.mem_map.mp hp
      obtain ⟨n, vs, hv, hr⟩ := h5 q hq
      exact ⟨n, _, hv, vs, rfl, hr⟩
theorem Holds.writeR {i : Nat} {sl sl' : Sl} {b : Addr} {o : HO} (h : Holds K e env T F σ H) (hi : env[i]? = some sl) (hb : b ∈ sl.owned) (own : sl'.owned = sl.owned) (ok : ∀ v, SlOk K F H v sl → SlOk K F (upd H b o) v sl') (hu : sl ≠ .un) : Holds K e (env.set i sl') T F σ (upd H b o) := by
  obtain ⟨A, B, e1, e2⟩ := splitE hi
  have own' : ownedE (env.set i sl') = ownedE env := by rw [e1, e2, own]
  have mb : b ∈ ownedE env := mem_ownedE hi hb
  have mm : b ∈ ownedE env ++ ownedT T := List.mem_append_left _ mb
  obtain ⟨Fn, _⟩ := h.ownedH b mm
  refine ⟨fun c o' q => ?_, by rw [List.length_set]; exact h.len, fun j s q => ?_, fun p hp => (h.temps p hp).write fun m => ?_, by rw [own']; exact h.nd, h.s1, fun c o' q n => ?_, by rw [own']; exact h.s3⟩
  · have nb : c ≠ b := fun z => by
      rw [z, Fn] at q
      cases q
    rw [upd_ne nb]
    exact h.fh c o' q
  · rw [List.getElem?_set] at q
    split at q
    · rename_i ij
      subst ij
      split at q
      · cases q
        right
        rcases h.slots i _ hi with z | ⟨v, hv, q1⟩
        · exact absurd z hu
        · exact ⟨v, hv, ok v q1⟩
      · cases q
    · rename_i ij
      rcases h.slots j s q with z | ⟨v, hv, ok'⟩
      · exact .inl z
      · exact .inr ⟨v, hv, ok'.write fun m => ij (owned_two h.nd hi q hb m)⟩
  · exact (List.nodup_append.mp h.nd).2.2 b mb b (List.mem_flatMap.mpr ⟨p, hp, m⟩) rfl
  · have nb : c ≠ b := fun z => by
      subst z
      rcases h.s3 c mm with y | y
      · exact n y
      · rw [q] at y
        cases y
    rw [upd_ne nb]
    exact h.s2 c o' q n
theorem Holds.nestW {i : Nat} {a b : Addr} {xs : List (Addr × List D)} {j : Nat} {ds ds' : List D} {us' : List V} (h : Holds K e env T F σ H) (hi : env[i]? = some (nestS a xs)) (hj : xs[j]? = some (b, ds)) (hr : Reps K F ds' us') : Holds K e (env.set i (nestS a (xs.set j (b, ds')))) T F σ (upd H b (.lst us')) := by
  obtain ⟨hjl, ej⟩ := List.getElem?_eq_some_iff.mp hj
  have mb : b ∈ xs.map (·.1) := List.mem_map.mpr ⟨(b, ds), List.mem_of_getElem? hj, rfl⟩
  have firsts : (xs.set j (b, ds')).map (·.1) = xs.map (·.1) := by
    rw [List.map_set]
    have : (xs.map (·.1))[j]? = some b := by rw [List.getElem?_map, hj]; rfl
    obtain ⟨hl, e2⟩ := List.getElem?_eq_some_iff.mp this
    rw [← e2]
    exact List.set_getElem_self hl
  have refs : (xs.set j (b, ds')).map (fun p => V.ref p.1) = xs.map fun p => V.ref p.1 := by
    have := congrArg (List.map V.ref) firsts
    rw [List.map_map, List.map_map] at this
    exact this
  refine h.writeR hi (by rw [nest_own]; exact List.mem_cons_of_mem _ mb) (by rw [nest_own, nest_own, firsts]) (fun v ok => ?_) (fun z => by cases z)
  obtain ⟨h1, h2, h3, h4, h5⟩ := nest_ok.1 ok
  have nab : a ≠ b := fun z => (List.nodup_cons.mp h2).1 (z ▸ mb)
  refine nest_ok.2 ⟨h1, by rw [firsts]; exact h2, h3, by rw [upd_ne nab, refs]; exact h4, fun p hp => ?_⟩
  obtain ⟨k, hk⟩ := List.mem_iff_getElem?.mp hp
  rw [List.getElem?_set] at hk
  split at hk
  · cases hk
    obtain ⟨n, _⟩ := h5 (b, ds) (List.mem_of_getElem? hj)
    exact ⟨n, us', upd_same, hr⟩
  · rename_i jk
    obtain ⟨n, vs, hv, hr'⟩ := h5 p (List.mem_of_getElem? hk)
    have npb : p.1 ≠ b := fun z => by
      have nd := (List.nodup_cons.mp h2).2
      have e1 : (xs.map (·.1))[k]? = some b := by rw [List.getElem?_map, hk, ← z]; rfl
      have e2 : (xs.map (·.1))[j]? = some b := by rw [List.getElem?_map, hj]; rfl
      exact jk (nodup_ix nd e2 e1)
    exact ⟨n, vs, by rw [upd_ne npb]; exact hv, hr'⟩
end
section
variable {G : GG} {N : List Str} {sc : SC} {k : Nat} {a b : Expr} {ta tb : DT} {apos cpos spos py pos : Pos} {x : Str}
def dNApp (i : Nat) (tI te : DT) : DT := fun Ex env Q => (∃ a0 xs0, env[i]? = some (nestS a0 xs0)) ∧ tI Ex env fun z env1 => match z with
  | .ext (.int n) => ∃ a1 xs b ds, env1[i]? = some (nestS a1 xs) ∧ atI xs n = some (b, ds) ∧ te Ex env1 fun y env2 => frzD env2 y fun d env3 =>
      ∃ a2 xs' j ds', env3[i]? = some (nestS a2 xs') ∧ xs'[j]? = some (b, ds') ∧ ds'.length < sizeLine ∧ Q (.ext .non) (env3.set i (nestS a2 (xs'.set j (b, ds' ++ [d]))))
  | _ => False
theorem atI_map {α β : Type} (f : α → β) {xs : List α} {n : Int} {y : α} (h : atI xs n = some y) : atI (xs.map f) n = some (f y) := by
  unfold atI at h ⊢
  rw [List.length_map]
  cases e : ixN xs.length n with
  | none => rw [e] at h; cases h
  | some j =>
    rw [e] at h
    show (xs.map f)[j]? = _
    have h' : xs[j]? = some y := h
    rw [List.getElem?_map, h']
    rfl
theorem de_napp (i : Nat) (hI : DE G N sc k a ta) (hb : DE G N sc k b tb) (hw : FewArgs (.Subscript (.Name x py) a spos) "append" b [] cpos := by intro _; exact ⟨rfl, rfl, rfl, rfl⟩) (hs : PlainIx a := by intro _ _; rfl) (hv : VisV N sc i x := by exact ⟨rfl, by first | exact Or.inl rfl | exact Or.inr (Or.inl rfl) | exact Or.inr (Or.inr rfl), by decide, by decide⟩) (hline : (apos.endLine == cpos.line) = true := by rfl) :
    DE G N sc k (.Call (.Attribute (.Subscript (.Name x py) a spos) "append" apos) [b] [] cpos) (dNApp i ta tb) := ⟨fun W => by
  obtain ⟨tf, p1, i1⟩ := hI.ex W
  obtain ⟨tg, p2, i2⟩ := hb.ex W
  refine ⟨tBM G.K "list" rAppend (tOp (rIx G.K) (tVar i) tf) (tCons tg tNil), fun X S => ?_, fun e Ex hl env T F σ H Q R hh ht hR => ?_⟩
  · obtain ⟨hbase, hfew, hst, hplain⟩ := hw X.env
    rw [← S.K]
    exact pe_bm PySem.F.plainAttrs_list PySem.F.slot_list_append PySem.F.type_list_append mt_append (pe_ix ix_seq (pe_var (by rw [S.nms]; exact hv.1) (S.vis hv.2.1) hv.2.2.1 hv.2.2.2) (p1 X S) hs) (pa_cons (p2 X S) pa_nil hst) hbase hfew hline hst hplain
  · obtain ⟨⟨a0, xs0, h0⟩, ht⟩ := ht
    rcases hh.slots i _ h0 with z | ⟨v0, hv0, ok0⟩
    · cases z
    obtain ⟨e0, _⟩ := nest_ok.1 ok0
    subst e0
    refine ⟨_, hv0, ?_⟩
    refine i1 e Ex hl env T F σ H _ _ hh ht fun u H1 F1 env1 z hh1 q1 => ?_
    cases z with
    | ext dz =>
      cases dz with
      | int n =>
        have eu : u = .int n := hh1.temps (u, .ext (.int n)) List.mem_cons_self
        obtain ⟨a1, xs, bb, ds, hi1, hat, q2⟩ := q1
        rcases hh1.slots i _ hi1 with z | ⟨v1, hv1, ok1⟩
        · cases z
        rw [hv0] at hv1
        cases hv1
        obtain ⟨e1, nd1, F1n, H1a, cells1⟩ := nest_ok.1 ok1
        have e1 : a0 = a1 := V.ref.inj e1
        subst e1
        have hmem : (bb, ds) ∈ xs := by
          unfold atI at hat
          cases ej : ixN xs.length n with
          | none => rw [ej] at hat; cases hat
          | some j => rw [ej] at hat; exact List.mem_of_getElem? hat
        obtain ⟨_, us, hus, _⟩ := cells1 (bb, ds) hmem
        refine pr_ix F1 H1 (.ref a0) u (.lst (xs.map fun p => D.val (.ref p.1))) (.int n) (fun sl => sl = .ext (.val (.ref bb))) _ hh1.fh (.inr ⟨a0, _, _, rfl, rfl, H1a, rep_refs xs⟩) (.inl eu) ⟨_, atI_map (fun p : Addr × List D => D.val (.ref p.1)) hat, rfl⟩ ?_
        intro w F2 H2 sl gr oks own esl
        subst esl
        have ew : w = .ref bb := oks
        subst ew
        have hh2 : Holds G.K e env1 T F2 σ H2 := hh1.pop.grow gr
        refine ⟨.inl ⟨rfl, us, SqL.of (gr.hh _ _ hus)⟩, ?_⟩
        refine i2 e Ex hl env1 T F2 σ H2 _ _ hh2 q2 fun y H3 F3 env3 sy hh3 q3 => ?_
        obtain ⟨d, F4, env4, _, hh4, rd, a2, xs', j, ds', hi4, hj4, hz, q4⟩ := hh3.frz1 q3
        rcases hh4.slots i _ hi4 with z | ⟨v4, hv4, ok4⟩
        · cases z
        obtain ⟨_, _, _, _, cells4⟩ := nest_ok.1 ok4
        obtain ⟨_, vs4, hvs4, r4⟩ := cells4 (bb, ds') (List.mem_of_getElem? hj4)
        show rAppend (.ref bb) [y] H3 R
        exact ⟨bb, vs4, y, rfl, rfl, hvs4, by rw [← r4.length]; exact hz, hR .non _ F4 _ (.ext .non) ((hh4.nestW hi4 hj4 (r4.append (.one rd))).pushE rfl) q4⟩
      | _ => exact q1.elim
    | _ => exact q1.elim⟩
end
section
variable {K : PySem.W.Frag} {e : Ent} {env : Env'} {T : Tmp} {F : Hp} {σ : L2.St} {H H' : Hp}
theorem SlOk.eqOn {v : V} {sl : Sl} (h : ∀ c ∈ sl.owned, H' c = H c) (ok : SlOk K F H v sl) : SlOk K F H' v sl := by
  cases sl with
  | un => trivial
  | ext d => exact ok
  | al i a => exact ok
  | lst a ds =>
    obtain ⟨h1, h2, vs, h3, h4⟩ := ok
    exact ⟨h1, h2, vs, by rw [h a (List.mem_singleton.mpr rfl)]; exact h3, h4⟩
  | ar i a => exact ok
  | reg a cs =>
    obtain ⟨h1, h2, h3⟩ := ok
    refine ⟨h1, h2, fun p hp => ?_⟩
    obtain ⟨n, o, ho, okc⟩ := h3 p hp
    exact ⟨n, o, by rw [h p.1 (List.mem_map.mpr ⟨p, hp, rfl⟩)]; exact ho, okc⟩
theorem Holds.retop {v : V} {sl sl' : Sl} (h : Holds K e env ((v, sl) :: T) F σ H) (hH : ∀ c, c ∉ sl'.owned → H' c = H c) (new : ∀ c ∈ sl'.owned, c ∈ sl.owned ∨ H c = none) (ok : SlOk K F H' v sl') : Holds K e env ((v, sl') :: T) F σ H' := by
  have old := h.ownedH
  have nd := h.nd
  have nd1 : (ownedE env ++ (sl.owned ++ ownedT T)).Nodup := nd
  obtain ⟨n1, n2, n3⟩ := List.nodup_append.mp nd1
  obtain ⟨n4, n5, n6⟩ := List.nodup_append.mp n2
  have outE : ∀ c ∈ ownedE env, c ∉ sl'.owned := fun c hc m => by
    rcases new c m with z | z
    · exact n3 c hc c (List.mem_append_left _ z) rfl
    · obtain ⟨_, o, q⟩ := old c (List.mem_append_left _ hc)
      rw [z] at q
      cases q
  have outT : ∀ c ∈ ownedT T, c ∉ sl'.owned := fun c hc m => by
    rcases new c m with z | z
    · exact n6 c z c hc rfl
    · obtain ⟨_, o, q⟩ := old c (List.mem_append_right _ (List.mem_append_right _ hc))
      rw [z] at q
      cases q
  have hA : ∀ c o, e.H0 c = some o → c ∉ e.A0 → c ∉ sl'.owned := fun c o q n m => by
    rcases new c m with z | z
    · rcases h.s3 c (List.mem_append_right _ (List.mem_append_left _ z)) with y | y
      · exact n y
      · rw [q] at y
        cases y
    · rw [(h.s2 c o q n).1] at z
      cases z
  refine ⟨fun c o q => ?_, h.len, fun j s q => ?_, fun p hp => ?_, ?_, h.s1, fun c o q n => ?_, fun c hc => ?_⟩
  · have nc : c ∉ sl'.owned := fun m => by
      rcases new c m with z | z
      · rw [(old c (List.mem_append_right _ (List.mem_append_left _ z))).1] at q
        cases q
      · rw [h.fh _ _ q] at z
        cases z
    rw [hH c nc]
    exact h.fh c o q
  · rcases h.slots j s q with z | ⟨w, hw, okj⟩
    · exact .inl z
    · exact .inr ⟨w, hw, okj.eqOn fun c hc => hH c (outE c (mem_ownedE q hc))⟩
  · rcases List.mem_cons.mp hp with rfl | hp
    · exact ok
    · exact (h.temps p (List.mem_cons_of_mem _ hp)).eqOn fun c hc => hH c (outT c (List.mem_flatMap.mpr ⟨p, hp, hc⟩))
  · show (ownedE env ++ (sl'.owned ++ ownedT T)).Nodup
    refine List.nodup_append.mpr ⟨n1, List.nodup_append.mpr ⟨ok.ndo, n5, fun c hc d hd z => outT d hd (z ▸ hc)⟩, fun c hc d hd z => ?_⟩
    rcases List.mem_append.mp hd with hd | hd
    · exact outE c hc (z ▸ hd)
    · exact n3 c hc d (List.mem_append_right _ hd) z
  · obtain ⟨q1, q2⟩ := h.s2 c o q n
    exact ⟨by rw [hH c (hA c o q n)]; exact q1, q2⟩
  · have hc' : c ∈ ownedE env ++ (sl'.owned ++ ownedT T) := hc
    rcases List.mem_append.mp hc' with hc | hc
    · exact h.s3 c (List.mem_append_left _ hc)
    · rcases List.mem_append.mp hc with hc | hc
      · rcases new c hc with z | z
        · exact h.s3 c (List.mem_append_right _ (List.mem_append_left _ z))
        · cases q : e.H0 c with
          | none => exact .inr rfl
          | some o =>
            by_cases hA' : c ∈ e.A0
            · exact .inl hA'
            · exact absurd hc (hA c o q hA')
      · exact h.s3 c (List.mem_append_right _ (List.mem_append_right _ hc))
theorem Holds.nestAdd {D' p : Addr} {xs : List (Addr × List D)} (h : Holds K e env ((V.ref D', nestS D' xs) :: T) F σ H) (hp : H p = none) : Holds K e env ((V.ref D', nestS D' (xs ++ [(p, [])])) :: T) F σ (upd (upd H p (.lst [])) D' (.lst ((xs.map fun q => V.ref q.1) ++ [V.ref p]))) := by
  obtain ⟨_, nd, h3, h4, h5⟩ := nest_ok.1 (h.temps (V.ref D', nestS D' xs) List.mem_cons_self)
  have np : p ∉ D' :: xs.map (·.1) := fun m => by
    obtain ⟨_, o, q⟩ := h.ownedH p (List.mem_append_right _ (List.mem_append_left _ (show p ∈ (nestS D' xs).owned by rw [nest_own]; exact m)))
    rw [hp] at q
    cases q
  have nDp : D' ≠ p := fun z => np (by rw [z]; exact List.mem_cons_self)
  have own : (nestS D' (xs ++ [(p, [])])).owned = D' :: (xs.map (·.1) ++ [p]) := by rw [nest_own, List.map_append]; rfl
  refine h.retop (fun c hc => ?_) (fun c hc => ?_) (nest_ok.2 ⟨rfl, ?_, h3, ?_, fun q hq => ?_⟩)
  · rw [own] at hc
    rw [upd_ne (fun z => hc (by rw [z]; exact List.mem_cons_self)), upd_ne (fun z => hc (by rw [z]; simp))]
  · rw [own] at hc
    rw [nest_own]
    rcases List.mem_cons.mp hc with rfl | hc
    · exact .inl List.mem_cons_self
    · rcases List.mem_append.mp hc with hc | hc
      · exact .inl (List.mem_cons_of_mem _ hc)
      · rw [List.mem_singleton.mp hc]; exact .inr hp
  · rw [List.map_append]
    obtain ⟨m1, m2⟩ := List.nodup_cons.mp nd
    refine List.nodup_cons.mpr ⟨fun m => ?_, List.nodup_append.mpr ⟨m2, List.pairwise_singleton _ _, fun c hc d hd z => ?_⟩⟩
    · rcases List.mem_append.mp m with m | m
      · exact m1 m
      · exact nDp (List.mem_singleton.mp m)
    · have z' : c = p := z.trans (List.mem_singleton.mp hd)
      rw [z'] at hc
      exact np (List.mem_cons_of_mem _ hc)
  · rw [upd_same, List.map_append]
    rfl
  · rcases List.mem_append.mp hq with hq | hq
    · obtain ⟨n, vs, hv, hr⟩ := h5 q hq
      have mq : q.1 ∈ xs.map (·.1) := List.mem_map.mpr ⟨q, hq, rfl⟩
      have n1 : q.1 ≠ D' := fun z => (List.nodup_cons.mp nd).1 (z ▸ mq)
      have n2 : q.1 ≠ p := fun z => np (List.mem_cons_of_mem _ (z ▸ mq))
      exact ⟨n, vs, by rw [upd_ne n1, upd_ne n2]; exact hv, hr⟩
    · rw [List.mem_singleton.mp hq]
      exact ⟨h.fh.free hp, [], by rw [upd_ne nDp.symm, upd_same], rfl⟩
theorem Holds.sealN {i : Nat} {a : Addr} {xs : List (Addr × List D)} (h : Holds K e env T F σ H) (hi : env[i]? = some (nestS a xs)) : ∃ F1, Same F F1 ∧ Holds K e (env.set i (.ext (.lst (xs.map fun p => .lst p.2)))) T F1 σ H := by
  rcases h.slots i _ hi with z | ⟨v, hv, ok⟩
  · cases z
  obtain ⟨ev, nd, h3, h4, h5⟩ := nest_ok.1 ok
  have own := nest_own a xs
  have inE : ∀ c ∈ a :: xs.map (·.1), c ∈ ownedE env := fun c hc => mem_ownedE hi (by rw [own]; exact hc)
  have none : ∀ c ∈ a :: xs.map (·.1), F c = none := fun c hc => (h.ownedH c (List.mem_append_left _ (inE c hc))).1
  let F1 : Hp := fun c => if c ∈ a :: xs.map (·.1) then H c else F c
  have f1in : ∀ c ∈ a :: xs.map (·.1), F1 c = H c := fun c hc => if_pos hc
  have f1out : ∀ c, c ∉ a :: xs.map (·.1) → F1 c = F c := fun c hc => if_neg hc
  have sm : Same F F1 := fun c o q => by
    rw [f1out c (fun m => by rw [none c m] at q; cases q)]
    exact q
  have fz : ∀ {w : V} {sl : Sl}, (∀ c ∈ sl.owned, c ∉ a :: xs.map (·.1)) → SlOk K F H w sl → SlOk K F1 H w sl := fun {w sl} n okj => by
    cases sl with
    | un => trivial
    | ext d => exact Rep.same sm okj
    | al j b => exact okj
    | lst b ds =>
      obtain ⟨q1, q2, vs, q3, q4⟩ := okj
      exact ⟨q1, by rw [f1out b (n b (List.mem_singleton.mpr rfl))]; exact q2, vs, q3, q4.same sm⟩
    | ar j b => exact okj
    | reg b cs =>
      obtain ⟨q1, q2, q3⟩ := okj
      refine ⟨Rep.same sm q1, q2, fun p hp => ?_⟩
      obtain ⟨m1, o, m2, m3⟩ := q3 p hp
      exact ⟨by rw [f1out p.1 (n p.1 (List.mem_map.mpr ⟨p, hp, rfl⟩))]; exact m1, o, m2, m3.same sm⟩
  obtain ⟨A, B, e1, e2⟩ := splitE hi
  have sub : (ownedE (env.set i (.ext (.lst (xs.map fun p => .lst p.2)))) ++ ownedT T).Sublist (ownedE env ++ ownedT T) := by
    rw [e2, e1]
    exact ((List.Sublist.refl _).append (List.sublist_append_right _ _)).append (List.Sublist.refl _)
  refine ⟨F1, sm, fun c o q => ?_, by rw [List.length_set]; exact h.len, fun j s q => ?_, fun p hp => fz (fun c hc m => ?_) (h.temps p hp), h.nd.sublist sub, h.s1.trans sm, fun c o q n => ?_, fun c hc => h.s3 c (sub.subset hc)⟩
  · by_cases m : c ∈ a :: xs.map (·.1)
    · rw [f1in c m] at q
      exact q
    · rw [f1out c m] at q
      exact h.fh c o q
  · rw [List.getElem?_set] at q
    split at q
    · rename_i ij
      subst ij
      split at q
      · cases q
        refine .inr ⟨v, hv, a, xs.map (fun p => V.ref p.1), ev, by rw [f1in a List.mem_cons_self]; exact h4, ?_⟩
        refine Reps.of_get (by rw [List.length_map, List.length_map]) fun j d w hd hw => ?_
        rw [List.getElem?_map] at hd hw
        cases hx : xs[j]? with
        | none => rw [hx] at hd; cases hd
        | some p =>
          rw [hx] at hd hw
          cases Option.some.inj hd
          cases Option.some.inj hw
          obtain ⟨_, vs, hvs, hr⟩ := h5 p (List.mem_of_getElem? hx)
          exact ⟨p.1, vs, rfl, by rw [f1in p.1 (List.mem_cons_of_mem _ (List.mem_map.mpr ⟨p, List.mem_of_getElem? hx, rfl⟩))]; exact hvs, hr.same sm⟩
      · cases q
    · rename_i ij
      rcases h.slots j s q with z | ⟨w, hw, okj⟩
      · exact .inl z
      · exact .inr ⟨w, hw, fz (fun c hc m => ij (owned_two h.nd hi q (by rw [own]; exact m) hc)) okj⟩
  · exact (List.nodup_append.mp h.nd).2.2 c (inE c m) c (List.mem_flatMap.mpr ⟨p, hp, hc⟩) rfl
  · obtain ⟨q1, q2⟩ := h.s2 c o q n
    refine ⟨q1, fun z => ?_⟩
    have nc : c ∉ a :: xs.map (·.1) := fun m => by
      rcases h.s3 c (List.mem_append_left _ (inE c m)) with y | y
      · exact n y
      · rw [q] at y
        cases y
    rw [f1out c nc]
    exact q2 z
end
def sSeal (i : Nat) (t : DTS) : DTS := fun Ex E env => ∃ a xs, env[i]? = some (nestS a xs) ∧ t Ex E (env.set i (.ext (.lst (xs.map fun p => .lst p.2))))
theorem ds_seal {G : GG} {N : List Str} {sc : SC} {k : Nat} {st : Stmt} {t : DTS} (i : Nat) (h : DS G N sc k st t) : DS G N sc k st (sSeal i t) := ⟨fun W => by
  obtain ⟨ts, p1, i1⟩ := h.ex W
  refine ⟨ts, p1, fun e Ex hl env F σ H E Dn hh ht ok => ?_⟩
  obtain ⟨a, xs, hi, ht⟩ := ht
  obtain ⟨F1, _, hh1⟩ := hh.sealN hi
  exact i1 e Ex hl _ F1 σ H E Dn hh1 ht ok⟩
def emp (bs : List Addr) : List (Addr × List D) := bs.map fun b => (b, [])
def dNest (ti : DTI) (i : Nat) : DT := fun Ex env Q => ti Ex env fun items keep env1 => keep (env1.set i .un) ∧ items.length ≤ sizeLine ∧ ∀ a (bs : List Addr), bs.length = items.length → Q (nestS a (emp bs)) (env1.set i .un)
theorem im_nest {K : PySem.W.Frag} {W : WX} {wi : TI} {gg : TG} {ti : DTI} {i : Nat} (i1 : ImI K W wi ti) (i2 : ImG K [i] gg (gSet i)) : Im K W (tLc wi gg tYes (tLst tNil) [i]) (dNest ti i) := fun e Ex hl env T F σ H Q R hh ht hR => by
  refine i1 e Ex hl env T F σ H _ _ hh ht fun J H1 F1 env1 items keep hh1 src q1 => fun D' hD => ?_
  obtain ⟨kp, hz, q1⟩ := q1
  have h0 : Holds K e env1 ((V.ref D', nestS D' []) :: T) F1 σ (upd H1 D' (.lst [])) := hh1.push (Grow.loose hh1.fh hD) (nest_ok.2 ⟨rfl, List.pairwise_singleton _ _, hh1.fh.free hD, upd_same, fun p hp => nomatch hp⟩) fun a ha => by
    rw [nest_own] at ha
    rw [List.mem_singleton.mp ha]
    exact hD
  refine ⟨fun j m H' => ∃ (F' : Hp) (bs : List Addr), Holds K (e.at F1) (env1.set i .un) ((V.ref D', nestS D' (emp bs)) :: T) F' (wipe σ [i]) H' ∧ j + m = items.length ∧ bs.length = j,
    ⟨items.length, F1, [], (hh1.on h0 (Same.refl _)).wipe [i], by omega, rfl⟩, ?_⟩
  rintro j m H2 ⟨F2, bs, hh2, em, hbl⟩
  obtain ⟨s1, s2⟩ := src (e.at F1) (env1.set i .un) _ F2 _ H2 j hh2 hh2.s1 kp
  cases hd : items[j]? with
  | none =>
    have hj : items.length ≤ j := List.getElem?_eq_none_iff.mp hd
    exact .inl ⟨s1 (by omega), hR _ H2 F2 _ _ (hh1.off hh2.unwipe) (q1 D' bs (by omega))⟩
  | some d =>
    obtain ⟨hj, ed⟩ := List.getElem?_eq_some_iff.mp hd
    obtain ⟨go, yl⟩ := s2 d hd
    refine .inr ⟨go, fun H' => ∃ (F' : Hp) (bs : List Addr), Holds K (e.at F1) (env1.set i .un) ((V.ref D', nestS D' (emp bs)) :: T) F' (wipe σ [i]) H' ∧ bs.length = j + 1, fun H' ⟨F', bs', a1, a2⟩ => ⟨m - 1, by omega, F', bs', a1, by omega, a2⟩, fun x H3 hy => ?_⟩
    obtain ⟨F3, gr, rd⟩ := yl x H3 hy
    refine i2 (e.at F1) (env1.set i .un) _ F3 _ H3 x d (fun env' => env' = (env1.set i .un).set i (.ext d)) _ (hh2.grow gr) rd rfl fun env4 σ4 hh4 on4 q4 => ⟨wipe_only on4, ?_⟩
    subst q4
    have hyes : ∀ k : Bool → Hp → Prop, k true H3 → tYes σ4 H3 k := fun k h => h
    refine hyes _ ?_
    rw [if_pos rfl]
    refine ⟨Nat.zero_le _, fun p hp => ?_⟩
    obtain ⟨_, _, _, hDa, _⟩ := nest_ok.1 (hh4.temps (V.ref D', nestS D' (emp bs)) List.mem_cons_self)
    have nDp : D' ≠ p := fun z => by rw [← z, hDa] at hp; cases hp
    refine ⟨_, by rw [upd_ne nDp]; exact hDa, by rw [List.length_map, show (emp bs).length = bs.length from List.length_map _, hbl]; exact Nat.lt_of_lt_of_le hj hz, ?_⟩
    have z := (hh4.nestAdd hp).wipe [i]
    rw [wipe_only on4] at z
    have ee : wipeE ((env1.set i .un).set i (.ext d)) [i] = env1.set i .un := by
      show ((env1.set i .un).set i (.ext d)).set i .un = _
      rw [List.set_set, List.set_set]
    rw [ee] at z
    refine ⟨F3, bs ++ [p], ?_, by rw [List.length_append, hbl]; rfl⟩
    rw [show emp (bs ++ [p]) = emp bs ++ [(p, [])] from List.map_append]
    exact z
section
variable {G : GG} {N : List Str} {sc : SC} {k : Nat} {iter : Expr} {scope : Scope} {pos lpos : Pos} {ti : DTI} {tg : Expr}
theorem ds_setNest {x y : Str} {py spos : Pos} (i j : Nat) (hi : DI G N sc k tg iter ti) (ok : blkC N sc.sc scope [(x, j)] = true) (hg : DG G N (lcS scope sc) tg [j] (gSet j)) (hy : N[i]? = some y := by rfl) (hyl : sc.sc.names.lookup y = some .local := by rfl)
    (hk : sc.sc.kind = .function := by rfl) (hl : (py.line == pos.line) = true := by rfl) (ha : (scope.names.any fun (n, k) => n == y && (k == .local || k == .cell)) = false := by decide +kernel) (hs : ∀ env x, foldedSetIterable iter env x = pure x := by intro _ _; rfl) :
    DS G N sc k (.Assign [.Name y py] (.ListComp (.List [] lpos) [⟨tg, iter, [], 0⟩] scope pos) spos) (sSet i (dNest ti j)) := ⟨fun W => by
  obtain ⟨wi, p1, i1⟩ := hi.ex W
  obtain ⟨gg, p2, i2⟩ := hg.ex
  refine ⟨tAsg (tLc wi gg tYes (tLst tNil) [j]) (gName i), fun X S => ?_, imS_set i (im_nest i1 i2)⟩
  have hyX : X.env.scope.names.lookup y = some .local := by
    rw [S.scp]
    exact hyl
  exact ps_setLc S.calm (by rw [S.nms]; exact S.nd) (by rw [S.nms]; exact hy) hyX (sw_true (by rw [S.scp]; exact hk) hyX hl ha) (p1 X S) (by rw [S.nms, S.scp]; exact blkOk_by ok) (fun s H C cl fp => p2 _ _ _ (S.blk s H scope C cl fp)) (fun s H C cl fp => pts_nil) (fun s H C cl fp => pe_lst pa_nil) (hs _)⟩
end
end HD
namespace HD
open PySem PyProof.Rows L2
section
variable {G : GG} {N : List Str} {sc : SC} {k : Nat} {a : Expr} {ta : DT} {p p2 pos pos2 : Pos}
def dLenSet (t : DT) : DT := fun Ex env Q => t Ex env fun x env1 => wd env1 x fun d => match d with
  | .tup ds => ∃ ns : List Int, ds = ns.map D.int ∧ ns.length < 3000 ∧ ∀ m : Nat, (m = ns.length ↔ ns.Nodup) → Q (.ext (.int (m : Nat))) env1
  | _ => False
end
end HD
namespace HD
open PySem PyProof.Rows L2
def fSum2 : List D → (Sl → Prop) → Prop
  | [.lst ds], Q => ∃ ns : List Int, ds = ns.map D.int ∧ Q (.ext (.int ns.sum))
  | [.tup ds], Q => ∃ ns : List Int, ds = ns.map D.int ∧ Q (.ext (.int ns.sum))
  | _, _ => False
end HD
namespace HD
open PySem PyProof.Rows L2
section
variable {κ β : Type} [DecidableEq κ]
def luK (kvs : List (κ × β)) (k : κ) : Option β := (kvs.find? fun kv => decide (kv.1 = k)).map (·.2)
def ptK (kvs : List (κ × β)) (k : κ) (v : β) : List (κ × β) := if kvs.any (fun kv => decide (kv.1 = k)) then kvs.map (fun kv => if kv.1 = k then (kv.1, v) else kv) else kvs ++ [(k, v)]
def drK (kvs : List (κ × β)) (k : κ) : List (κ × β) := kvs.filter fun kv => decide (kv.1 ≠ k)
end
abbrev dkS (a : Addr) (kvs : List (Key × D)) : Sl := .reg (.val (.ref a)) [(a, .dk kvs)]
abbrev dkD (kvs : List (Key × D)) : D := .dk (kvs.map (·.1)) (kvs.map (·.2))
def kD : Key → D
  | .inl i => .int i
  | .inr x => .str x
def dkAt (env : Env') (i : Nat) (kvs : List (Key × D)) : Prop := (∃ a, env[i]? = some (dkS a kvs)) ∨ env[i]? = some (.ext (dkD kvs))
section
variable {G : GG} {N : List Str} {sc : SC} {k : Nat} {a b : Expr} {ta tb : DT} {py pos spos apos cpos : Pos} {x : Str}
def dDIn (neg : Bool) (i : Nat) (t : DT) : DT := fun Ex env Q => t Ex env fun x env1 => ∃ key kvs, x = .ext (kD key) ∧ dkAt env1 i kvs ∧ Q (.ext (.bl (neg != (luK kvs key).isSome))) env1
def dDGet (i : Nat) (t : DT) : DT := fun Ex env Q => (∃ kvs, dkAt env i kvs) ∧ t Ex env fun x env1 => ∃ key kvs d, x = .ext (kD key) ∧ dkAt env1 i kvs ∧ luK kvs key = some d ∧ Q (.ext d) env1
def sPutD (i : Nat) (tk tv : DT) : DTS := fun Ex E env => tv Ex env fun y env0 => frzD env0 y fun d env1 => (∃ a kvs, env1[i]? = some (dkS a kvs)) ∧ tk Ex env1 fun x env2 => ∃ a kvs key, env2[i]? = some (dkS a kvs) ∧ x = .ext (kD key) ∧ kvs.length < sizeLine ∧ E.nx (env2.set i (dkS a (ptK kvs key d)))
def dDNew : DT := fun _ env Q => ∀ a, Q (dkS a []) env
def dDOne (tk tv : DT) : DT := fun Ex env Q => tk Ex env fun x env1 => tv Ex env1 fun y env2 => ∃ key, x = .ext (kD key) ∧ frzD env2 y fun d env3 => ∀ a, Q (dkS a [(key, d)]) env3
end
def sSealD (i : Nat) (t : DTS) : DTS := fun Ex E env => ∃ a kvs, env[i]? = some (dkS a kvs) ∧ t Ex E (env.set i (.ext (dkD kvs)))
def keyS (x : Sl) (q : List Key → Prop) : Prop := match x with
  | .ext (.dk ks _) => q ks
  | _ => False
theorem keyS_dk (ks : List Key) (ds : List D) (q : List Key → Prop) : keyS (.ext (.dk ks ds)) q = q ks := rfl
def dKeys (t : DT) : DTI := fun Ex env Q => t Ex env fun x env1 => keyS x fun ks => Q (ks.map kD) (fun _ => True) env1
end HD
namespace HD
open PySem PyProof.Rows L2
section
variable {G : GG} {N : List Str} {sc : SC} {k : Nat} {b : Expr} {tb : DT} {apos cpos py : Pos} {x : Str}
def dExtT (i : Nat) (t : DT) : DT := fun Ex env Q => (∃ a ds, env[i]? = some (.lst a ds)) ∧ t Ex env fun x env1 => ∃ a ds es, x = .ext (.tup es) ∧ env1[i]? = some (.lst a ds) ∧ ds.length + es.length ≤ sizeLine ∧ Q (.ext .non) (env1.set i (.lst a (ds ++ es)))
end
theorem seq_putD (i : Nat) (tk tv : DT) (u : DTS) (Ex : DX) (E : DEnds) (env : Env') : sSeq (sPutD i tk tv) u Ex E env = sPutD i tk tv Ex { E with nx := fun env1 => u Ex E env1 } env := rfl
theorem seq_sealD (i : Nat) (t u : DTS) (Ex : DX) (E : DEnds) (env : Env') : sSeq (sSealD i t) u Ex E env = sSealD i t Ex { E with nx := fun env1 => u Ex E env1 } env := rfl
end HD
namespace LS
open PySem L2 HD PM
local macro_rules | `(tactic| trivial) => `(tactic| try simp -dsimp only [↓sIf, ↓sRet, ↓retD_ext, ↓retD_lst, ↓retD_al, ↓sSet, ↓sSetE, ↓sAsg, ↓sDrop, ↓sNext, ↓sFor, ↓sRetN, ↓sCont, ↓sBreak, ↓dTest, ↓dOp, ↓dVar_w, ↓dC, ↓dCons, ↓dNil, ↓dTup, ↓dLst, ↓frzDs, ↓frzD_ext, ↓frzD_lst, ↓frzD_al, ↓wd_ext, ↓wd_lst, ↓wd_al, ↓wds, ↓AtS_ext, ↓AtS_lst, ↓AtL, ↓fAdd, ↓fSub, ↓fMul, ↓fDiv, ↓fMod, ↓fPow, ↓fCmp, ↓fIn, ↓fEq_ii, ↓fEq_ss, ↓fEq_bb, ↓fEq_tt, ↓fEq_ll, ↓fNe_ii, ↓fNe_ss, ↓fNe_bb, ↓fNe_tt, ↓fNe_ll, ↓fIx_l, ↓fIx_t, ↓fIx_k, ↓fIx_f, ↓GetS_some, ↓NatS_some, ↓fSl, ↓fIsN, ↓fNotN, ↓D.knN, ↓dNot, ↓dAnd, ↓dOr, ↓dAndV_w, ↓dOrV_w, ↓dNotV, ↓dIf, ↓dNeg, ↓dChain_w, ↓BlS_bl, ↓dCall_w, ↓dCallJ_w, ↓anyAl, ↓frozs, ↓froz, ↓gSet, ↓gTupD, ↓gsCons, ↓gsNil, ↓dSeq, ↓seqD_tup, ↓seqD_elst, ↓seqD_lst, ↓seqD_al, ↓dRange1, ↓dRange2, ↓dZip, ↓dCB, ↓dLc, ↓dYes, ↓dNoPart, ↓dPart, ↓dSl, ↓fLen, ↓fMin, ↓fMax, ↓fSum, ↓fAll, ↓fAny, ↓fSorted, ↓fTuple, ↓fList, ↓dRg1, ↓dRg2, ↓dLstRg, ↓dTupRg, ↓dIndex, ↓fIdx, ↓dAppend_w, ↓dExtend_w, ↓extD_lst, ↓dPopAt_w, ↓popD_int, ↓dPop_w, ↓mutD_w, ↓sSetItem_w, ↓setD_int, ↓dSortSet, ↓dTable_w, ↓wipeE, finals1, finals2, finals3, finals4, finals5, finals6, fin1_ext, fin1_lst, List.getElem?_cons_zero, List.getElem?_cons_succ, List.getElem?_nil, List.set_cons_zero, List.set_cons_succ, List.cons_append, List.nil_append, List.append_nil, List.replicate_succ, List.replicate_zero, List.map_cons, List.map_nil, List.length_cons, List.length_nil, true_and, and_true, ite_true, ite_false, if_true, if_false, Bool.false_eq_true, decide_eq_true_eq, Sl.plain, D.isSq, eq_self_iff_true, forall_const, reduceIte, true_or, or_true, atI_0, atI_1, atI_2, atI_3, ixN_0, ixN_1, ixN_2, AtS_ext, AtS_lst, FzS_lst, FzS_ext, GetS_some, NatS_some, ↓fIsi1, ↓fIsi2, BoolS_some, HD.kb_non_tuple, HD.kb_non_list, HD.kb_non_bool, HD.kb_non_int, HD.kb_non_str, HD.kb_bl_tuple, HD.kb_bl_list, HD.kb_bl_bool, HD.kb_bl_int, HD.kb_bl_str, HD.kb_int_tuple, HD.kb_int_list, HD.kb_int_bool, HD.kb_int_int, HD.kb_int_str, HD.kb_str_tuple, HD.kb_str_list, HD.kb_str_bool, HD.kb_str_int, HD.kb_str_str, HD.kb_lst_tuple, HD.kb_lst_list, HD.kb_lst_bool, HD.kb_lst_int, HD.kb_lst_str, HD.kb_tup_tuple, HD.kb_tup_list, HD.kb_tup_bool, HD.kb_tup_int, HD.kb_tup_str, ↓sFz_w, ↓FzS_lst, ↓FzS_ext, ↓dSortSetL, ↓fAbs, ↓fInt, ↓fRepr, ↓fLtT, ↓sRaise, ↓sTryKeep, ↓dCallV_w, ↓dMeth, ↓fCount, ↓fSplit, ↓seq_setE, ↓seq_set, ↓seq_drop, ↓seq_asg, ↓seq_if, ↓seq_for, ↓dStep, ↓fStep, ↓fMulT, ↓fIsB, ↓fNotB, ↓sPar, ↓dEnum, ↓dListZip, ↓dNest, ↓sSeal, ↓dNApp, ↓retD_reg, ↓dLenSet, ↓fSum2, ↓seq_putD, ↓seq_sealD, ↓dDIn, ↓dDGet, ↓sPutD, ↓dDNew, ↓dDOne, ↓sSealD, ↓dKeys, ↓keyS_dk, ↓dExtT])
local macro_rules | `(tactic| and_intros) => `(tactic| try simp -dsimp only [↓sIf, ↓sRet, ↓retD_ext, ↓retD_lst, ↓retD_al, ↓sSet, ↓sSetE, ↓sAsg, ↓sDrop, ↓sNext, ↓sFor, ↓sRetN, ↓sCont, ↓sBreak, ↓dTest, ↓dOp, ↓dC, ↓dCons, ↓dNil, ↓dTup, ↓dLst, ↓frzDs, ↓frzD_ext, ↓frzD_lst, ↓frzD_al, ↓wd_ext, ↓wd_lst, ↓wd_al, ↓wds, ↓AtS_ext, ↓AtS_lst, ↓AtL, ↓fAdd, ↓fSub, ↓fMul, ↓fDiv, ↓fMod, ↓fPow, ↓fCmp, ↓fIn, ↓fEq_ii, ↓fEq_ss, ↓fEq_bb, ↓fEq_tt, ↓fEq_ll, ↓fNe_ii, ↓fNe_ss, ↓fNe_bb, ↓fNe_tt, ↓fNe_ll, ↓fIx_l, ↓fIx_t, ↓fIx_k, ↓fIx_f, ↓GetS_some, ↓NatS_some, ↓fSl, ↓fIsN, ↓fNotN, ↓D.knN, ↓dNot, ↓dAnd, ↓dOr, ↓dAndV_w, ↓dOrV_w, ↓dNotV, ↓dIf, ↓dNeg, ↓dChain_w, ↓BlS_bl, ↓dCall_w, ↓dCallJ_w, ↓anyAl, ↓frozs, ↓froz, ↓gSet, ↓gTupD, ↓gsCons, ↓gsNil, ↓dSeq, ↓seqD_tup, ↓seqD_elst, ↓seqD_lst, ↓seqD_al, ↓dRange1, ↓dRange2, ↓dZip, ↓dCB, ↓dLc, ↓dYes, ↓dNoPart, ↓dPart, ↓dSl, ↓fLen, ↓fMin, ↓fMax, ↓fSum, ↓fAll, ↓fAny, ↓fSorted, ↓fTuple, ↓fList, ↓dRg1, ↓dRg2, ↓dLstRg, ↓dTupRg, ↓dIndex, ↓fIdx, ↓dAppend_w, ↓dExtend_w, ↓extD_lst, ↓dPopAt_w, ↓popD_int, ↓dPop_w, ↓mutD_w, ↓sSetItem_w, ↓setD_int, ↓dSortSet, ↓dTable_w, ↓wipeE, finals1, finals2, finals3, finals4, finals5, finals6, fin1_ext, fin1_lst, List.getElem?_cons_zero, List.getElem?_cons_succ, List.getElem?_nil, List.set_cons_zero, List.set_cons_succ, List.cons_append, List.nil_append, List.append_nil, List.replicate_succ, List.replicate_zero, List.map_cons, List.map_nil, List.length_cons, List.length_nil, true_and, and_true, ite_true, ite_false, if_true, if_false, Bool.false_eq_true, decide_eq_true_eq, Sl.plain, D.isSq, eq_self_iff_true, forall_const, reduceIte, true_or, or_true, atI_0, atI_1, atI_2, atI_3, ixN_0, ixN_1, ixN_2, AtS_ext, AtS_lst, FzS_lst, FzS_ext, GetS_some, NatS_some, ↓fIsi1, ↓fIsi2, BoolS_some, HD.kb_non_tuple, HD.kb_non_list, HD.kb_non_bool, HD.kb_non_int, HD.kb_non_str, HD.kb_bl_tuple, HD.kb_bl_list, HD.kb_bl_bool, HD.kb_bl_int, HD.kb_bl_str, HD.kb_int_tuple, HD.kb_int_list, HD.kb_int_bool, HD.kb_int_int, HD.kb_int_str, HD.kb_str_tuple, HD.kb_str_list, HD.kb_str_bool, HD.kb_str_int, HD.kb_str_str, HD.kb_lst_tuple, HD.kb_lst_list, HD.kb_lst_bool, HD.kb_lst_int, HD.kb_lst_str, HD.kb_tup_tuple, HD.kb_tup_list, HD.kb_tup_bool, HD.kb_tup_int, HD.kb_tup_str, ↓sFz_w, ↓FzS_lst, ↓FzS_ext, ↓dSortSetL, ↓fAbs, ↓fInt, ↓fRepr, ↓fLtT, ↓sRaise, ↓sTryKeep, ↓dCallV_w, ↓dMeth, ↓fCount, ↓fSplit, ↓seq_setE, ↓seq_set, ↓seq_drop, ↓seq_asg, ↓seq_if, ↓seq_for, ↓dStep, ↓fStep, ↓fMulT, ↓fIsB, ↓fNotB, ↓sPar, ↓dEnum, ↓dListZip, ↓dNest, ↓sSeal, ↓dNApp, ↓retD_reg, ↓dLenSet, ↓fSum2, ↓seq_putD, ↓seq_sealD, ↓dDIn, ↓dDGet, ↓sPutD, ↓dDNew, ↓dDOne, ↓sSealD, ↓dKeys, ↓keyS_dk, ↓dExtT, ↓dv0, ↓dw0, ↓dv1, ↓dw1, ↓dv2, ↓dw2, ↓dv3, ↓dw3, ↓dv4, ↓dw4, ↓dv5, ↓dw5, ↓dv6, ↓dw6, ↓dv7, ↓dw7, ↓dv8, ↓dw8, ↓dv9, ↓dw9, ↓dv10, ↓dw10, ↓dv11, ↓dw11, ↓dv12, ↓dw12, ↓dv13, ↓dw13, ↓dv14, ↓dw14, ↓dv15, ↓dw15, ↓dv16, ↓dw16, ↓dv17, ↓dw17, ↓dv18, ↓dw18, ↓dv19, ↓dw19])
def fw (w : Wd) (S : List Nat) (ps : List Part) (f : List Nat) : Int := jAll w S ps fun n => f.getD n 0
def sp_whole : DSpec := fun args Q _ => ∃ (w : Wd) (S : List Nat) (ps : List Part), args = [dW w, .ext (dSh S ps)] ∧ ShOk S ps ∧ ∀ fin, Q (dI (gt w ((allF S).map (fw w S ps)))) fin
def e1_whole : DT :=
    (dCall sp_joined_at (dCons (dVar 0) (dCons (dVar 1) (dCons (dVar 2) dNil))))
def t_whole : DTS :=
    (sRet (dCall sp_gather (dCons (dVar 0) (dCons (dLc (dSeq (dCall sp_all_fillings (dCons (dVar 1) dNil))) (gSet 2) dYes e1_whole [2]) dNil))))
theorem allF_ne {S : List Nat} (hS : SzOk S) : allF S ≠ [] := fun e => by
  have h : (allF S).length = prodN S := by unfold allF; rw [len_fills, psz_all]
  rw [e] at h
  have := prodN_pos hS.pos
  simp at h
  omega
theorem m_whole : Meets t_whole 2 1 sp_whole := by
  rintro args Qd Xd ⟨w, S, ps, rfl, hs, hQ⟩
  show t_whole _ _ [_, _, .un]
  unfold t_whole
  and_intros
  refine ⟨S, ps, rfl, hs, fun fin => ?_⟩
  trivial
  rw [show fD (allF S) = (allF S).map (fun f => D.tup (nD f)) from rfl]
  refine lc_map (fun f : List Nat => D.tup (nD f)) (fun f => .int (fw w S ps f)) True.intro (allF S) (Nat.le_trans (allF_len hs.sz) (by decide)) (fun f hf R hR => ?_) fun b => ?_
  · unfold e1_whole
    trivial
    refine ⟨w, S, ps, f, rfl, hs, allF_fit hf, fun fin => ?_⟩
    trivial
    exact hR
  trivial
  refine ⟨w, (allF S).map (fw w S ps), by rw [iD, List.map_map]; rfl, by simpa using allF_ne hs.sz, fun fin => ?_⟩
  trivial
  exact hQ _
def at' (ns f : List Nat) : List Nat := ns.map fun n => f.getD n 0
def bkt (w : Wd) (S : List Nat) (ps : List Part) (ns g : List Nat) (fs : List (List Nat)) : List Int := (fs.filter fun f => at' ns f == g).map (fw w S ps)
def restP (w : Wd) (S : List Nat) (ps : List Part) (ns : List Nat) : Part := ⟨ns, (fills S ns).map fun g => gt w (bkt w S ps ns g (allF S))⟩
def kpt (w : Wd) (S : List Nat) (ps : List Part) (ns : List Nat) (bs : List Addr) (fs : List (List Nat)) : List (Addr × List D) := (bs.zip (fills S ns)).map fun q => (q.1, iD (bkt w S ps ns q.2 fs))
theorem kpt_nil {w : Wd} {S : List Nat} {ps : List Part} {ns : List Nat} {bs : List Addr} (h : bs.length = (fills S ns).length) : emp bs = kpt w S ps ns bs [] := by
  unfold emp kpt
  have : (bs.zip (fills S ns)).map (fun q => (q.1, iD (bkt w S ps ns q.2 []))) = ((bs.zip (fills S ns)).map Prod.fst).map fun b => (b, ([] : List D)) := by
    rw [List.map_map]
    rfl
  rw [this, List.map_fst_zip (by omega)]
theorem kpt_step {w : Wd} {S : List Nat} {ps : List Part} {ns : List Nat} {bs : List Addr} {fs : List (List Nat)} {f : List Nat} (h : bs.length = (fills S ns).length) (hg : Good S ns (at' ns f)) :
    ∃ b, (kpt w S ps ns bs fs)[pl S 0 ns (at' ns f)]? = some (b, iD (bkt w S ps ns (at' ns f) fs)) ∧ (kpt w S ps ns bs fs).set (pl S 0 ns (at' ns f)) (b, iD (bkt w S ps ns (at' ns f) fs) ++ [.int (fw w S ps f)]) = kpt w S ps ns bs (fs ++ [f]) := by
  have hj := fills_get hg
  obtain ⟨hjl, ej⟩ := List.getElem?_eq_some_iff.1 hj
  have hb : bs[pl S 0 ns (at' ns f)]? = some bs[pl S 0 ns (at' ns f)] := List.getElem?_eq_getElem (by omega)
  have hz : (bs.zip (fills S ns))[pl S 0 ns (at' ns f)]? = some (bs[pl S 0 ns (at' ns f)], at' ns f) := List.getElem?_zip_eq_some.2 ⟨hb, hj⟩
  refine ⟨bs[pl S 0 ns (at' ns f)], by unfold kpt; rw [List.getElem?_map, hz]; rfl, ?_⟩
  refine List.ext_getElem? fun j => ?_
  rw [List.getElem?_set]
  have new : ∀ g, bkt w S ps ns g (fs ++ [f]) = if at' ns f = g then bkt w S ps ns g fs ++ [fw w S ps f] else bkt w S ps ns g fs := fun g => by
    unfold bkt
    rw [List.filter_append, List.map_append]
    by_cases e : at' ns f = g
    · rw [if_pos e]; simp [e]
    · rw [if_neg e]; simp [e]
  by_cases e : pl S 0 ns (at' ns f) = j
  · subst e
    have hlen : pl S 0 ns (at' ns f) < (kpt w S ps ns bs fs).length := by unfold kpt; rw [List.length_map, List.length_zip]; omega
    rw [if_pos rfl, if_pos hlen]
    unfold kpt
    rw [List.getElem?_map, hz]
    show some _ = some (bs[pl S 0 ns (at' ns f)], iD (bkt w S ps ns (at' ns f) (fs ++ [f])))
    rw [new, if_pos rfl, iD_app]
    rfl
  · rw [if_neg e]
    unfold kpt
    rw [List.getElem?_map, List.getElem?_map]
    cases hq : (bs.zip (fills S ns))[j]? with
    | none => rfl
    | some q =>
      have hq2 := (List.getElem?_zip_eq_some.1 hq).2
      have ne : at' ns f ≠ q.2 := fun z => e (by rw [z]; exact fills_at hq2)
      show some (q.1, iD (bkt w S ps ns q.2 fs)) = some (q.1, iD (bkt w S ps ns q.2 (fs ++ [f])))
      rw [new, if_neg ne]
theorem at_good {S ns f : List Nat} (hf : FitF S f) (hl : ∀ n ∈ ns, n < S.length) : Good S ns (at' ns f) := good_map fun n hn => hf.2 n (hl n hn)
theorem bkt_ne {w : Wd} {S : List Nat} {ps : List Part} {ns g : List Nat} (hS : SzOk S) (hr : Rising ns) (hl : ∀ n ∈ ns, n < S.length) (hg : Good S ns g) : bkt w S ps ns g (allF S) ≠ [] := by
  have hfit : Good S (List.range S.length) ((List.range S.length).map fun m => if m ∈ ns then ats ns g m else 0) := good_map (g := fun m => if m ∈ ns then ats ns g m else 0) fun m hm => by
    show (if m ∈ ns then ats ns g m else 0) < sz S m
    split
    · rename_i h; exact ats_lt hg h
    · exact hS.pos _ (sz_mem (List.mem_range.1 hm))
  have hm : ((List.range S.length).map fun m => if m ∈ ns then ats ns g m else 0) ∈ allF S := mem_fills.2 hfit
  have hat : at' ns ((List.range S.length).map fun m => if m ∈ ns then ats ns g m else 0) = g := by
    refine List.ext_getElem? fun j => ?_
    unfold at'
    rw [List.getElem?_map]
    cases hj : ns[j]? with
    | none =>
      have : ns.length ≤ j := List.getElem?_eq_none_iff.1 hj
      rw [List.getElem?_eq_none (by rw [hg.len]; exact this)]
      rfl
    | some n =>
      have hn : n ∈ ns := List.mem_of_getElem? hj
      obtain ⟨hjl, ej⟩ := List.getElem?_eq_some_iff.1 hj
      have e1 : ((List.range S.length).map fun m => if m ∈ ns then ats ns g m else 0).getD n 0 = ats ns g n := by
        rw [List.getD_eq_getElem?_getD, List.getElem?_map, List.getElem?_range (hl n hn)]
        simp [hn]
      show some (((List.range S.length).map fun m => if m ∈ ns then ats ns g m else 0).getD n 0) = _
      rw [e1]
      unfold ats
      have hix : ns.idxOf n = j := by rw [← ej]; exact (List.Nodup.idxOf_getElem hr.nd j hjl)
      rw [hix, List.getD_eq_getElem?_getD, List.getElem?_eq_getElem (by rw [hg.len]; exact hjl)]
      rfl
  intro e
  have : fw w S ps ((List.range S.length).map fun m => if m ∈ ns then ats ns g m else 0) ∈ bkt w S ps ns g (allF S) := List.mem_map.2 ⟨_, List.mem_filter.2 ⟨hm, by rw [hat]; simp⟩, rfl⟩
  rw [e] at this
  simp at this
def sp_rest : DSpec := fun args Q X => ∃ (w : Wd) (S : List Nat) (ps : List Part) (d : D) (k : Nat), args = [dW w, .ext (dSh S ps), .ext d] ∧ ShOk S ps ∧ D.pl k d = true ∧
  ((¬ NamesD (S.length : Nat) d ∧ ∀ fin, X "NoName" fin) ∨ ∃ ns : List Nat, d = .tup (nD ns) ∧ Rising ns ∧ (∀ n ∈ ns, n < S.length) ∧ ∀ fin, Q (.ext (dP (restP w S ps ns))) fin)
def e1_rest : DT :=
    (dOp fIx (dVar 6) (dVar 8))
def b2_rest : DTS :=
    (sSeq (sSetE 7 (dCall sp_place_of (dCons (dVar 3) (dCons (dVar 2) (dCons (dLc (dSeq (dVar 2)) (gSet 8) dYes e1_rest [8]) dNil)))))
    (sDrop (dNApp 4 (dVar 7) (dCall sp_joined_at (dCons (dVar 0) (dCons (dVar 1) (dCons (dVar 6) dNil)))))))
def e3_rest : DT :=
    (dCall sp_gather (dCons (dVar 0) (dCons (dVar 9) dNil)))
def k4_rest : DTS :=
    (sSeal 4 (sRet (dTup (dCons (dVar 2) (dCons (dCB fTuple (dCons (dLc (dSeq (dVar 4)) (gSet 9) dYes e3_rest [9]) dNil)) dNil)))))
def t_rest : DTS :=
    (sSeq (sSetE 3 (dOp fIx (dVar 1) (dC (.int 0))))
    (sSeq (sDrop (dCall sp_need_names (dCons (dCB fLen (dCons (dVar 3) dNil)) (dCons (dVar 2) dNil))))
    (sSeq (sSet 4 (dNest (dSeq (dCall sp_fillings_of (dCons (dVar 3) (dCons (dVar 2) dNil)))) 5))
    (sSeq (sFor (dSeq (dCall sp_all_fillings (dCons (dVar 1) dNil))) (gSet 6) b2_rest)
    k4_rest))))
theorem m_rest : Meets t_rest 3 7 sp_rest := by
  rintro args Qd Xd ⟨w, S, ps, d, k, rfl, hs, hp, h⟩
  show t_rest _ _ [_, _, _, .un, .un, .un, .un, .un, .un, .un]
  unfold t_rest
  and_intros
  rw [nD_len]
  have h24 := hs.sz.few
  rcases h with ⟨hno, hX⟩ | ⟨ns, rfl, hr, hl, hQ⟩
  · exact ⟨_, d, k, rfl, hp, fun z => absurd z hno, fun _ fin => hX _⟩
  refine ⟨_, _, k, rfl, hp, fun _ fin => ?_, fun z => absurd ⟨ns, rfl, hr, fun n hn => by have := hl n hn; omega⟩ z⟩
  trivial
  have hboth : ∀ n ∈ ns, n < S.length ∧ 0 < sz S n := fun n hn => ⟨hl n hn, hs.sz.pos _ (sz_mem (hl n hn))⟩
  have hz : psz S ns ≤ 4096 := Nat.le_trans (psz_le hs.sz.pos hr hl) hs.sz.prod
  have hns := rising_len hr hl
  refine ⟨S, ns, fArgs_tt, hboth, hz, by omega, fun fin => ?_⟩
  trivial
  refine ⟨Nat.le_trans (by rw [show (fD (fills S ns)).length = (fills S ns).length from List.length_map _, len_fills]; omega : _ ≤ 5000) (by decide), fun a bs hbs => ?_⟩
  replace hbs : bs.length = (fills S ns).length := hbs.trans (List.length_map _)
  trivial
  refine ⟨S, ps, rfl, hs, fun fin => ?_⟩
  trivial
  have hal := allF_len hs.sz
  refine for_ind (fun f : List Nat => D.tup (nD f)) (fun fs env => ∃ (pre : List (List Nat)) (u6 u7 : Sl), env = [dW w, .ext (dSh S ps), .ext (.tup (nD ns)), .ext (.tup (nD S)), nestS a (kpt w S ps ns bs pre), .un, u6, u7, .un, .un] ∧ allF S = pre ++ fs) ?_ ?_ (allF S) _ ⟨[], _, _, by rw [← kpt_nil hbs], rfl⟩
  rotate_left
  · rintro f fs env N ⟨pre, u6, u7, rfl, he⟩ hN
    have hf : FitF S f := allF_fit (by rw [he]; simp)
    have hgd := at_good hf hl
    obtain ⟨b, hb1, hb2⟩ := kpt_step (w := w) (ps := ps) (fs := pre) hbs hgd
    refine ⟨True.intro, ?_⟩
    unfold b2_rest
    and_intros
    rw [show nD ns = ns.map (fun n : Nat => D.int (n : Nat)) from rfl]
    refine lc_map (fun n : Nat => D.int (n : Nat)) (fun n => .int (f.getD n 0 : Nat)) True.intro ns (Nat.le_trans (by omega : _ ≤ 100) (by decide)) (fun n hn R hR => ?_) fun b8 => ?_
    · unfold e1_rest
      trivial
      refine ⟨_, atN (getD_at (by rw [hf.1]; exact hl n hn)), ?_⟩
      trivial
      exact hR
    trivial
    refine ⟨S, ns, at' ns f, _, rfl, .inl (by unfold at'; rw [nD, List.map_map]; rfl), hboth, hgd, hz, fun fin => ?_⟩
    trivial
    refine ⟨⟨a, _, rfl⟩, a, _, b, _, rfl, atN hb1, ?_⟩
    trivial
    refine ⟨w, S, ps, f, rfl, hs, hf, fun fin => ?_⟩
    trivial
    have hbl : (bkt w S ps ns (at' ns f) pre).length ≤ 4096 := by
      unfold bkt
      rw [List.length_map]
      have h1 := List.length_filter_le (fun g => at' ns g == at' ns f) pre
      have h2 := congrArg List.length he
      rw [List.length_append, List.length_cons] at h2
      omega
    refine ⟨a, _, _, _, rfl, hb1, by rw [iD_len]; exact Nat.lt_of_le_of_lt hbl (by decide), ?_⟩
    trivial
    rw [show (D.int (jAll w S ps fun n => f.getD n 0)) = D.int (fw w S ps f) from rfl, hb2]
    exact hN _ ⟨pre ++ [f], _, _, rfl, by rw [he]; simp⟩
  rintro env ⟨pre, u6, u7, rfl, he⟩
  refine ⟨True.intro, ?_⟩
  rw [List.append_nil] at he
  subst he
  unfold k4_rest
  and_intros
  refine ⟨a, _, rfl, ?_⟩
  trivial
  rw [show (kpt w S ps ns bs (allF S)).map (fun p => D.lst p.2) = ((bs.zip (fills S ns)).map Prod.snd).map fun g => D.lst (iD (bkt w S ps ns g (allF S))) by unfold kpt; rw [List.map_map, List.map_map]; rfl, List.map_snd_zip (by omega)]
  have hfl : (fills S ns).length ≤ 4096 := by rw [len_fills]; exact hz
  refine lc_map (fun g : List Nat => D.lst (iD (bkt w S ps ns g (allF S)))) (fun g => .int (gt w (bkt w S ps ns g (allF S)))) True.intro (fills S ns) (Nat.le_trans hfl (by decide)) (fun g hg R hR => ?_) fun b => ?_
  · unfold e3_rest
    trivial
    refine ⟨w, _, rfl, bkt_ne hs.sz hr hl (mem_fills.1 hg), fun fin => ?_⟩
    trivial
    exact hR
  trivial
  refine ⟨by decide, ?_⟩
  have := hQ [dW w, .ext (dSh S ps), .ext (.tup (nD ns))]
  unfold restP dP iD at this
  rw [List.map_map] at this
  exact this
end LS
namespace LS
open PySem L2 HD PM
namespace K22
theorem max_ex : ∀ {l : List Int}, l ≠ [] → ∃ m ∈ l, ∀ y ∈ l, y ≤ m
  | [], h => absurd rfl h
  | x :: l, _ => by
    by_cases e : l = []
    · subst e
      exact ⟨x, List.mem_cons_self, fun y hy => by rw [List.mem_singleton.1 hy]; exact Int.le_refl _⟩
    · obtain ⟨m, hm, h⟩ := max_ex e
      by_cases hx : x ≤ m
      · exact ⟨m, List.mem_cons_of_mem _ hm, fun y hy => by
          rcases List.mem_cons.1 hy with rfl | hy
          · exact hx
          · exact h y hy⟩
      · exact ⟨x, List.mem_cons_self, fun y hy => by
          rcases List.mem_cons.1 hy with rfl | hy
          · exact Int.le_refl _
          · have := h y hy
            omega⟩
theorem min_ex {l : List Int} (hl : l ≠ []) : ∃ m ∈ l, ∀ y ∈ l, m ≤ y := by
  obtain ⟨m, hm, h⟩ := max_ex (l := l.map fun x => 0 - x) (by simpa using hl)
  obtain ⟨x, hx, rfl⟩ := List.mem_map.1 hm
  exact ⟨x, hx, fun y hy => by
    have := h (0 - y) (List.mem_map.2 ⟨y, hy, rfl⟩)
    omega⟩
theorem gt_mx {w : Wd} (hw : w ≠ .sum) (hw2 : w ≠ .least) {l : List Int} (hl : l ≠ []) : gt w l ∈ l ∧ ∀ y ∈ l, y ≤ gt w l := by
  obtain ⟨m, h1, h2⟩ := max_ex hl
  rw [gt_max hw hw2 hl h1 h2]
  exact ⟨h1, h2⟩
theorem gt_mn {l : List Int} (hl : l ≠ []) : gt .least l ∈ l ∧ ∀ y ∈ l, gt .least l ≤ y := by
  obtain ⟨m, h1, h2⟩ := min_ex hl
  rw [gt_least hl h1 h2]
  exact ⟨h1, h2⟩
def mapP (h : Int → Int) (p : Part) : Part := ⟨p.ns, p.ws.map h⟩
def mapS (h : Int → Int) (ps : List Part) : List Part := ps.map (mapP h)
theorem mapP_ok {S : List Nat} {p : Part} (h : Int → Int) (hp : p.Ok S) : (mapP h p).Ok S := ⟨hp.rise, hp.lt, (List.length_map ..).trans hp.len⟩
theorem val_map {S : List Nat} {p : Part} (h : Int → Int) (hp : p.Ok S) {g : Nat → Nat} (hg : Fit S p.ns g) : val S (mapP h p) g = h (val S p g) := by
  have e1 := val_at hp hg
  have e2 := val_at (mapP_ok h hp) (g := g) hg
  have e3 : (mapP h p).ws[pl S 0 (mapP h p).ns ((mapP h p).ns.map g)]? = some (h (val S p g)) := by
    show (p.ws.map h)[pl S 0 p.ns (p.ns.map g)]? = _
    rw [List.getElem?_map, e1]
    rfl
  rw [e2] at e3
  exact Option.some.inj e3
def FitP (S : List Nat) (ps : List Part) (g : Nat → Nat) : Prop := ∀ p ∈ ps, p.Ok S ∧ Fit S p.ns g
theorem fitP {S f : List Nat} {ps : List Part} (hok : ∀ p ∈ ps, p.Ok S) (hf : f ∈ allF S) : FitP S ps fun n => f.getD n 0 := fun p hp => ⟨hok p hp, (allF_fit hf).fit (hok p hp)⟩
theorem fold_neg {S : List Nat} {g : Nat → Nat} : ∀ {ps : List Part} {a : Int}, FitP S ps g → (mapS (fun x => 0 - x) ps).foldl (fun acc p => jn .least acc (val S p g)) (0 - a) = 0 - ps.foldl (fun acc p => jn .most acc (val S p g)) a
  | [], a, _ => rfl
  | p :: ps, a, h => by
    have hp := h p List.mem_cons_self
    show (mapS _ ps).foldl _ (jn .least (0 - a) (val S (mapP _ p) g)) = 0 - ps.foldl _ (jn .most a (val S p g))
    rw [val_map _ hp.1 hp.2, ← fold_neg fun q hq => h q (List.mem_cons_of_mem _ hq)]
    congr 1
    show (0 - a) + (0 - val S p g) = 0 - (a + val S p g)
    omega
theorem jAll_neg {S : List Nat} {ps : List Part} {g : Nat → Nat} (h : FitP S ps g) : jAll .least S (mapS (fun x => 0 - x) ps) g = 0 - jAll .most S ps g := fold_neg (a := 0) h
theorem map_neg {S : List Nat} {ps : List Part} (hok : ∀ p ∈ ps, p.Ok S) : (allF S).map (fw .least S (mapS (fun x => 0 - x) ps)) = ((allF S).map (fw .most S ps)).map fun x => 0 - x := by
  rw [List.map_map]
  exact List.map_congr_left fun f hf => jAll_neg (fitP hok hf)
theorem gt_neg {l : List Int} (hl : l ≠ []) : gt .least (l.map fun x => 0 - x) = 0 - gt .most l := by
  obtain ⟨h1, h2⟩ := gt_mx (w := .most) (by decide) (by decide) hl
  refine gt_least (by simpa using hl) (List.mem_map.2 ⟨_, h1, rfl⟩) fun y hy => ?_
  obtain ⟨x, hx, rfl⟩ := List.mem_map.1 hy
  have := h2 x hx
  omega
theorem whole_neg {S : List Nat} {ps : List Part} (hS : SzOk S) (hok : ∀ p ∈ ps, p.Ok S) : gt .least ((allF S).map (fw .least S (mapS (fun x => 0 - x) ps))) = 0 - gt .most ((allF S).map (fw .most S ps)) := by
  rw [map_neg hok]
  exact gt_neg (by simpa using allF_ne hS)
def barF (b : Int) (x : Int) : Int := if b ≤ x then 1 else 0
theorem fold_bar {S : List Nat} {g : Nat → Nat} {b : Int} : ∀ {ps : List Part} {a : Int}, FitP S ps g → ((mapS (barF b) ps).foldl (fun acc p => jn .any acc (val S p g)) (barF b a) = barF b (ps.foldl (fun acc p => jn .wide acc (val S p g)) a))
  | [], a, _ => rfl
  | p :: ps, a, h => by
    have hp := h p List.mem_cons_self
    show (mapS _ ps).foldl _ (jn .any (barF b a) (val S (mapP _ p) g)) = barF b (ps.foldl _ (jn .wide a (val S p g)))
    rw [val_map _ hp.1 hp.2, ← fold_bar fun q hq => h q (List.mem_cons_of_mem _ hq)]
    congr 1
    show (if barF b (val S p g) < barF b a then barF b (val S p g) else barF b a) = barF b (if val S p g < a then val S p g else a)
    unfold barF
    repeat' split
    all_goals omega
theorem jAll_bar {S : List Nat} {ps : List Part} {g : Nat → Nat} {b : Int} (hb : b ≤ 10 ^ 30) (h : FitP S ps g) : jAll .any S (mapS (barF b) ps) g = barF b (jAll .wide S ps g) := by
  have := fold_bar (b := b) (a := 10 ^ 30) h
  unfold barF at this
  rw [if_pos hb] at this
  exact this
theorem gt_bar {l : List Int} {b : Int} (hl : l ≠ []) : gt .any (l.map (barF b)) = barF b (gt .wide l) := by
  obtain ⟨h1, h2⟩ := gt_mx (w := .wide) (by decide) (by decide) hl
  refine gt_max (by decide) (by decide) (by simpa using hl) (List.mem_map.2 ⟨_, h1, rfl⟩) fun y hy => ?_
  obtain ⟨x, hx, rfl⟩ := List.mem_map.1 hy
  have := h2 x hx
  unfold barF
  repeat' split
  all_goals omega
theorem whole_bar {S : List Nat} {ps : List Part} {b : Int} (hb : b ≤ 10 ^ 30) (hS : SzOk S) (hok : ∀ p ∈ ps, p.Ok S) : gt .any ((allF S).map (fw .any S (mapS (barF b) ps))) = barF b (gt .wide ((allF S).map (fw .wide S ps))) := by
  rw [← gt_bar (by simpa using allF_ne hS), List.map_map]
  congr 1
  exact List.map_congr_left fun f hf => jAll_bar hb (fitP hok hf)
theorem whole_wide0 {S : List Nat} (hS : SzOk S) : gt .wide ((allF S).map (fw .wide S [])) = 10 ^ 30 := by
  have hl : (allF S).map (fw .wide S []) ≠ [] := by simpa using allF_ne hS
  obtain ⟨h1, _⟩ := gt_mx (w := .wide) (by decide) (by decide) hl
  obtain ⟨f, _, e⟩ := List.mem_map.1 h1
  rw [← e]
  rfl
def exch (ps : List Part) (at' : Nat) (q : Part) : List Part := ps.take at' ++ q :: ps.drop (at' + 1)
theorem fold_add {S : List Nat} {g : Nat → Nat} {w : Wd} (hw : w = .most ∨ w = .least) (c : Int) : ∀ {ps : List Part} {a : Int}, ps.foldl (fun acc p => jn w acc (val S p g)) (a + c) = ps.foldl (fun acc p => jn w acc (val S p g)) a + c
  | [], a => rfl
  | p :: ps, a => by
    show ps.foldl _ (jn w (a + c) (val S p g)) = ps.foldl _ (jn w a (val S p g)) + c
    rw [← fold_add hw c]
    congr 1
    rcases hw with rfl | rfl <;> (show (a + c) + _ = (a + _) + c; omega)
theorem fold_mul {S : List Nat} {g : Nat → Nat} (c : Int) : ∀ {ps : List Part} {a : Int}, ps.foldl (fun acc p => jn .sum acc (val S p g)) (a * c) = ps.foldl (fun acc p => jn .sum acc (val S p g)) a * c
  | [], a => rfl
  | p :: ps, a => by
    show ps.foldl _ (a * c * val S p g) = ps.foldl _ (a * val S p g) * c
    rw [← fold_mul c]
    congr 1
    rw [Int.mul_assoc, Int.mul_comm c, ← Int.mul_assoc]
theorem split_at' {ps : List Part} {i : Nat} (hi : i < ps.length) : ps = exch ps i ps[i] := by
  unfold exch
  rw [← List.drop_eq_getElem_cons hi, List.take_append_drop]
theorem jAll_exch {S : List Nat} {ps : List Part} {i : Nat} {q : Part} {g : Nat → Nat} (w : Wd) : jAll w S (exch ps i q) g = (ps.drop (i + 1)).foldl (fun acc p => jn w acc (val S p g)) (jn w (jAll w S (ps.take i) g) (val S q g)) := by
  unfold jAll exch
  rw [List.foldl_append]
  rfl
theorem jAll_more {S : List Nat} {ps : List Part} {i : Nat} (hi : i < ps.length) {c : Int} {g : Nat → Nat} {w : Wd} (hw : w = .most ∨ w = .least) (h : FitP S ps g) : jAll w S (exch ps i (mapP (fun x => x + c) ps[i])) g = jAll w S ps g + c := by
  have hp := h _ (List.getElem_mem hi)
  rw [jAll_exch, val_map _ hp.1 hp.2]
  conv => rhs; rw [split_at' hi, jAll_exch]
  rw [← fold_add hw c]
  congr 1
  rcases hw with rfl | rfl <;> (show _ + (_ + c) = (_ + _) + c; omega)
theorem jAll_many {S : List Nat} {ps : List Part} {i : Nat} (hi : i < ps.length) {c : Int} {g : Nat → Nat} (h : FitP S ps g) : jAll .sum S (exch ps i (mapP (fun x => x * c) ps[i])) g = jAll .sum S ps g * c := by
  have hp := h _ (List.getElem_mem hi)
  rw [jAll_exch, val_map _ hp.1 hp.2]
  conv => rhs; rw [split_at' hi, jAll_exch]
  rw [← fold_mul c]
  congr 1
  show _ * (_ * c) = _ * _ * c
  rw [Int.mul_assoc]
theorem gt_addc {w : Wd} (hw : w = .most ∨ w = .least) {l : List Int} (hl : l ≠ []) (c : Int) : gt w (l.map fun x => x + c) = gt w l + c := by
  have hl' : (l.map fun x => x + c) ≠ [] := by simpa using hl
  rcases hw with rfl | rfl
  · obtain ⟨h1, h2⟩ := gt_mx (w := .most) (by decide) (by decide) hl
    refine gt_max (by decide) (by decide) hl' (List.mem_map.2 ⟨_, h1, rfl⟩) fun y hy => ?_
    obtain ⟨x, hx, rfl⟩ := List.mem_map.1 hy
    have := h2 x hx
    omega
  · obtain ⟨h1, h2⟩ := gt_mn hl
    refine gt_least hl' (List.mem_map.2 ⟨_, h1, rfl⟩) fun y hy => ?_
    obtain ⟨x, hx, rfl⟩ := List.mem_map.1 hy
    have := h2 x hx
    omega
theorem sum_mulc (c : Int) : ∀ l : List Int, (l.map fun x => x * c).sum = l.sum * c
  | [] => by simp
  | x :: l => by
    rw [List.map_cons, List.sum_cons, List.sum_cons, sum_mulc c l, Int.add_mul]
theorem whole_more {S : List Nat} {ps : List Part} {i : Nat} (hi : i < ps.length) {c : Int} {w : Wd} (hw : w = .most ∨ w = .least) (hS : SzOk S) (hok : ∀ p ∈ ps, p.Ok S) : gt w ((allF S).map (fw w S (exch ps i (mapP (fun x => x + c) ps[i])))) = gt w ((allF S).map (fw w S ps)) + c := by
  rw [← gt_addc hw (by simpa using allF_ne hS), List.map_map]
  congr 1
  exact List.map_congr_left fun f hf => jAll_more hi hw (fitP hok hf)
theorem whole_many {S : List Nat} {ps : List Part} {i : Nat} (hi : i < ps.length) {c : Int} (hok : ∀ p ∈ ps, p.Ok S) : gt .sum ((allF S).map (fw .sum S (exch ps i (mapP (fun x => x * c) ps[i])))) = gt .sum ((allF S).map (fw .sum S ps)) * c := by
  rw [gt_sum, gt_sum, ← sum_mulc, List.map_map]
  congr 1
  exact List.map_congr_left fun f hf => jAll_many hi (fitP hok hf)
abbrev Bin (x : Int) : Prop := x = 0 ∨ x = 1
theorem val_bin {S : List Nat} {p : Part} {g : Nat → Nat} (hp : p.Ok S) (hg : Fit S p.ns g) (h : ∀ x ∈ p.ws, Bin x) : Bin (val S p g) := h _ (val_mem hp hg)
theorem fold_bin {S : List Nat} {g : Nat → Nat} : ∀ {ps : List Part} {a : Int}, FitP S ps g → (∀ p ∈ ps, ∀ x ∈ p.ws, Bin x) → Bin a →
    Bin (ps.foldl (fun acc p => jn .any acc (val S p g)) a) ∧ ps.foldl (fun acc p => jn .sum acc (val S p g)) a = ps.foldl (fun acc p => jn .any acc (val S p g)) a ∧ ps.foldl (fun acc p => jn .wide acc (val S p g)) a = ps.foldl (fun acc p => jn .any acc (val S p g)) a
  | [], a, _, _, ha => ⟨ha, rfl, rfl⟩
  | p :: ps, a, h, hb, ha => by
    have hp := h p List.mem_cons_self
    have hv := val_bin hp.1 hp.2 (hb p List.mem_cons_self)
    have e : jn .sum a (val S p g) = jn .any a (val S p g) ∧ Bin (jn .any a (val S p g)) := by
      show a * val S p g = (if val S p g < a then val S p g else a) ∧ Bin (if val S p g < a then val S p g else a)
      rcases ha with rfl | rfl <;> rcases hv with hv | hv <;> rw [hv] <;> decide
    have ih := fold_bin (a := jn .any a (val S p g)) (fun q hq => h q (List.mem_cons_of_mem _ hq)) (fun q hq => hb q (List.mem_cons_of_mem _ hq)) e.2
    refine ⟨ih.1, ?_, ih.2.2⟩
    show ps.foldl _ (jn .sum a (val S p g)) = _
    rw [e.1]
    exact ih.2.1
theorem jAll_bin {S : List Nat} {ps : List Part} {g : Nat → Nat} (h : FitP S ps g) (hb : ∀ p ∈ ps, ∀ x ∈ p.ws, Bin x) : Bin (jAll .any S ps g) ∧ jAll .sum S ps g = jAll .any S ps g ∧ (ps ≠ [] → jAll .wide S ps g = jAll .any S ps g) := by
  obtain ⟨h1, h2, _⟩ := fold_bin (a := 1) h hb (.inr rfl)
  refine ⟨h1, h2, fun hne => ?_⟩
  cases ps with
  | nil => exact absurd rfl hne
  | cons p ps =>
    have hp := h p List.mem_cons_self
    have hv := val_bin hp.1 hp.2 (hb p List.mem_cons_self)
    have e : jn .wide (10 ^ 30) (val S p g) = val S p g ∧ jn .any 1 (val S p g) = val S p g := by
      show (if val S p g < 10 ^ 30 then val S p g else 10 ^ 30) = _ ∧ (if val S p g < 1 then val S p g else 1) = _
      rcases hv with hv | hv <;> rw [hv] <;> decide
    show ps.foldl _ (jn .wide (10 ^ 30) (val S p g)) = ps.foldl _ (jn .any 1 (val S p g))
    rw [e.1, e.2]
    exact (fold_bin (fun q hq => h q (List.mem_cons_of_mem _ hq)) (fun q hq => hb q (List.mem_cons_of_mem _ hq)) hv).2.2
theorem gt_bin {l : List Int} (hl : l ≠ []) (hb : ∀ x ∈ l, Bin x) : gt .any l = if 0 < gt .sum l then 1 else 0 := by
  have hs : (1 ∈ l → 0 < l.sum) ∧ 0 ≤ l.sum ∧ (0 < l.sum → 1 ∈ l) := by
    clear hl
    induction l with
    | nil => simp
    | cons x l ih =>
      obtain ⟨i1, i2, i3⟩ := ih fun y hy => hb y (List.mem_cons_of_mem _ hy)
      rw [List.sum_cons]
      rcases hb x List.mem_cons_self with rfl | rfl
      · refine ⟨fun h => ?_, by omega, fun h => List.mem_cons_of_mem _ (i3 (by omega))⟩
        rcases List.mem_cons.1 h with h | h
        · cases h
        · have := i1 h
          omega
      · exact ⟨fun _ => by omega, by omega, fun _ => List.mem_cons_self⟩
  rw [gt_sum]
  by_cases h1 : 1 ∈ l
  · rw [if_pos (hs.1 h1)]
    exact gt_max (by decide) (by decide) hl h1 fun y hy => by rcases hb y hy with rfl | rfl <;> decide
  · rw [if_neg fun z => h1 (hs.2.2 z)]
    refine gt_max (by decide) (by decide) hl ?_ fun y hy => ?_
    · cases l with
      | nil => exact absurd rfl hl
      | cons x l =>
        rcases hb x List.mem_cons_self with rfl | rfl
        · exact List.mem_cons_self
        · exact absurd List.mem_cons_self h1
    · rcases hb y hy with rfl | rfl
      · exact Int.le_refl _
      · exact absurd hy h1
theorem gt_aw {l : List Int} (hl : l ≠ []) : gt .wide l = gt .any l := by
  obtain ⟨h1, h2⟩ := gt_mx (w := .any) (by decide) (by decide) hl
  exact gt_max (by decide) (by decide) hl h1 h2
theorem bkt_sub {w : Wd} {S : List Nat} {ps : List Part} {ns g : List Nat} {x : Int} (h : x ∈ bkt w S ps ns g (allF S)) : ∃ f ∈ allF S, x = fw w S ps f := by
  obtain ⟨f, hf, e⟩ := List.mem_map.1 h
  exact ⟨f, (List.mem_filter.1 hf).1, e.symm⟩
theorem bkt_as {w w' : Wd} {S : List Nat} {ps : List Part} {ns g : List Nat} (h : ∀ f ∈ allF S, fw w S ps f = fw w' S ps f) : bkt w S ps ns g (allF S) = bkt w' S ps ns g (allF S) :=
  List.map_congr_left fun f hf => h f ((List.mem_filter.1 hf).1)
theorem rest_any {S : List Nat} {ps : List Part} {ns : List Nat} (hS : SzOk S) (hok : ∀ p ∈ ps, p.Ok S) (hb : ∀ p ∈ ps, ∀ x ∈ p.ws, Bin x) (hr : Rising ns) (hl : ∀ n ∈ ns, n < S.length) : (restP .any S ps ns).ws = (restP .sum S ps ns).ws.map fun x => if 0 < x then 1 else 0 := by
  show (fills S ns).map _ = ((fills S ns).map _).map _
  rw [List.map_map]
  refine List.map_congr_left fun g hg => ?_
  have hne := bkt_ne (w := .any) (ps := ps) hS hr hl (mem_fills.1 hg)
  have e : bkt .sum S ps ns g (allF S) = bkt .any S ps ns g (allF S) := bkt_as fun f hf => (jAll_bin (fitP hok hf) hb).2.1
  show gt .any (bkt .any S ps ns g (allF S)) = if 0 < gt .sum (bkt .sum S ps ns g (allF S)) then 1 else 0
  rw [e]
  refine gt_bin hne fun x hx => ?_
  obtain ⟨f, hf, rfl⟩ := bkt_sub hx
  exact (jAll_bin (fitP hok hf) hb).1
theorem rest_wide {S : List Nat} {ps : List Part} {ns : List Nat} (hS : SzOk S) (hok : ∀ p ∈ ps, p.Ok S) (hb : ∀ p ∈ ps, ∀ x ∈ p.ws, Bin x) (hne : ps ≠ []) (hr : Rising ns) (hl : ∀ n ∈ ns, n < S.length) : restP .wide S ps ns = restP .any S ps ns := by
  unfold restP
  congr 1
  refine List.map_congr_left fun g hg => ?_
  have hb1 := bkt_ne (w := .any) (ps := ps) hS hr hl (mem_fills.1 hg)
  rw [bkt_as (w := .wide) (w' := .any) fun f hf => (jAll_bin (fitP hok hf) hb).2.2 hne]
  exact gt_aw hb1
end K22
end LS
namespace LS
namespace K02
open PySem L2 HD PM
local macro_rules | `(tactic| trivial) => `(tactic| try simp -dsimp only [↓sSeq, ↓sIf, ↓sRet, ↓retD_ext, ↓retD_lst, ↓retD_al, ↓sSet, ↓sSetE, ↓sAsg, ↓sDrop, ↓sNext, ↓sFor, ↓sRetN, ↓sCont, ↓sBreak, ↓dTest, ↓dOp, ↓dVar_w, ↓dC, ↓dCons, ↓dNil, ↓dTup, ↓dLst, ↓frzDs, ↓frzD_ext, ↓frzD_lst, ↓frzD_al, ↓wd_ext, ↓wd_lst, ↓wd_al, ↓wds, ↓AtS_ext, ↓AtS_lst, ↓AtL, ↓fAdd, ↓fSub, ↓fMul, ↓fDiv, ↓fMod, ↓fPow, ↓fCmp, ↓fIn, ↓fEq_ii, ↓fEq_ss, ↓fEq_bb, ↓fEq_tt, ↓fEq_ll, ↓fNe_ii, ↓fNe_ss, ↓fNe_bb, ↓fNe_tt, ↓fNe_ll, ↓fIx_l, ↓fIx_t, ↓fIx_k, ↓fIx_f, ↓GetS_some, ↓NatS_some, ↓fSl, ↓fIsN, ↓fNotN, ↓D.knN, ↓dNot, ↓dAnd, ↓dOr, ↓dAndV_w, ↓dOrV_w, ↓dNotV, ↓dIf, ↓dNeg, ↓dChain_w, ↓BlS_bl, ↓dCall_w, ↓dCallJ_w, ↓anyAl, ↓frozs, ↓froz, ↓gSet, ↓gTupD, ↓gsCons, ↓gsNil, ↓dSeq, ↓seqD_tup, ↓seqD_elst, ↓seqD_lst, ↓seqD_al, ↓dRange1, ↓dRange2, ↓dZip, ↓dCB, ↓dLc, ↓dYes, ↓dNoPart, ↓dPart, ↓dSl, ↓fLen, ↓fMin, ↓fMax, ↓fSum, ↓fAll, ↓fAny, ↓fSorted, ↓fTuple, ↓fList, ↓dRg1, ↓dRg2, ↓dLstRg, ↓dTupRg, ↓dIndex, ↓fIdx, ↓dAppend_w, ↓dExtend_w, ↓extD_lst, ↓dPopAt_w, ↓popD_int, ↓dPop_w, ↓mutD_w, ↓sSetItem_w, ↓setD_int, ↓dSortSet, ↓dTable_w, ↓wipeE, finals1, finals2, finals3, finals4, finals5, finals6, fin1_ext, fin1_lst, List.getElem?_cons_zero, List.getElem?_cons_succ, List.getElem?_nil, List.set_cons_zero, List.set_cons_succ, List.cons_append, List.nil_append, List.append_nil, List.replicate_succ, List.replicate_zero, List.map_cons, List.map_nil, List.length_cons, List.length_nil, true_and, and_true, ite_true, ite_false, if_true, if_false, Bool.false_eq_true, decide_eq_true_eq, Sl.plain, D.isSq, eq_self_iff_true, forall_const, reduceIte, true_or, or_true, atI_0, atI_1, atI_2, atI_3, ixN_0, ixN_1, ixN_2, AtS_ext, AtS_lst, FzS_lst, FzS_ext, GetS_some, NatS_some, ↓fIsi1, ↓fIsi2, BoolS_some, HD.kb_non_tuple, HD.kb_non_list, HD.kb_non_bool, HD.kb_non_int, HD.kb_non_str, HD.kb_bl_tuple, HD.kb_bl_list, HD.kb_bl_bool, HD.kb_bl_int, HD.kb_bl_str, HD.kb_int_tuple, HD.kb_int_list, HD.kb_int_bool, HD.kb_int_int, HD.kb_int_str, HD.kb_str_tuple, HD.kb_str_list, HD.kb_str_bool, HD.kb_str_int, HD.kb_str_str, HD.kb_lst_tuple, HD.kb_lst_list, HD.kb_lst_bool, HD.kb_lst_int, HD.kb_lst_str, HD.kb_tup_tuple, HD.kb_tup_list, HD.kb_tup_bool, HD.kb_tup_int, HD.kb_tup_str, ↓sFz_w, ↓FzS_lst, ↓FzS_ext, ↓dSortSetL, ↓fAbs, ↓fInt, ↓fRepr, ↓fLtT, ↓sRaise, ↓sTryKeep, ↓dCallV_w, ↓dMeth, ↓fCount, ↓fSplit, dStep, fStep])
def sp_law_sheet : DSpec := fun args Q _ => ∃ (n : Nat) (a : Addr) (ds : List D) (w : Wd) (most roof parts : Nat), args = [.lst a ds, dW w, dI (most : Nat), dI (roof : Nat), dI (parts : Nat)] ∧ JarOk n ds ∧ n + 700000 < 4294967296 ∧ 0 < most ∧ most ≤ 24 ∧ 0 < roof ∧ roof ≤ 4096 ∧ parts ≤ 60 ∧
  ∀ (S : List Nat) (ps : List Part) ds' fin, SzOk S → 0 < S.length → S.length ≤ most → prodN S ≤ roof → PsOk w S ps → ps.length ≤ parts → (∀ p ∈ ps, p.ns.length ≤ 3) → JarOk (n + 700000) ds' → Q (.ext (dSh S ps)) (.lst a ds' :: fin)
def e1_law_sheet : DT :=
    (dCallJ sp_law_part 0 (dCons (dVar 1) (dCons (dVar 5) (dCons (dVar 7) dNil))))
def t_law_sheet : DTS :=
    (sSeq (sSetE 5 (dCallJ sp_law_sizes 0 (dCons (dVar 2) (dCons (dVar 3) dNil))))
    (sSeq (sSetE 6 (dCallJ sp_law_dip 0 (dCons (dOp fAdd (dVar 4) (dC (.int 1))) dNil)))
    (sSeq (sSetE 7 (dOp fAdd (dC (.int 2)) (dCallJ sp_law_dip 0 (dCons (dC (.int 2)) dNil))))
    (sRet (dTup (dCons (dVar 5) (dCons (dCB fTuple (dCons (dLc (dRange1 (dCons (dVar 6) dNil)) (gSet 8) dYes e1_law_sheet [8]) dNil)) dNil)))))))
theorem m_law_sheet : Meets t_law_sheet 5 4 sp_law_sheet := by
  rintro args Qd Xd ⟨n, a, ds, w, most, roof, parts, rfl, hj, hn, hm0, hm1, hr0, hr1, hp, hQ⟩
  show t_law_sheet _ _ [_, _, _, _, _, .un, .un, .un, .un]
  unfold t_law_sheet
  trivial
  refine ⟨n, a, ds, most, roof, rfl, hj, by omega, hm0, hm1, hr0, hr1, fun S ds1 fin hS hS1 hSm hSr hj1 => ?_⟩
  trivial
  refine ⟨n + 64, a, ds1, (parts : Int) + 1, rfl, hj1, by omega, by omega, by omega, fun r ds2 fin r0 r1 hj2 => ?_⟩
  trivial
  refine ⟨n + 64 + 1, a, ds2, 2, rfl, hj2, by omega, by omega, by omega, fun q ds3 fin q0 q1 hj3 => ?_⟩
  trivial
  refine ⟨⟨by omega, by omega⟩, ?_⟩
  have er : rgD 0 r = nD (List.range r.toNat) := by rw [← rgD_nat, Int.toNat_of_nonneg r0]
  rw [er]
  obtain ⟨wide, hw⟩ : ∃ z : Nat, 2 + q = (z : Nat) := ⟨(2 + q).toNat, by omega⟩
  refine lc_ind (fun k : Nat => D.int (k : Int)) (fun xs acc env => ∃ (m : Nat) (ds : List D) (ps : List Part), env = [.lst a ds, dW w, dI (most : Nat), dI (roof : Nat), dI (parts : Nat), dSz S, dI r, dI (2 + q), .un] ∧ acc = ps.map dP ∧ JarOk m ds ∧ m + 10000 * xs.length ≤ n + 700000 ∧ ps.length + xs.length = r.toNat ∧ PsOk w S ps ∧ ∀ p ∈ ps, p.ns.length ≤ 3) ?_ ?_ (List.range r.toNat) [] _
    ⟨n + 64 + 1 + 1, ds3, [], rfl, rfl, hj3, by simp; omega, by simp, by intro p hp; simp at hp, by intro p hp; simp at hp⟩
  · rintro acc env ⟨m, ds4, ps, rfl, rfl, hj4, hm4, hl, hps, h3⟩
    simp only [List.length_nil, Nat.add_zero, Nat.mul_zero] at hm4 hl
    refine ⟨True.intro, fun b => ?_⟩
    trivial
    exact ⟨by decide, hQ S ps _ _ hS hS1 hSm hSr hps (by omega) h3 (hj4.up hm4)⟩
  · rintro k xs acc env N ⟨m, ds4, ps, rfl, rfl, hj4, hm4, hl, hps, h3⟩ hN
    rw [List.length_cons] at hm4 hl
    refine ⟨True.intro, by rw [List.length_map]; exact Nat.lt_of_le_of_lt (by omega : _ ≤ 100) (by decide), ?_⟩
    unfold e1_law_sheet
    trivial
    refine ⟨m, a, ds4, w, S, wide, by rw [hw], hj4, by omega, hS, by omega, fun p ds5 fin h1 h2 h4 hj5 => ?_⟩
    trivial
    refine hN _ _ ⟨m + 10000, ds5, ps ++ [p], rfl, by simp, hj5, by omega, by rw [List.length_append, List.length_singleton]; omega, fun q hq => ?_, fun q hq => ?_⟩
    · rcases List.mem_append.1 hq with h | h
      · exact hps q h
      · rw [List.mem_singleton.1 h]; exact ⟨h1, h2⟩
    · rcases List.mem_append.1 hq with h | h
      · exact h3 q h
      · rw [List.mem_singleton.1 h]; omega
end K02
end LS
namespace HD
open PySem PyProof.Rows L2
def fSortT : List D → (Sl → Prop) → Prop
  | [.tup ds], Q => ∃ ns : List Int, ds = ns.map D.int ∧ ∀ (ns' : List Int) (a : Addr), ns'.Perm ns → ns'.Pairwise (· ≤ ·) → Q (.lst a (ns'.map D.int))
  | _, _ => False
end HD
namespace HD
open PySem PyProof.Rows L2
open PySem.W (AlikeAll minD dataLt min_list_data readsAll_at keyToks keyToksAll)
abbrev pD (p : Int × Int) : D := .tup [.int p.1, .int p.2]
def lxP (p q : Int × Int) : Prop := p.1 < q.1 ∨ (p.1 = q.1 ∧ p.2 ≤ q.2)
def fMinP : List D → (Sl → Prop) → Prop
  | [.lst ds], Q => ∃ ps : List (Int × Int), ds = ps.map pD ∧ ps ≠ [] ∧ ∀ p ∈ ps, (∀ q ∈ ps, lxP p q) → Q (.ext (pD p))
  | _, _ => False
end HD
namespace HD
open PySem PyProof.Rows L2
section
variable {G : GG} {N : List Str} {sc : SC} {k : Nat} {b : Expr} {tb : DT} {apos cpos py : Pos} {x : Str}
def dRemove (i : Nat) (t : DT) : DT := fun Ex env Q => (∃ a ds, env[i]? = some (.lst a ds)) ∧ t Ex env fun x env1 => ∃ (a : Addr) (ns : List Int) (n : Int) (j : Nat), x = .ext (.int n) ∧ env1[i]? = some (.lst a (ns.map D.int)) ∧ ns[j]? = some n ∧ (∀ m, m < j → ns[m]? ≠ some n) ∧ Q (.ext .non) (env1.set i (.lst a ((ns.eraseIdx j).map D.int)))
end
end HD
namespace HD
open PySem PyProof.Rows L2
section
variable {K : PySem.W.Frag} {F : Hp}
abbrev dtS (a : Addr) (kvs : List (List Int × D)) : Sl := .reg (.val (.ref a)) [(a, .dt kvs)]
abbrev dtD (kvs : List (List Int × D)) : D := .dt (kvs.map (·.1)) (kvs.map (·.2))
abbrev kT (k : List Int) : D := .tup (k.map D.int)
def dtAt (env : Env') (i : Nat) (kvs : List (List Int × D)) : Prop := (∃ a, env[i]? = some (dtS a kvs)) ∨ env[i]? = some (.ext (dtD kvs))
end
section
variable {G : GG} {N : List Str} {sc : SC} {k : Nat} {a b : Expr} {ta tb : DT} {py pos spos apos cpos : Pos} {x : Str}
def dDInT (neg : Bool) (i : Nat) (t : DT) : DT := fun Ex env Q => t Ex env fun x env1 => ∃ key kvs, x = .ext (kT key) ∧ dtAt env1 i kvs ∧ Q (.ext (.bl (neg != (luK kvs key).isSome))) env1
def dDGetT (i : Nat) (t : DT) : DT := fun Ex env Q => (∃ kvs, dtAt env i kvs) ∧ t Ex env fun x env1 => ∃ key kvs d, x = .ext (kT key) ∧ dtAt env1 i kvs ∧ luK kvs key = some d ∧ Q (.ext d) env1
def sPutDT (i : Nat) (tk tv : DT) : DTS := fun Ex E env => tv Ex env fun y env0 => frzD env0 y fun d env1 => (∃ a kvs, env1[i]? = some (dtS a kvs)) ∧ tk Ex env1 fun x env2 => ∃ a kvs key, env2[i]? = some (dtS a kvs) ∧ x = .ext (kT key) ∧ kvs.length < sizeLine ∧ E.nx (env2.set i (dtS a (ptK kvs key d)))
def dDNewT : DT := fun _ env Q => ∀ a, Q (dtS a []) env
def sSealDT (i : Nat) (t : DTS) : DTS := fun Ex E env => ∃ a kvs, env[i]? = some (dtS a kvs) ∧ t Ex E (env.set i (.ext (dtD kvs)))
end
end HD
namespace HD
open PySem PyProof.Rows L2
def keyST (x : Sl) (q : List (List Int) → Prop) : Prop := match x with
  | .ext (.dt ks _) => q ks
  | _ => False
theorem keyST_dt (ks : List (List Int)) (ds : List D) (q : List (List Int) → Prop) : keyST (.ext (.dt ks ds)) q = q ks := rfl
def dKeysT (t : DT) : DTI := fun Ex env Q => t Ex env fun x env1 => keyST x fun ks => Q (ks.map kT) (fun _ => True) env1
end HD
namespace HD
open PySem PyProof.Rows L2
open PySem.W (dataLt keyToks keyToksAll dataLe EachIs AllAlike Sortable list_sort_data KdlSrc kdl_extend kdl_hint_dict alike alikeAll)
def LxK (ks : List (List Int)) : Prop := ks.Pairwise fun a b => HT.lexLt b a = false
def fSortK : List D → (Sl → Prop) → Prop
  | [.dt ks _], Q => (ks.length ≤ 1 ∨ ∀ k ∈ ks, k ≠ []) ∧ ∀ (ks' : List (List Int)) (a : Addr), ks'.Perm ks → LxK ks' → Q (.lst a (ks'.map kT))
  | _, _ => False
theorem seq_putDT (i : Nat) (tk tv : DT) (u : DTS) (Ex : DX) (E : DEnds) (env : Env') : sSeq (sPutDT i tk tv) u Ex E env = sPutDT i tk tv Ex { E with nx := fun env1 => u Ex E env1 } env := rfl
theorem seq_sealDT (i : Nat) (t u : DTS) (Ex : DX) (E : DEnds) (env : Env') : sSeq (sSealDT i t) u Ex E env = sSealDT i t Ex { E with nx := fun env1 => u Ex E env1 } env := rfl
end HD
namespace HD
open PySem PyProof.Rows L2
section
variable {G : GG} {N : List Str} {sc : SC} {k : Nat} {a : Expr} {ta : DT} {p p2 pos pos2 : Pos}
def dSortSetB (t : DT) : DT := fun Ex env Q => t Ex env fun x env1 => wd env1 x fun d => match d with
  | .lst ds => ∃ ns : List Int, ds = ns.map D.int ∧ ns.length < 3000 ∧ (∀ n ∈ ns, 0 ≤ n ∧ n < 60) ∧ ∀ (ns' : List Int) (b : Addr), ns'.Pairwise (· < ·) → (∀ n : Int, n ∈ ns' ↔ n ∈ ns) → Q (.lst b (ns'.map D.int)) env1
  | _ => False
end
end HD
namespace HD
open PySem L2
abbrev Cells := List (Addr × OC)
def putC (cs : Cells) (b : Addr) (oc : OC) : Cells := cs.map fun p => if p.1 = b then (b, oc) else p
section
variable {K : PySem.W.Frag} {e : Ent} {env env' : Env'} {T T' : Tmp} {F : Hp} {σ : L2.St} {H : Hp}
def stoS (fz : Bool) (env : Env') (x : Sl) (k : D → Cells → Env' → Prop) : Prop := match x with
  | .ext d => k d [] env
  | .lst p ds => if fz = true then k (.lst ds) [] env else k (.val (.ref p)) [(p, .lst ds)] env
  | .reg d cs => k d cs env
  | .al i a => match env[i]? with
    | some (.lst b ds) => b = a ∧ k (.lst ds) [] (env.set i (.ext (.lst ds)))
    | _ => False
  | .ar _ _ => False
  | .un => False
end
end HD
namespace HD
open PySem L2
def cellS (env : Env') (x : Sl) (k : Nat → Addr → D → Cells → OC → Prop) : Prop := match x with
  | .ar i b => match env[i]? with
    | some (.reg d cs) => match cellOf cs b with
      | some oc => k i b d cs oc
      | none => False
    | _ => False
  | _ => False
def ptrD (i : Nat) : D → Sl
  | .val (.ref q) => .ar i q
  | d => .ext d
def lstO (oc : OC) (k : List D → Prop) : Prop := match oc with
  | .lst ds => k ds
  | _ => False
def insO (oc : OC) (k : Str → Addr → List (Str × D) → Prop) : Prop := match oc with
  | .ins c dx fs => k c dx fs
  | _ => False
section
variable {K : PySem.W.Frag} {e : Ent} {env : Env'} {T : Tmp} {F : Hp} {σ : L2.St} {H : Hp}
def putFD (f : Str) (d : D) : List (Str × D) → List (Str × D)
  | [] => [(f, d)]
  | (g, x) :: r => if g = f then (g, d) :: r else (g, x) :: putFD f d r
end
section
variable {G : GG} {N : List Str} {sc : SC} {k : Nat} {a b : Expr} {ta tb tc : DT} {apos cpos p p2 pos pos2 py spos : Pos} {x : Str}
def dVarR (i : Nat) : DT := fun _ env Q => match env[i]? with
  | some (.reg d _) => ∃ q, rootOf d = some q ∧ Q (.ar i q) env
  | some (.ar j q) => Q (.ar j q) env
  | _ => False
def dPtr (i j : Nat) : DT := fun _ env Q => match env[i]? with
  | some (.ext (.val (.ref q))) => Q (.ar j q) env
  | _ => False
def dAttr (c0 f : Str) (t : DT) : DT := fun Ex env Q => t Ex env fun x env1 => cellS env1 x fun i _ _ _ oc => insO oc fun c _ fs => c = c0 ∧ ∃ d, luK fs f = some d ∧ Q (ptrD i d) env1
def sAttr (c0 f : Str) (fz : Bool) (t te : DT) : DTS := fun Ex E env => te Ex env fun y env1 => stoS fz env1 y fun d2 cs2 env2 => t Ex env2 fun x env3 => cellS env3 x fun i b r cs oc => insO oc fun c dx fs =>
  c = c0 ∧ fs.length < 1000 ∧ ((∀ a ∈ cs.map (·.1), a ∉ cs2.map (·.1)) → E.nx (env3.set i (.reg r (putC cs b (.ins c dx (putFD f d2 fs)) ++ cs2))))
def lstK (_ : Nat) (_ : Addr) (_ : D) (_ : Cells) (oc : OC) : Prop := lstO oc fun _ => True
def dAppR (fz : Bool) (t te : DT) : DT := fun Ex env Q => t Ex env fun x env1 => cellS env1 x lstK ∧ te Ex env1 fun y env2 => stoS fz env2 y fun d2 cs2 env3 => cellS env3 x fun i b r cs oc => lstO oc fun ds =>
  ds.length < sizeLine ∧ ((∀ a ∈ cs.map (·.1), a ∉ cs2.map (·.1)) → Q (.ext .non) (env3.set i (.reg r (putC cs b (.lst (ds ++ [d2])) ++ cs2))))
def dExtR (t te : DT) : DT := fun Ex env Q => t Ex env fun x env1 => cellS env1 x lstK ∧ te Ex env1 fun y env2 => wd env2 y fun d2 => match d2 with
  | .lst es => cellS env2 x fun i b r cs oc => lstO oc fun ds => ds.length + es.length ≤ sizeLine ∧ Q (.ext .non) (env2.set i (.reg r (putC cs b (.lst (ds ++ es)))))
  | _ => False
def dClrR (t : DT) : DT := fun Ex env Q => t Ex env fun x env1 => cellS env1 x fun i b r cs oc => lstO oc fun _ => Q (.ext .non) (env1.set i (.reg r (putC cs b (.lst []))))
def dPopR (t : DT) : DT := fun Ex env Q => t Ex env fun x env1 => cellS env1 x fun i b r cs oc => lstO oc fun ds => ∃ d, ds[ds.length - 1]? = some d ∧ Q (ptrD i d) (env1.set i (.reg r (putC cs b (.lst ds.dropLast))))
def dIxR (t te : DT) : DT := fun Ex env Q => t Ex env fun x env1 => te Ex env1 fun y env2 => match y with
  | .ext (.int n) => cellS env2 x fun i _ _ _ oc => lstO oc fun ds => ∃ d, atI ds n = some d ∧ Q (ptrD i d) env2
  | _ => False
end
end HD
namespace HD
open PySem L2
def dkO (oc : OC) (k : List (Key × D) → Prop) : Prop := match oc with
  | .dk kvs => k kvs
  | .lkK _ _ kvs => k kvs
  | _ => False
def dtO' (oc : OC) (k : List (List Int × D) → Prop) : Prop := match oc with
  | .dt kvs => k kvs
  | .lkT _ _ kvs => k kvs
  | _ => False
def dkW (oc : OC) (k : List (Key × D) → Prop) : Prop := match oc with
  | .dk kvs => k kvs
  | _ => False
def dtW (oc : OC) (k : List (List Int × D) → Prop) : Prop := match oc with
  | .dt kvs => k kvs
  | _ => False
section
variable {G : GG} {N : List Str} {sc : SC} {k : Nat} {a b c : Expr} {ta tb tc : DT} {apos cpos p p2 pos pos2 py spos : Pos} {x : Str}
def sSetR (fz : Bool) (t tI te : DT) : DTS := fun Ex E env => te Ex env fun y env0 => stoS fz env0 y fun d2 cs2 env1 => t Ex env1 fun x env2 => tI Ex env2 fun z env3 => match z with
  | .ext (.int n) => cellS env3 x fun i b r cs oc => lstO oc fun ds => ∃ j, ixN ds.length n = some j ∧ ((∀ a ∈ cs.map (·.1), a ∉ cs2.map (·.1)) → E.nx (env3.set i (.reg r (putC cs b (.lst (ds.set j d2)) ++ cs2))))
  | _ => False
def dDGetR (t te : DT) : DT := fun Ex env Q => t Ex env fun x env1 => te Ex env1 fun y env2 => cellS env2 x fun i _ _ _ oc => dkO oc fun kvs => ∃ key d, y = .ext (kD key) ∧ luK kvs key = some d ∧ Q (ptrD i d) env2
def dDInR (neg : Bool) (te t : DT) : DT := fun Ex env Q => te Ex env fun y env1 => t Ex env1 fun x env2 => cellS env2 x fun _ _ _ _ oc => dkO oc fun kvs => ∃ key, y = .ext (kD key) ∧ Q (.ext (.bl (neg != (luK kvs key).isSome))) env2
def sPutR (fz : Bool) (t tk tv : DT) : DTS := fun Ex E env => tv Ex env fun y env0 => stoS fz env0 y fun d2 cs2 env1 => t Ex env1 fun x env2 => tk Ex env2 fun z env3 => cellS env3 x fun i b r cs oc => dkW oc fun kvs => ∃ key, z = .ext (kD key) ∧ kvs.length < sizeLine ∧
  ((∀ a ∈ cs.map (·.1), a ∉ cs2.map (·.1)) → E.nx (env3.set i (.reg r (putC cs b (.dk (ptK kvs key d2)) ++ cs2))))
def dkK (_ : Nat) (_ : Addr) (_ : D) (_ : Cells) (oc : OC) : Prop := dkO oc fun _ => True
def dGet2R (t te tf : DT) : DT := fun Ex env Q => t Ex env fun x env1 => cellS env1 x dkK ∧ te Ex env1 fun y env2 => tf Ex env2 fun z env3 => frzD env3 z fun d3 env4 => cellS env4 x fun i _ _ _ oc => dkO oc fun kvs => ∃ key, y = .ext (kD key) ∧ Q (ptrD i ((luK kvs key).getD d3)) env4
def dPop1R (t te : DT) : DT := fun Ex env Q => t Ex env fun x env1 => cellS env1 x dkK ∧ te Ex env1 fun y env2 => cellS env2 x fun i b r cs oc => dkW oc fun kvs => ∃ key d, y = .ext (kD key) ∧ luK kvs key = some d ∧ Q (ptrD i d) (env2.set i (.reg r (putC cs b (.dk (drK kvs key)))))
def dPop2R (t te tf : DT) : DT := fun Ex env Q => t Ex env fun x env1 => cellS env1 x dkK ∧ te Ex env1 fun y env2 => tf Ex env2 fun z env3 => frzD env3 z fun d3 env4 => cellS env4 x fun i b r cs oc => dkW oc fun kvs => ∃ key, y = .ext (kD key) ∧
  Q (ptrD i ((luK kvs key).getD d3)) (env4.set i (.reg r (putC cs b (.dk (drK kvs key)))))
end
end HD
namespace HD
open PySem PySem.Spec PyProof.Rows L2
section
variable {G : GG} {N : List Str} {sc : SC} {k : Nat} {a b c : Expr} {ta tb tc : DT} {apos cpos p p2 pos pos2 py spos : Pos} {x : Str}
def dDGetTR (t te : DT) : DT := fun Ex env Q => t Ex env fun x env1 => te Ex env1 fun y env2 => cellS env2 x fun i _ _ _ oc => dtO' oc fun kvs => ∃ key d, y = .ext (kT key) ∧ luK kvs key = some d ∧ Q (ptrD i d) env2
def dDInTR (neg : Bool) (te t : DT) : DT := fun Ex env Q => te Ex env fun y env1 => t Ex env1 fun x env2 => cellS env2 x fun _ _ _ _ oc => dtO' oc fun kvs => ∃ key, y = .ext (kT key) ∧ Q (.ext (.bl (neg != (luK kvs key).isSome))) env2
def sPutTR (fz : Bool) (t tk tv : DT) : DTS := fun Ex E env => tv Ex env fun y env0 => stoS fz env0 y fun d2 cs2 env1 => t Ex env1 fun x env2 => tk Ex env2 fun z env3 => cellS env3 x fun i b r cs oc => dtW oc fun kvs => ∃ key, z = .ext (kT key) ∧ kvs.length < sizeLine ∧
  ((∀ a ∈ cs.map (·.1), a ∉ cs2.map (·.1)) → E.nx (env3.set i (.reg r (putC cs b (.dt (ptK kvs key d2)) ++ cs2))))
def dtK (_ : Nat) (_ : Addr) (_ : D) (_ : Cells) (oc : OC) : Prop := dtO' oc fun _ => True
def dPop1TR (t te : DT) : DT := fun Ex env Q => t Ex env fun x env1 => cellS env1 x dtK ∧ te Ex env1 fun y env2 => cellS env2 x fun i b r cs oc => dtW oc fun kvs => ∃ key d, y = .ext (kT key) ∧ luK kvs key = some d ∧ Q (ptrD i d) (env2.set i (.reg r (putC cs b (.dt (drK kvs key)))))
end
end HD
namespace HD
open PySem PyProof.Rows L2
inductive Bk where
  | no
  | slot (i : Nat)
  | part (i : Nat)
def lend1 (m : Nat) (env : Env') (x : Sl) (k : Sl → Bk → Env' → Prop) : Prop := match m with
  | 0 => froz env x fun d => k (.ext d) .no env
  | 1 => match x with
    | .al i a => match env[i]? with
      | some (.lst b ds) => b = a ∧ k (.lst a ds) (.slot i) (env.set i .un)
      | _ => False
    | .ar i b => match env[i]? with
      | some (.reg d cs) => rootOf d = some b ∧ k (.reg (.val (.ref b)) cs) (.slot i) (env.set i .un)
      | _ => False
    | .lst a ds => k (.lst a ds) .no env
    | .reg d cs => k (.reg d cs) .no env
    | .ext d => k (.ext d) .no env
    | .un => False
  | _ => match x with
    | .ar i b => match env[i]? with
      | some (.reg d cs) => ∃ sub rest, cs.Perm (sub ++ rest) ∧ k (.reg (.val (.ref b)) sub) (.part i) (env.set i (.reg d rest))
      | _ => False
    | _ => False
def lendM : List Nat → Env' → List Sl → (List Sl → List Bk → Env' → Prop) → Prop
  | [], env, [], k => k [] [] env
  | m :: ms, env, x :: xs, k => lend1 m env x fun s bk env1 => lendM ms env1 xs fun ss bks env2 => k (s :: ss) (bk :: bks) env2
  | _, _, _, _ => False
def give1 (b : Bk) (env : Env') (s : Sl) (k : Env' → Prop) : Prop := match b with
  | .no => k env
  | .slot i => s.plain ∧ k (env.set i s)
  | .part i => match s with
    | .reg _ sub => match env[i]? with
      | some (.reg d rest) => (∀ a ∈ rest.map (·.1), a ∉ sub.map (·.1)) → k (env.set i (.reg d (rest ++ sub)))
      | _ => False
    | _ => False
def giveM : List Bk → Env' → List Sl → (Env' → Prop) → Prop
  | [], env, _, k => k env
  | b :: bs, env, s :: ss, k => give1 b env s fun env1 => giveM bs env1 ss k
  | _ :: _, _, [], _ => False
section
variable {K : PySem.W.Frag} {e : Ent} {σ : L2.St} {H : Hp}
def callM (spec : DSpec) (ms : List Nat) (Ex : DX) (env : Env') (xs : List Sl) (Q : Sl → Env' → Prop) : Prop := lendM ms env xs fun ss bks env1 => spec ss (fun r fin => r.plain ∧ giveM bks env1 fin fun env2 => Q r env2) (fun c fin => giveM bks env1 fin fun env2 => Ex c env2)
end
def dCallM (spec : DSpec) (ms : List Nat) (ta : DTA) : DT := fun Ex env Q => ta Ex env fun xs env1 => callM spec ms Ex env1 xs Q
section
variable {G : GG} {N : List Str} {sc : SC} {k kf n : Nat} {x : Str} {spec : DSpec} {e o : Expr} {es : List Expr} {p pos apos : Pos}
def insK (c m : Str) (_ : Nat) (_ : Addr) (_ : D) (_ : Cells) (oc : OC) : Prop := insO oc fun c' _ fs => c' = c ∧ luK fs m = none
def objS (c m : Str) (env : Env') (x : Sl) : Prop := match x with
  | .reg (.val (.ref a)) cs => match cellOf cs a with
    | some (.ins c' _ fs) => c' = c ∧ luK fs m = none
    | _ => False
  | x => cellS env x (insK c m)
def dMethO (c m : Str) (spec : DSpec) (ms : List Nat) (to : DT) (ta : DTA) : DT := fun Ex env Q => to Ex env fun x env1 => objS c m env1 x ∧ ta Ex env1 fun xs env2 => callM spec ms Ex env2 (x :: xs) Q
end
end HD
namespace HD
open PySem PyProof.Rows L2
abbrev newS (c : Str) (a dx : Addr) : Sl := .reg (.val (.ref a)) [(a, .ins c dx []), (dx, .own a)]
def makeM (c : Str) (spec : DSpec) (ms : List Nat) (Ex : DX) (env : Env') (xs : List Sl) (Q : Sl → Env' → Prop) : Prop := lendM ms env xs fun ss bks env1 => ∀ a dx, a ≠ dx → spec (newS c a dx :: ss)
  (fun r fin => r = .ext .non ∧ match fin with | s0 :: fr => giveM bks env1 fr fun env2 => s0.plain ∧ Q s0 env2 | [] => False)
  (fun c fin => match fin with | _ :: fr => giveM bks env1 fr fun env2 => Ex c env2 | [] => False)
def dMake (c : Str) (spec : DSpec) (ms : List Nat) (ta : DTA) : DT := fun Ex env Q => ta Ex env fun xs env1 => makeM c spec ms Ex env1 xs Q
section
variable {G : GG} {N : List Str} {sc : SC} {k kf n : Nat} {spec : DSpec} {e o a : Expr} {es : List Expr} {p pos apos : Pos} {st : Stmt} {t : DTS} {ta : DT}
def sSetA (i : Nat) (t : DT) : DTS := fun Ex E env => t Ex env fun x env1 => match x with
  | .ar j b => E.nx (env1.set i (.ar j b))
  | .ext d => E.nx (env1.set i (.ext d))
  | _ => False
def dMoveR (i : Nat) : DT := fun _ env Q => match env[i]? with
  | some (.reg d cs) => Q (.reg d cs) (env.set i .un)
  | _ => False
end
end HD
namespace HD
open PySem PyProof.Rows L2
section
variable {G : GG} {N : List Str} {sc : SC} {k kf n : Nat} {e o a : Expr} {es : List Expr} {p pos apos : Pos} {st : Stmt} {t : DTS} {ta : DT}
def sSetG (i : Nat) (t : DT) : DTS := fun Ex E env => t Ex env fun x env1 => match x with
  | .lst a ds => E.nx (env1.set i (.reg (.val (.ref a)) [(a, .lst ds)]))
  | .reg d cs => E.nx (env1.set i (.reg d cs))
  | _ => False
def dExtTR (t te : DT) : DT := fun Ex env Q => t Ex env fun x env1 => cellS env1 x lstK ∧ te Ex env1 fun y env2 => match y with
  | .ext (.tup es) => cellS env2 x fun i b r cs oc => lstO oc fun ds => ds.length + es.length ≤ sizeLine ∧ Q (.ext .non) (env2.set i (.reg r (putC cs b (.lst (ds ++ es)))))
  | _ => False
end
theorem seq_setG (i : Nat) (t : DT) (u : DTS) (Ex : DX) (E : DEnds) (env : Env') : sSeq (sSetG i t) u Ex E env = sSetG i t Ex { E with nx := fun env1 => u Ex E env1 } env := rfl
theorem seq_setA (i : Nat) (t : DT) (u : DTS) (Ex : DX) (E : DEnds) (env : Env') : sSeq (sSetA i t) u Ex E env = sSetA i t Ex { E with nx := fun env1 => u Ex E env1 } env := rfl
theorem seq_attr (c f : Str) (fz : Bool) (t te : DT) (u : DTS) (Ex : DX) (E : DEnds) (env : Env') : sSeq (sAttr c f fz t te) u Ex E env = sAttr c f fz t te Ex { E with nx := fun env1 => u Ex E env1 } env := rfl
theorem seq_setR (fz : Bool) (t tI te : DT) (u : DTS) (Ex : DX) (E : DEnds) (env : Env') : sSeq (sSetR fz t tI te) u Ex E env = sSetR fz t tI te Ex { E with nx := fun env1 => u Ex E env1 } env := rfl
theorem seq_putR (fz : Bool) (t tI te : DT) (u : DTS) (Ex : DX) (E : DEnds) (env : Env') : sSeq (sPutR fz t tI te) u Ex E env = sPutR fz t tI te Ex { E with nx := fun env1 => u Ex E env1 } env := rfl
theorem seq_putTR (fz : Bool) (t tI te : DT) (u : DTS) (Ex : DX) (E : DEnds) (env : Env') : sSeq (sPutTR fz t tI te) u Ex E env = sPutTR fz t tI te Ex { E with nx := fun env1 => u Ex E env1 } env := rfl
end HD
namespace HD
open PySem L2
def RegS (o : Option Sl) (k : D → Cells → Prop) (_ : Tok k) : Prop := match o with
  | some (.reg d cs) => k d cs
  | _ => False
def CellS (o : Option OC) (k : OC → Prop) (_ : Tok k) : Prop := match o with
  | some oc => k oc
  | none => False
def RefS (o : Option Sl) (k1 : Addr → Prop) (k2 : Nat → Addr → Prop) (_ : Tok k1) (_ : Tok k2) : Prop := match o with
  | some (.reg d _) => ∃ q, rootOf d = some q ∧ k1 q
  | some (.ar j q) => k2 j q
  | _ => False
theorem RegS_reg (d : D) (cs : Cells) (k : D → Cells → Prop) (t : Tok k) : RegS (some (.reg d cs)) k t = k d cs := rfl
theorem CellS_some (oc : OC) (k : OC → Prop) (t : Tok k) : CellS (some oc) k t = k oc := rfl
theorem RefS_reg (a : Addr) (cs : Cells) (k1 : Addr → Prop) (k2 : Nat → Addr → Prop) (t : Tok k1) (u : Tok k2) : RefS (some (.reg (.val (.ref a)) cs)) k1 k2 t u = k1 a :=
  propext ⟨fun ⟨q, e, h⟩ => by cases e; exact h, fun h => ⟨a, rfl, h⟩⟩
theorem RefS_ar (j : Nat) (a : Addr) (k1 : Addr → Prop) (k2 : Nat → Addr → Prop) (t : Tok k1) (u : Tok k2) : RefS (some (.ar j a)) k1 k2 t u = k2 j a := rfl
theorem dVarR_w (i : Nat) (Ex : DX) (env : Env') (Q : Sl → Env' → Prop) : dVarR i Ex env Q = RefS env[i]? (fun q => Q (.ar i q) env) (fun j q => Q (.ar j q) env) .mk .mk := rfl
theorem cellS_ar (env : Env') (i : Nat) (b : Addr) (k : Nat → Addr → D → Cells → OC → Prop) : cellS env (.ar i b) k = RegS env[i]? (fun d cs => CellS (cellOf cs b) (fun oc => k i b d cs oc) .mk) .mk := by
  unfold RegS CellS cellS
  dsimp only <;> (rcases env[i]? with _ | s <;> first | rfl | (cases s <;> rfl))
theorem wd_ar (env : Env') (i : Nat) (b : Addr) (k : D → Prop) : wd env (.ar i b) k = RegS env[i]? (fun _ cs => CellS (cellOf cs b) (fun oc => lstO oc fun ds => k (.lst ds)) .mk) .mk := by
  unfold RegS CellS lstO wd
  dsimp only <;> (rcases env[i]? with _ | s <;> first | rfl | (cases s <;> first | rfl | (rename_i d cs; dsimp only <;> (rcases cellOf cs b with _ | oc <;> first | rfl | (cases oc <;> rfl)))))
theorem seqD_ar (env : Env') (i : Nat) (b : Addr) (q : List D → (Env' → Prop) → Prop) : seqD env (.ar i b) q = RegS env[i]? (fun _ cs => CellS (cellOf cs b) (fun oc => lstO oc fun ds => q ds (atC i b ds)) .mk) .mk := by
  unfold RegS CellS lstO seqD iterD
  dsimp only <;> (rcases env[i]? with _ | s <;> first | rfl | (cases s <;> first | rfl | (rename_i d cs; dsimp only <;> (rcases cellOf cs b with _ | oc <;> first | rfl | (cases oc <;> rfl)))))
theorem lstO_lst (ds : List D) (k : List D → Prop) : lstO (.lst ds) k = k ds := rfl
theorem insO_ins (c : Str) (dx : Addr) (fs : List (Str × D)) (k : Str → Addr → List (Str × D) → Prop) : insO (.ins c dx fs) k = k c dx fs := rfl
theorem dkO_dk (kvs : List (Key × D)) (k : List (Key × D) → Prop) : dkO (.dk kvs) k = k kvs := rfl
theorem dkO_lk (od : Obj) (vs : List (Key × V)) (kvs : List (Key × D)) (k : List (Key × D) → Prop) : dkO (.lkK od vs kvs) k = k kvs := rfl
theorem dtO_dt (kvs : List (List Int × D)) (k : List (List Int × D) → Prop) : dtO' (.dt kvs) k = k kvs := rfl
theorem dtO_lk (od : Obj) (kbs : List (List Int × Addr × V)) (kvs : List (List Int × D)) (k : List (List Int × D) → Prop) : dtO' (.lkT od kbs kvs) k = k kvs := rfl
theorem dkW_dk (kvs : List (Key × D)) (k : List (Key × D) → Prop) : dkW (.dk kvs) k = k kvs := rfl
theorem dtW_dt (kvs : List (List Int × D)) (k : List (List Int × D) → Prop) : dtW (.dt kvs) k = k kvs := rfl
theorem stoS_ext (fz : Bool) (env : Env') (d : D) (k : D → Cells → Env' → Prop) : stoS fz env (.ext d) k = k d [] env := rfl
theorem stoS_reg (fz : Bool) (env : Env') (d : D) (cs : Cells) (k : D → Cells → Env' → Prop) : stoS fz env (.reg d cs) k = k d cs env := rfl
theorem stoS_lstT (env : Env') (p : Addr) (ds : List D) (k : D → Cells → Env' → Prop) : stoS true env (.lst p ds) k = k (.lst ds) [] env := by
  simp [stoS]
theorem stoS_lstF (env : Env') (p : Addr) (ds : List D) (k : D → Cells → Env' → Prop) : stoS false env (.lst p ds) k = k (.val (.ref p)) [(p, .lst ds)] env := by
  simp [stoS]
theorem stoS_al (fz : Bool) (env : Env') (i : Nat) (a : Addr) (k : D → Cells → Env' → Prop) : stoS fz env (.al i a) k = AtL env[i]? fun b ds => b = a ∧ k (.lst ds) [] (env.set i (.ext (.lst ds))) := by
  simp only [AtL, ← AtL_eq] <;> rfl
theorem ptrD_ref (i : Nat) (q : Addr) : ptrD i (.val (.ref q)) = .ar i q := rfl
theorem ptrD_int (i : Nat) (n : Int) : ptrD i (.int n) = .ext (.int n) := rfl
theorem ptrD_str (i : Nat) (n : Str) : ptrD i (.str n) = .ext (.str n) := rfl
theorem ptrD_bl (i : Nat) (n : Bool) : ptrD i (.bl n) = .ext (.bl n) := rfl
theorem ptrD_non (i : Nat) : ptrD i .non = .ext .non := rfl
theorem ptrD_tup (i : Nat) (ds : List D) : ptrD i (.tup ds) = .ext (.tup ds) := rfl
theorem ptrD_tk (i : Nat) (ds : List D) : ptrD i (.tk ds) = .ext (.tk ds) := rfl
theorem ptrD_lst (i : Nat) (ds : List D) : ptrD i (.lst ds) = .ext (.lst ds) := rfl
theorem ptrD_fz (i : Nat) (ds : List D) : ptrD i (.fz ds) = .ext (.fz ds) := rfl
def setGS (i : Nat) (x : Sl) (env1 : Env') (k : Env' → Prop) : Prop := match x with
  | .lst a ds => k (env1.set i (.reg (.val (.ref a)) [(a, .lst ds)]))
  | .reg d cs => k (env1.set i (.reg d cs))
  | _ => False
theorem sSetG_w (i : Nat) (t : DT) (Ex : DX) (E : DEnds) (env : Env') : sSetG i t Ex E env = t Ex env fun x env1 => setGS i x env1 E.nx := rfl
theorem setGS_lst (i : Nat) (a : Addr) (ds : List D) (env1 : Env') (k : Env' → Prop) : setGS i (.lst a ds) env1 k = k (env1.set i (.reg (.val (.ref a)) [(a, .lst ds)])) := rfl
theorem setGS_reg (i : Nat) (d : D) (cs : Cells) (env1 : Env') (k : Env' → Prop) : setGS i (.reg d cs) env1 k = k (env1.set i (.reg d cs)) := rfl
def setAS (i : Nat) (x : Sl) (env1 : Env') (k : Env' → Prop) : Prop := match x with
  | .ar j b => k (env1.set i (.ar j b))
  | .ext d => k (env1.set i (.ext d))
  | _ => False
theorem sSetA_w (i : Nat) (t : DT) (Ex : DX) (E : DEnds) (env : Env') : sSetA i t Ex E env = t Ex env fun x env1 => setAS i x env1 E.nx := rfl
theorem setAS_ar (i j : Nat) (b : Addr) (env1 : Env') (k : Env' → Prop) : setAS i (.ar j b) env1 k = k (env1.set i (.ar j b)) := rfl
theorem setAS_ext (i : Nat) (d : D) (env1 : Env') (k : Env' → Prop) : setAS i (.ext d) env1 k = k (env1.set i (.ext d)) := rfl
def intS (y : Sl) (k : Int → Prop) : Prop := match y with
  | .ext (.int n) => k n
  | _ => False
theorem intS_int (n : Int) (k : Int → Prop) : intS (.ext (.int n)) k = k n := rfl
theorem dIxR_w (t te : DT) (Ex : DX) (env : Env') (Q : Sl → Env' → Prop) : dIxR t te Ex env Q = t Ex env fun x env1 => te Ex env1 fun y env2 => intS y fun n => cellS env2 x fun i _ _ _ oc => lstO oc fun ds => GetS (atI ds n) (fun d => Q (ptrD i d) env2) .mk := rfl
def tupS (y : Sl) (k : List D → Prop) : Prop := match y with
  | .ext (.tup es) => k es
  | _ => False
theorem tupS_tup (es : List D) (k : List D → Prop) : tupS (.ext (.tup es)) k = k es := rfl
theorem dExtTR_w (t te : DT) (Ex : DX) (env : Env') (Q : Sl → Env' → Prop) : dExtTR t te Ex env Q = t Ex env fun x env1 => cellS env1 x lstK ∧ te Ex env1 fun y env2 => tupS y fun es => cellS env2 x fun i b r cs oc => lstO oc fun ds => ds.length + es.length ≤ sizeLine ∧ Q (.ext .non) (env2.set i (.reg r (putC cs b (.lst (ds ++ es))))) := rfl
def lstS (d : D) (k : List D → Prop) : Prop := match d with
  | .lst es => k es
  | _ => False
theorem lstS_lst (es : List D) (k : List D → Prop) : lstS (.lst es) k = k es := rfl
theorem dExtR_w (t te : DT) (Ex : DX) (env : Env') (Q : Sl → Env' → Prop) : dExtR t te Ex env Q = t Ex env fun x env1 => cellS env1 x lstK ∧ te Ex env1 fun y env2 => wd env2 y fun d2 => lstS d2 fun es => cellS env2 x fun i b r cs oc => lstO oc fun ds => ds.length + es.length ≤ sizeLine ∧ Q (.ext .non) (env2.set i (.reg r (putC cs b (.lst (ds ++ es))))) := rfl
theorem dPopR_w (t : DT) (Ex : DX) (env : Env') (Q : Sl → Env' → Prop) : dPopR t Ex env Q = t Ex env fun x env1 => cellS env1 x fun i b r cs oc => lstO oc fun ds => GetS ds[ds.length - 1]? (fun d => Q (ptrD i d) (env1.set i (.reg r (putC cs b (.lst ds.dropLast))))) .mk := rfl
end HD
namespace HD
open PySem PyProof.Rows L2
open PySem.W (dataLt dataLe EachIs AllAlike Sortable list_sort_data sorted_data)
def SrtD (ds : List D) : Prop := D.noVals ds = true ∧ (∀ d ∈ ds, ∃ x r, d.py = .tuple (x :: r)) ∧ AllAlike (D.pys ds) ∧ ∀ d ∈ ds, d.py.depth ≤ 50
def fSortD : List D → (Sl → Prop) → Prop
  | [.lst ds], Q => SrtD ds ∧ ∀ (ds' : List D) (a : Addr), ds'.Perm ds → ds'.Pairwise (fun x y => dataLt y.py x.py = false) → Q (.lst a ds')
  | [.tup ds], Q => SrtD ds ∧ ∀ (ds' : List D) (a : Addr), ds'.Perm ds → ds'.Pairwise (fun x y => dataLt y.py x.py = false) → Q (.lst a ds')
  | _, _ => False
end HD
namespace HD
open PySem PyProof.Rows L2
def deepD (cs : Cells) : Nat → D → D
  | 0, d => d
  | n + 1, .val (.ref b) => match cellOf cs b with
    | some (.lst ds) => .lst (ds.map (deepD cs n))
    | _ => .val (.ref b)
  | n + 1, .lst ds => .lst (ds.map (deepD cs n))
  | n + 1, .tup ds => .tup (ds.map (deepD cs n))
  | _ + 1, d => d
def regC (env : Env') (i : Nat) (k : Cells → Prop) : Prop := match env[i]? with
  | some (.reg _ cs) => k cs
  | _ => False
def dCallD (i n : Nat) (spec : DSpec) (ta : DTA) : DT := fun Ex env Q => ta Ex env fun xs env1 => wds env1 xs fun ds => regC env1 i fun cs =>
  spec ((ds.map (deepD cs n)).map .ext) (fun r _ => r.imm = true ∧ r.plain ∧ Q r env1) (fun c _ => Ex c env1)
theorem regC_reg (env : Env') (i : Nat) (k : Cells → Prop) : regC env i k = RegS env[i]? (fun _ cs => k cs) .mk := by
  first | rfl | (unfold regC RegS <;> rfl)
theorem dMoveR_w (i : Nat) (Ex : DX) (env : Env') (Q : Sl → Env' → Prop) : dMoveR i Ex env Q = RegS env[i]? (fun d cs => Q (.reg d cs) (env.set i .un)) .mk := by
  first | rfl | (unfold dMoveR RegS <;> rfl)
theorem froz_lst (env : Env') (a : Addr) (ds : List D) (q : D → Prop) : froz env (.lst a ds) q = q (.lst ds) := rfl
theorem froz_ext (env : Env') (d : D) (q : D → Prop) : froz env (.ext d) q = q d := rfl
def dMoveL (i : Nat) : DT := fun _ env Q => AtL env[i]? fun a ds => Q (.lst a ds) (env.set i .un)
section
variable {G : GG} {N : List Str} {sc : SC} {k : Nat} {a b : Expr} {ta tb : DT} {p p2 pos pos2 apos cpos : Pos}
def dDictP (ta : DT) : DT := fun Ex env Q => ta Ex env fun x env1 => froz env1 x fun d => match d with
  | .lst xs => ∃ kvs : List (List Int × D), xs = kvs.map (fun p => D.tup [kT p.1, p.2]) ∧ (kvs.map (·.1)).Nodup ∧ ∀ a, Q (dtS a kvs) env1
  | _ => False
end
def upK (kvs more : List (List Int × D)) : List (List Int × D) := more.foldl (fun acc p => ptK acc p.1 p.2) kvs
section
variable {G : GG} {N : List Str} {sc : SC} {k : Nat} {a b : Expr} {ta tb : DT} {apos cpos : Pos}
def dUpdTR (t te : DT) : DT := fun Ex env Q => t Ex env fun x env1 => cellS env1 x dtK ∧ te Ex env1 fun y env2 => cellS env2 x fun i b r cs oc => dtW oc fun kvs => ∃ b2 more, y = dtS b2 more ∧ (kvs ≠ [] ∨ (more.map fun p => hT p.1).Nodup) ∧ kvs.length + more.length ≤ sizeLine ∧
  Q (.ext .non) (env2.set i (.reg r (putC cs b (.dt (upK kvs more)))))
end
end HD
namespace HD
open PySem PyProof.Rows L2
def mgK (kvs more : List (Key × D)) : List (Key × D) := more.foldl (fun acc p => ptK acc p.1 p.2) kvs
section
variable {G : GG} {N : List Str} {sc : SC} {k : Nat} {a b : Expr} {ta tb : DT} {apos cpos : Pos}
def dUpdKR (t te : DT) : DT := fun Ex env Q => t Ex env fun x env1 => cellS env1 x dkK ∧ te Ex env1 fun y env2 => cellS env2 x fun i b r cs oc => dkW oc fun kvs => ∃ b2 more, y = .reg (.val (.ref b2)) [(b2, .dk more)] ∧ kvs.length + more.length ≤ sizeLine ∧
  Q (.ext .non) (env2.set i (.reg r (putC cs b (.dk (mgK kvs more)))))
end
section
variable {G : GG} {N : List Str} {sc : SC} {k : Nat} {a b : Expr} {ta tb : DT} {p p2 pos pos2 : Pos}
def dDictZipK (ta tb : DT) : DT := fun Ex env Q => ta Ex env fun x env1 => tb Ex env1 fun y env2 => seqD env2 x fun xs _ => seqD env2 y fun ys _ => ∃ kvs : List (Key × D), xs = kvs.map (fun p => kD p.1) ∧ ys = kvs.map (·.2) ∧ ∀ a, Q (dkS a (mgK [] kvs)) env2
end
section
variable {G : GG} {N : List Str} {sc : SC} {k : Nat} {a : Expr} {ta : DT} {p pos : Pos}
def dDictC (ta : DT) : DT := fun Ex env Q => ta Ex env fun x env1 => cellS env1 x fun _ _ _ _ oc => dkO oc fun kvs => ∀ a, Q (dkS a kvs) env1
end
end HD
namespace HD
open PySem PyProof.Rows L2
section
variable {G : GG} {N : List Str} {sc : SC} {k : Nat} {x : Str} {py apos cpos : Pos}
def dClear (i : Nat) : DT := fun _ env Q => AtL env[i]? fun a _ => mutD env i a (fun _ q => q .non []) Q
end
end HD
namespace HD
open PySem PySem.Spec PyProof.Rows L2
section
variable {G : GG} {N : List Str} {sc : SC} {k : Nat} {a : Expr} {ta : DT} {p apos cpos pos : Pos}
def dListItems (ta : DT) : DT := fun Ex env Q => ta Ex env fun x env1 => ∃ b kvs, x = dkS b kvs ∧ ∀ a, Q (.lst a (kvs.map fun q => D.tup [kD q.1, q.2])) env1
end
end HD
namespace HD
open PySem PySem.Spec PyProof.Rows L2
section
variable {G : GG} {N : List Str} {sc : SC} {k : Nat} {a : Expr} {ta : DT} {p pos : Pos}
def dLenK (ta : DT) : DT := fun Ex env Q => ta Ex env fun x env1 => cellS env1 x fun _ _ _ _ oc => dkO oc fun kvs => Q (.ext (.int kvs.length)) env1
def dSortKI (ta : DT) : DT := fun Ex env Q => ta Ex env fun x env1 => cellS env1 x fun _ _ _ _ oc => dkO oc fun kvs => ∃ ks : List Int, kvs.map (·.1) = ks.map Sum.inl ∧ ks.length < 64 ∧ ∀ (ys : List Int) (b : Addr), ys.Perm ks → ys.Pairwise (· ≤ ·) → Q (.lst b (ys.map D.int)) env1
end
end HD
namespace HD
open PySem PySem.Spec PyProof.Rows L2
section
variable {G : GG} {N : List Str} {sc : SC} {k : Nat} {a : Expr} {ta : DT} {p pos : Pos} {y : Str} {cs : List Str}
def dInC (neg : Bool) (cs : List Str) (ta : DT) : DT := fun Ex env Q => ta Ex env fun x env1 => wd env1 x fun d => match d with
  | .str z => Q (.ext (.bl (if neg then !decide (z ∈ cs) else decide (z ∈ cs)))) env1
  | _ => False
end
end HD
namespace HD
open PySem PySem.Spec PySem.Calls PyProof.Rows L2
section
variable {prog : Program} {w : World} {A : Around} {E : Value → Shared → Prop} {s : Shared} {l : Addr} {xs : Array (Int × PySem.Tok)} {its : List Value} {ns : List Int}
theorem max_intTup {Q : Value → Shared → Prop} (hh : A.handled = none) (ht : s.heap.IsTuple l (intItems xs)) (hne : 0 < xs.size)
    (h : ∀ v h' tk, (intItems xs)[argBest (fun i j => decide (numAt xs i > numAt xs j)) (xs.size - 1)]? = some v → (∀ b o, s.heap.get? b = some o → h'.get? b = some o) → Q v { s with heap := h', toks := tk }) :
    wpAny (model prog w) A (call (.builtin "max") [.ref l]) Q E s := by
  obtain ⟨o, ho, hc, n, hd⟩ := id ht
  have hne' : l ≠ s.heap.objs.size := Nat.ne_of_lt (Heap.lt_size ho)
  refine call_max_walk (wpAny_pyIter_tuple ht ?_)
  refine ⟨_, _, _, _, _, _, _, rfl, Walks.tuple (A := A.in1) hh s.heap.objs.size l hne' (intItems xs), ⟨⟨_, Heap.get?_push_size _ rfl, rfl, rfl⟩, ht.at fun o e => Heap.get?_push_of_some _ e⟩, fun b hb => ?_, by simpa [intItems] using hne, CmpOf.ints_gt (numAt xs) (fun _ _ => intItems_at), fun v h' tk hP hk => ?_⟩
  · rcases List.mem_cons.mp hb with rfl | hb
    · exact Heap.lt_size (Heap.get?_push_size _ rfl)
    · obtain rfl := List.mem_singleton.mp hb
      exact Heap.lt_size (Heap.get?_push_of_some _ ho)
  · exact h v h' tk (by simpa [intItems] using hP) fun b o e => hk b o (fun hb => absurd (Heap.lt_size e) ((List.mem_singleton.mp hb) ▸ Nat.lt_irrefl _)) (Heap.get?_push_of_some _ e)
theorem min_intTup {Q : Value → Shared → Prop} (hh : A.handled = none) (ht : s.heap.IsTuple l (intItems xs)) (hne : 0 < xs.size)
    (h : ∀ v h' tk, (intItems xs)[argBest (fun i j => decide (numAt xs i < numAt xs j)) (xs.size - 1)]? = some v → (∀ b o, s.heap.get? b = some o → h'.get? b = some o) → Q v { s with heap := h', toks := tk }) :
    wpAny (model prog w) A (call (.builtin "min") [.ref l]) Q E s := by
  obtain ⟨o, ho, hc, n, hd⟩ := id ht
  have hne' : l ≠ s.heap.objs.size := Nat.ne_of_lt (Heap.lt_size ho)
  refine call_min_walk (wpAny_pyIter_tuple ht ?_)
  refine ⟨_, _, _, _, _, _, _, rfl, Walks.tuple (A := A.in1) hh s.heap.objs.size l hne' (intItems xs), ⟨⟨_, Heap.get?_push_size _ rfl, rfl, rfl⟩, ht.at fun o e => Heap.get?_push_of_some _ e⟩, fun b hb => ?_, by simpa [intItems] using hne, CmpOf.ints_lt (numAt xs) (fun _ _ => intItems_at), fun v h' tk hP hk => ?_⟩
  · rcases List.mem_cons.mp hb with rfl | hb
    · exact Heap.lt_size (Heap.get?_push_size _ rfl)
    · obtain rfl := List.mem_singleton.mp hb
      exact Heap.lt_size (Heap.get?_push_of_some _ ho)
  · exact h v h' tk (by simpa [intItems] using hP) fun b o e => hk b o (fun hb => absurd (Heap.lt_size e) ((List.mem_singleton.mp hb) ▸ Nat.lt_irrefl _)) (Heap.get?_push_of_some _ e)
theorem max_rawT {Q : Value → Shared → Prop} (hh : A.handled = none) (hl : s.heap.IsTuple l its.toArray) (hi : IntsAre its ns) (hne : 0 < ns.length)
    (h : ∀ h' tk M t', (∀ b o, s.heap.get? b = some o → h'.get? b = some o) → M ∈ ns → (∀ a, a ∈ ns → a ≤ M) → Q (.int M t') { s with heap := h', toks := tk }) : wpAny (model prog w) A (call (.builtin "max") [.ref l]) Q E s := by
  obtain ⟨xs, e⟩ := hi.allInts.items
  have hn : numsOf (intItems xs).toList = ns := by rw [← e]; exact hi.numsOf
  rw [nums_intItems] at hn
  subst hn
  rw [e] at hl
  have hsz : 0 < xs.size := by simpa using hne
  refine max_intTup hh hl hsz fun v h' tk hv hk => ?_
  obtain ⟨t, rfl⟩ := intItems_at hv
  obtain ⟨h1, h2⟩ := argBest_gt (numAt xs) (xs.size - 1)
  refine h h' tk _ t hk ?_ fun a ha => ?_
  · rw [numAt_eq]; exact PySem.getD_mem (by rw [List.length_map, Array.length_toList]; omega)
  · obtain ⟨j, hj, rfl⟩ := mem_getD ha
    rw [List.length_map, Array.length_toList] at hj
    rw [← numAt_eq]; exact h2 j (by omega)
theorem min_rawT {Q : Value → Shared → Prop} (hh : A.handled = none) (hl : s.heap.IsTuple l its.toArray) (hi : IntsAre its ns) (hne : 0 < ns.length)
    (h : ∀ h' tk M t', (∀ b o, s.heap.get? b = some o → h'.get? b = some o) → M ∈ ns → (∀ a, a ∈ ns → M ≤ a) → Q (.int M t') { s with heap := h', toks := tk }) : wpAny (model prog w) A (call (.builtin "min") [.ref l]) Q E s := by
  obtain ⟨xs, e⟩ := hi.allInts.items
  have hn : numsOf (intItems xs).toList = ns := by rw [← e]; exact hi.numsOf
  rw [nums_intItems] at hn
  subst hn
  rw [e] at hl
  have hsz : 0 < xs.size := by simpa using hne
  refine min_intTup hh hl hsz fun v h' tk hv hk => ?_
  obtain ⟨t, rfl⟩ := intItems_at hv
  obtain ⟨h1, h2⟩ := argBest_lt (numAt xs) (xs.size - 1)
  refine h h' tk _ t hk ?_ fun a ha => ?_
  · rw [numAt_eq]; exact PySem.getD_mem (by rw [List.length_map, Array.length_toList]; omega)
  · obtain ⟨j, hj, rfl⟩ := mem_getD ha
    rw [List.length_map, Array.length_toList] at hj
    rw [← numAt_eq]; exact h2 j (by omega)
end
def rMaxT (K : PySem.W.Frag) : List V → Hp → VK → Prop := fun vs H Q => ∃ (a : Addr) (ns : List Int), vs = [V.ref a] ∧ SqT K H a (ns.map V.int) ∧ 0 < ns.length ∧ ∀ m, m ∈ ns → (∀ y, y ∈ ns → y ≤ m) → Q (.int m) H
def rMinT (K : PySem.W.Frag) : List V → Hp → VK → Prop := fun vs H Q => ∃ (a : Addr) (ns : List Int), vs = [V.ref a] ∧ SqT K H a (ns.map V.int) ∧ 0 < ns.length ∧ ∀ m, m ∈ ns → (∀ y, y ∈ ns → m ≤ y) → Q (.int m) H
theorem cr_maxT {X : Cx} (hc : X.calm = true) : CallR X (.builtin "max") (rMaxT X.K) := by
  intro pins s σ H vs us Q I r h
  obtain ⟨a, ns, rfl, hs, hne, q⟩ := h
  obtain ⟨its, rv, hl, _⟩ := I.tuple hs
  rw [Vals.ref1 r]
  exact max_rawT (I.ok.hd hc) hl rv.ints hne fun h' tk m t' hk h1 h2 => ⟨.int _, H, I.kept hk, ⟨_, rfl⟩, q m h1 h2⟩
theorem cr_minT {X : Cx} (hc : X.calm = true) : CallR X (.builtin "min") (rMinT X.K) := by
  intro pins s σ H vs us Q I r h
  obtain ⟨a, ns, rfl, hs, hne, q⟩ := h
  obtain ⟨its, rv, hl, _⟩ := I.tuple hs
  rw [Vals.ref1 r]
  exact min_rawT (I.ok.hd hc) hl rv.ints hne fun h' tk m t' hk h1 h2 => ⟨.int _, H, I.kept hk, ⟨_, rfl⟩, q m h1 h2⟩
def fMinT : List D → (Sl → Prop) → Prop
  | [.tup ds], Q => ∃ ns : List Int, ds = ns.map D.int ∧ ns ≠ [] ∧ ∀ m, m ∈ ns → (∀ y, y ∈ ns → m ≤ y) → Q (.ext (.int m))
  | _, _ => False
def fMaxT : List D → (Sl → Prop) → Prop
  | [.tup ds], Q => ∃ ns : List Int, ds = ns.map D.int ∧ ns ≠ [] ∧ ∀ m, m ∈ ns → (∀ y, y ∈ ns → y ≤ m) → Q (.ext (.int m))
  | _, _ => False
theorem b_minT : BR "min" fMinT := ⟨fun _ _ K => rMinT K, fun _ _ K F H vs ds Q R fh hr hf ha => by
    unfold fMinT at hf
    split at hf
    · obtain ⟨v, rfl, r⟩ := hr.one
      obtain ⟨ns, rfl, ne, q⟩ := hf
      obtain ⟨a, vs, rfl, e1, _, r1⟩ := r.tup fh
      have z := r1.ints
      subst z
      exact ⟨a, ns, rfl, e1, List.length_pos_iff.mpr ne, fun m h1 h2 => ha.int fh (q m h1 h2)⟩
    · exact hf.elim, fun X hc _ => cr_minT hc⟩
theorem b_maxT : BR "max" fMaxT := ⟨fun _ _ K => rMaxT K, fun _ _ K F H vs ds Q R fh hr hf ha => by
    unfold fMaxT at hf
    split at hf
    · obtain ⟨v, rfl, r⟩ := hr.one
      obtain ⟨ns, rfl, ne, q⟩ := hf
      obtain ⟨a, vs, rfl, e1, _, r1⟩ := r.tup fh
      have z := r1.ints
      subst z
      exact ⟨a, ns, rfl, e1, List.length_pos_iff.mpr ne, fun m h1 h2 => ha.int fh (q m h1 h2)⟩
    · exact hf.elim, fun X hc _ => cr_maxT hc⟩
end HD
namespace LS
open PySem L2 HD PM
namespace K22
open K02 (sp_law_sheet)
local macro_rules | `(tactic| and_intros) => `(tactic| try simp -dsimp only [↓sIf, ↓sRet, ↓retD_ext, ↓retD_lst, ↓retD_al, ↓sSet, ↓sSetE, ↓sAsg, ↓sDrop, ↓sNext, ↓sFor, ↓sRetN, ↓sCont, ↓sBreak, ↓dTest, ↓dOp, ↓dC, ↓dCons, ↓dNil, ↓dTup, ↓dLst, ↓frzDs, ↓frzD_ext, ↓frzD_lst, ↓frzD_al, ↓wd_ext, ↓wd_lst, ↓wd_al, ↓wds, ↓AtS_ext, ↓AtS_lst, ↓AtL, ↓fAdd, ↓fSub, ↓fMul, ↓fDiv, ↓fMod, ↓fPow, ↓fCmp, ↓fIn, ↓fEq_ii, ↓fEq_ss, ↓fEq_bb, ↓fEq_tt, ↓fEq_ll, ↓fNe_ii, ↓fNe_ss, ↓fNe_bb, ↓fNe_tt, ↓fNe_ll, ↓fIx_l, ↓fIx_t, ↓fIx_k, ↓fIx_f, ↓GetS_some, ↓NatS_some, ↓fSl, ↓fIsN, ↓fNotN, ↓D.knN, ↓dNot, ↓dAnd, ↓dOr, ↓dAndV_w, ↓dOrV_w, ↓dNotV, ↓dIf, ↓dNeg, ↓dChain_w, ↓BlS_bl, ↓dCall_w, ↓dCallJ_w, ↓anyAl, ↓frozs, ↓froz, ↓gSet, ↓gTupD, ↓gsCons, ↓gsNil, ↓dSeq, ↓seqD_tup, ↓seqD_elst, ↓seqD_lst, ↓seqD_al, ↓dRange1, ↓dRange2, ↓dZip, ↓dCB, ↓dLc, ↓dYes, ↓dNoPart, ↓dPart, ↓dSl, ↓fLen, ↓fMin, ↓fMax, ↓fSum, ↓fAll, ↓fAny, ↓fSorted, ↓fTuple, ↓fList, ↓dRg1, ↓dRg2, ↓dLstRg, ↓dTupRg, ↓dIndex, ↓fIdx, ↓dAppend_w, ↓dExtend_w, ↓extD_lst, ↓dPopAt_w, ↓popD_int, ↓dPop_w, ↓mutD_w, ↓sSetItem_w, ↓setD_int, ↓dSortSet, ↓dTable_w, ↓wipeE, finals1, finals2, finals3, finals4, finals5, finals6, fin1_ext, fin1_lst, List.getElem?_cons_zero, List.getElem?_cons_succ, List.getElem?_nil, List.set_cons_zero, List.set_cons_succ, List.cons_append, List.nil_append, List.append_nil, List.replicate_succ, List.replicate_zero, List.map_cons, List.map_nil, List.length_cons, List.length_nil, true_and, and_true, ite_true, ite_false, if_true, if_false, Bool.false_eq_true, decide_eq_true_eq, Sl.plain, D.isSq, eq_self_iff_true, forall_const, reduceIte, true_or, or_true, atI_0, atI_1, atI_2, atI_3, ixN_0, ixN_1, ixN_2, AtS_ext, AtS_lst, FzS_lst, FzS_ext, GetS_some, NatS_some, ↓fIsi1, ↓fIsi2, BoolS_some, HD.kb_non_tuple, HD.kb_non_list, HD.kb_non_bool, HD.kb_non_int, HD.kb_non_str, HD.kb_bl_tuple, HD.kb_bl_list, HD.kb_bl_bool, HD.kb_bl_int, HD.kb_bl_str, HD.kb_int_tuple, HD.kb_int_list, HD.kb_int_bool, HD.kb_int_int, HD.kb_int_str, HD.kb_str_tuple, HD.kb_str_list, HD.kb_str_bool, HD.kb_str_int, HD.kb_str_str, HD.kb_lst_tuple, HD.kb_lst_list, HD.kb_lst_bool, HD.kb_lst_int, HD.kb_lst_str, HD.kb_tup_tuple, HD.kb_tup_list, HD.kb_tup_bool, HD.kb_tup_int, HD.kb_tup_str, ↓sFz_w, ↓FzS_lst, ↓FzS_ext, ↓dSortSetL, ↓fAbs, ↓fInt, ↓fRepr, ↓fLtT, ↓sRaise, ↓sTryKeep, ↓dCallV_w, ↓dMeth, ↓fCount, ↓fSplit, ↓seq_setE, ↓seq_set, ↓seq_drop, ↓seq_asg, ↓seq_if, ↓seq_for, ↓dStep, ↓fStep, ↓fMulT, ↓fIsB, ↓fNotB, ↓sPar, ↓dEnum, ↓dListZip, ↓dNest, ↓sSeal, ↓dNApp, ↓retD_reg, ↓dLenSet, ↓fSum2, ↓seq_putD, ↓seq_sealD, ↓dDIn, ↓dDGet, ↓sPutD, ↓dDNew, ↓dDOne, ↓sSealD, ↓dKeys, ↓keyS_dk, ↓dExtT, ↓fSortT, ↓fMinP, ↓dRemove, ↓dDInT, ↓dDGetT, ↓sPutDT, ↓dDNewT, ↓sSealDT, ↓dKeysT, ↓keyST_dt, ↓fSortK, ↓seq_putDT, ↓seq_sealDT, ↓dVarR_w, ↓dAttr, ↓dAppR, ↓dExtR_w, ↓dExtTR_w, ↓dClrR, ↓dPopR_w, ↓dIxR_w, ↓dDGetR, ↓dDInR, ↓dGet2R, ↓dPop1R, ↓dPop2R, ↓dDGetTR, ↓dDInTR, ↓dPop1TR, ↓dCallM, ↓dMethO, ↓dMake, ↓dMoveR, ↓dPtr, ↓sAttr, ↓sSetR, ↓sPutR, ↓sPutTR, ↓sSetA_w, ↓sSetG_w, ↓seq_setG, ↓seq_setA, ↓seq_attr, ↓seq_setR, ↓seq_putR, ↓seq_putTR, ↓RegS_reg, ↓CellS_some, ↓RefS_reg, ↓RefS_ar, ↓cellS_ar, ↓wd_ar, ↓seqD_ar, ↓lstO_lst, ↓insO_ins, ↓dkO_dk, ↓dkO_lk, ↓dtO_dt, ↓dtO_lk, ↓dkW_dk, ↓dtW_dt, ↓stoS_ext, ↓stoS_reg, ↓stoS_lstT, ↓stoS_lstF, ↓stoS_al, ↓ptrD_ref, ↓ptrD_int, ↓ptrD_str, ↓ptrD_bl, ↓ptrD_non, ↓ptrD_tup, ↓ptrD_tk, ↓ptrD_lst, ↓ptrD_fz, ↓setGS_lst, ↓setGS_reg, ↓setAS_ar, ↓setAS_ext, ↓intS_int, ↓tupS_tup, ↓lstS_lst, ↓lstK, ↓dkK, ↓dtK, ↓retD_reg, ↓dSortSetB, ↓fSortD, ↓dCallD, ↓regC_reg, ↓dMoveL, ↓dMoveR_w, ↓dDictP, ↓froz_lst, ↓froz_ext, ↓dUpdTR, ↓dUpdKR, ↓dDictZipK, ↓dDictC, ↓dClear, ↓fStr, ↓dListItems, ↓dLenK, ↓dSortKI, ↓dInC, ↓fMinT, ↓fMaxT, ↓dv0, ↓dw0, ↓dv1, ↓dw1, ↓dv2, ↓dw2, ↓dv3, ↓dw3, ↓dv4, ↓dw4, ↓dv5, ↓dw5, ↓dv6, ↓dw6, ↓dv7, ↓dw7, ↓dv8, ↓dw8, ↓dv9, ↓dw9, ↓dv10, ↓dw10, ↓dv11, ↓dw11, ↓dv12, ↓dw12, ↓dv13, ↓dw13, ↓dv14, ↓dw14, ↓dv15, ↓dw15, ↓dv16, ↓dw16, ↓dv17, ↓dw17, ↓dv18, ↓dw18, ↓dv19, ↓dw19])
theorem sh_ok {S : List Nat} {ps : List Part} (hS : SzOk S) (h0 : 0 < S.length) (hp : ∀ p ∈ ps, p.Ok S ∧ Bd 41 p) (hl : ps.length ≤ 5) : ShOk S ps :=
  ⟨hS, h0, fun p h => (hp p h).1, ⟨41, by decide, by omega, fun p h => (hp p h).2⟩, by omega⟩
theorem fold_bd {S : List Nat} {g : Nat → Nat} : ∀ {ps : List Part} {a : Int} {k : Nat}, 0 < k → a.natAbs < 2 ^ k → FitP S ps g → (∀ p ∈ ps, Bd 41 p) → (ps.foldl (fun acc p => jn .sum acc (val S p g)) a).natAbs < 2 ^ (k + 41 * ps.length)
  | [], a, k, _, ha, _, _ => ha
  | p :: ps, a, k, hk, ha, hf, hb => by
    have hp := hf p List.mem_cons_self
    have h1 := jn_bd (w := .sum) hk (by decide : 0 < 41) ha (val_bd hp.1 (hb p List.mem_cons_self) hp.2)
    have h2 := fold_bd (ps := ps) (a := jn .sum a (val S p g)) (k := k + 41) (by omega) h1 (fun q hq => hf q (List.mem_cons_of_mem _ hq)) (fun q hq => hb q (List.mem_cons_of_mem _ hq))
    rw [List.length_cons, show k + 41 * (ps.length + 1) = k + 41 + 41 * ps.length by omega]
    exact h2
theorem sum_bd {k : Nat} : ∀ l : List Int, (∀ x ∈ l, x.natAbs < 2 ^ k) → l.sum.natAbs ≤ l.length * 2 ^ k
  | [], _ => by simp
  | x :: l, h => by
    have h1 := h x List.mem_cons_self
    have h2 := sum_bd l fun y hy => h y (List.mem_cons_of_mem _ hy)
    rw [List.sum_cons, List.length_cons, Nat.add_mul, Nat.one_mul]
    omega
theorem whole_bd {S : List Nat} {ps : List Part} (hS : SzOk S) (hok : ∀ p ∈ ps, p.Ok S) (hb : ∀ p ∈ ps, Bd 41 p) (hl : ps.length ≤ 5) : (gt .sum ((allF S).map (fw .sum S ps))).natAbs < 2 ^ 300 := by
  rw [gt_sum]
  have h1 := sum_bd (k := 206) ((allF S).map (fw .sum S ps)) fun x hx => by
    obtain ⟨f, hf, rfl⟩ := List.mem_map.1 hx
    have := fold_bd (a := 1) (k := 1) (by decide) (by decide) (fitP hok hf) hb
    exact Nat.lt_of_lt_of_le this (Nat.pow_le_pow_right (by decide) (by omega))
  have h2 : ((allF S).map (fw .sum S ps)).length ≤ 4096 := by
    rw [List.length_map]
    unfold allF
    rw [len_fills, psz_all]
    exact hS.prod
  refine Nat.lt_of_le_of_lt (Nat.le_trans h1 (Nat.mul_le_mul_right _ h2)) (by decide)
theorem cut_headP (ps : List Part) (k : Nat) : cutD (ps.map dP) none (some (k : Int)) = (ps.take k).map dP := by
  unfold cutD
  rw [HT.sIx_none, HT.sIx_nat, List.length_map]
  show ((ps.map dP).take (min k ps.length - 0)) = _
  rw [Nat.sub_zero, List.map_take]
  by_cases h : k ≤ ps.length
  · rw [Nat.min_eq_left h]
  · rw [Nat.min_eq_right (by omega), List.take_of_length_le (by rw [List.length_map]; exact Nat.le_refl _), List.take_of_length_le (by rw [List.length_map]; omega)]
theorem cut_tailP (ps : List Part) (k : Nat) : cutD (ps.map dP) (some (k : Int)) none = (ps.drop k).map dP := by
  unfold cutD
  rw [HT.sIx_none, HT.sIx_nat, List.length_map, List.map_drop]
  by_cases h : k ≤ ps.length
  · rw [Nat.min_eq_left h, List.take_of_length_le (by rw [List.length_drop, List.length_map]; exact Nat.le_refl _)]
  · rw [Nat.min_eq_right (by omega), List.drop_of_length_le (by rw [List.length_map]; exact Nat.le_refl _), List.take_nil, List.drop_of_length_le (by rw [List.length_map]; omega)]
theorem exch_map (ps : List Part) (i : Nat) (q : Part) : (ps.take i).map dP ++ [dP q] ++ (ps.drop (i + 1)).map dP = (exch ps i q).map dP := by
  unfold exch
  rw [List.map_append, List.map_cons, List.append_assoc]
  rfl
def sp_law_ones_right : DSpec := fun args Q _ => ∃ (n : Nat) (a : Addr) (ds : List D) (S : List Nat) (ps : List Part), args = [.lst a ds, .ext (dSh S ps)] ∧ JarOk n ds ∧ n + 100 < 4294967296 ∧ SzOk S ∧ 0 < S.length ∧ S.length ≤ 6 ∧ PsOk .any S ps ∧ ps.length ≤ 5 ∧
  ∀ ds', JarOk (n + 64) ds' → Q (.ext (.bl true)) [.lst a ds', .ext (dSh S ps)]
def e1_law_ones_right : DT :=
    (dCB fInt (dCons (dOp (fCmp fun i j => decide (j < i)) (dVar 5) (dC (.int 0))) dNil))
def t_law_ones_right : DTS :=
    (sSeq (sSetE 2 (dCallJ sp_law_some 0 (dCons (dCB fLen (dCons (dOp fIx (dVar 1) (dC (.int 0))) dNil)) (dCons (dC (.int 2)) dNil))))
    (sSeq (sSetE 3 (dCall sp_rest (dCons (dC (.str (Str.ofString "sum"))) (dCons (dVar 1) (dCons (dVar 2) dNil)))))
    (sSeq (sSetE 4 (dCall sp_rest (dCons (dC (.str (Str.ofString "any"))) (dCons (dVar 1) (dCons (dVar 2) dNil)))))
    (sSeq (sIf (dTest (dOp fNe (dVar 4) (dTup (dCons (dVar 2) (dCons (dCB fTuple (dCons (dLc (dSeq (dOp fIx (dVar 3) (dC (.int 1)))) (gSet 5) dYes e1_law_ones_right [5]) dNil)) dNil))))) (sRet (dC (.bl false))) sNext)
    (sRet (dOrV (dOp fEq (dCB fLen (dCons (dOp fIx (dVar 1) (dC (.int 1))) dNil)) (dC (.int 0))) (dOp fEq (dCall sp_rest (dCons (dC (.str (Str.ofString "wide"))) (dCons (dVar 1) (dCons (dVar 2) dNil)))) (dVar 4))))))))
theorem m_law_ones_right : Meets t_law_ones_right 2 4 sp_law_ones_right := by
  rintro args Qd Xd ⟨n, a, ds, S, ps, rfl, hj, hn, hS, h0, h6, hps, hpl, hQ⟩
  show t_law_ones_right _ _ [_, _, .un, .un, .un, .un]
  unfold t_law_ones_right
  and_intros
  have hbin : ∀ p ∈ ps, ∀ x ∈ p.ws, Bin x := fun p hp x hx => by
    obtain ⟨_, _, h3⟩ := (hps p hp).2 x hx
    have := h3 rfl
    show x = 0 ∨ x = 1
    omega
  have hok : ∀ p ∈ ps, p.Ok S := fun p hp => (hps p hp).1
  have hsh : ShOk S ps := sh_ok hS h0 (fun p hp => ⟨hok p hp, fun x hx => by rcases hbin p hp x hx with rfl | rfl <;> decide⟩) hpl
  rw [nD_len]
  refine ⟨n, a, ds, S.length, 2, rfl, hj, by omega, by omega, by decide, fun ns ds1 fin hr hl hnl hj1 => ?_⟩
  and_intros
  have hk : D.pl 2 (.tup (nD ns)) = true := by
    rw [D.pl, Bool.and_eq_true, decide_eq_true_eq]
    exact ⟨by rw [nD_len]; omega, pl_nats 1 ns⟩
  refine ⟨.sum, S, ps, _, 2, rfl, hsh, hk, .inr ⟨ns, rfl, hr, hl, fun fin => ⟨.inl rfl, True.intro, ?_⟩⟩⟩
  and_intros
  refine ⟨.any, S, ps, _, 2, rfl, hsh, hk, .inr ⟨ns, rfl, hr, hl, fun fin => ⟨.inl rfl, True.intro, ?_⟩⟩⟩
  and_intros
  have hS' : ∀ n ∈ ns, n < S.length := hl
  refine lc_map (keep := fun _ => True) D.int (fun x : Int => D.int (if 0 < x then 1 else 0)) True.intro (restP .sum S ps ns).ws ?_ (fun x hx R hR => ?_) fun b => ?_
  · show ((fills S ns).map _).length ≤ _
    rw [List.length_map, len_fills]
    exact Nat.le_trans (Nat.le_trans (psz_le hS.pos hr hl) hS.prod) (by decide)
  · unfold e1_law_ones_right
    and_intros
    exact hR
  and_intros
  have e1 : (restP .sum S ps ns).ws.map (fun x : Int => D.int (if 0 < x then 1 else 0)) = iD (restP .any S ps ns).ws := by
    rw [rest_any hS hok hbin hr hl]
    unfold iD
    rw [List.map_map]
    rfl
  rw [e1]
  have hc : (dP (restP .any S ps ns)).cmp := pi_cmp (k := 2) (by decide) (by
    show (D.pi 1 (.tup (nD ns)) && (D.pi 1 (.tup (iD (restP .any S ps ns).ws)) && true)) = true
    rw [show D.pi 1 (.tup (nD ns)) = true from pi_nats 0 ns, show D.pi 1 (.tup (iD (restP .any S ps ns).ws)) = true from pi_ints 0 _]
    rfl)
  refine ⟨by decide, hc, hc, ?_⟩
  rw [if_neg (by rw [show (D.tup [D.tup (nD (restP Wd.any S ps ns).ns), D.tup (iD (restP Wd.any S ps ns).ws)]).eqv (D.tup [D.tup (nD ns), D.tup (iD (restP Wd.any S ps ns).ws)]) = true from eqv_refl hc]; decide)]
  and_intros
  rw [List.length_map]
  by_cases hp0 : ps = []
  · rw [if_pos (by rw [hp0]; rfl)]
    exact hQ _ (hj1.up (by omega))
  · rw [if_neg (by
      have : ps.length ≠ 0 := fun z => hp0 (List.eq_nil_of_length_eq_zero z)
      rw [beq_iff_eq]
      omega)]
    refine ⟨.wide, S, ps, _, 2, rfl, hsh, hk, .inr ⟨ns, rfl, hr, hl, fun fin => ⟨.inl rfl, True.intro, ?_⟩⟩⟩
    and_intros
    rw [rest_wide hS hok hbin hp0 hr hl]
    refine ⟨hc, hc, ?_⟩
    rw [show (D.tup [D.tup (nD (restP Wd.any S ps ns).ns), D.tup (iD (restP Wd.any S ps ns).ws)]).eqv (D.tup [D.tup (nD (restP Wd.any S ps ns).ns), D.tup (iD (restP Wd.any S ps ns).ws)]) = true from eqv_refl hc]
    exact hQ _ (hj1.up (by omega))
end K22
end LS
namespace LS
open PySem L2 HD PM
namespace K22
local macro_rules | `(tactic| and_intros) => `(tactic| try simp -dsimp only [↓sIf, ↓sRet, ↓retD_ext, ↓retD_lst, ↓retD_al, ↓sSet, ↓sSetE, ↓sAsg, ↓sDrop, ↓sNext, ↓sFor, ↓sRetN, ↓sCont, ↓sBreak, ↓dTest, ↓dOp, ↓dC, ↓dCons, ↓dNil, ↓dTup, ↓dLst, ↓frzDs, ↓frzD_ext, ↓frzD_lst, ↓frzD_al, ↓wd_ext, ↓wd_lst, ↓wd_al, ↓wds, ↓AtS_ext, ↓AtS_lst, ↓AtL, ↓fAdd, ↓fSub, ↓fMul, ↓fDiv, ↓fMod, ↓fPow, ↓fCmp, ↓fIn, ↓fEq_ii, ↓fEq_ss, ↓fEq_bb, ↓fEq_tt, ↓fEq_ll, ↓fNe_ii, ↓fNe_ss, ↓fNe_bb, ↓fNe_tt, ↓fNe_ll, ↓fIx_l, ↓fIx_t, ↓fIx_k, ↓fIx_f, ↓GetS_some, ↓NatS_some, ↓fSl, ↓fIsN, ↓fNotN, ↓D.knN, ↓dNot, ↓dAnd, ↓dOr, ↓dAndV_w, ↓dOrV_w, ↓dNotV, ↓dIf, ↓dNeg, ↓dChain_w, ↓BlS_bl, ↓dCall_w, ↓dCallJ_w, ↓anyAl, ↓frozs, ↓froz, ↓gSet, ↓gTupD, ↓gsCons, ↓gsNil, ↓dSeq, ↓seqD_tup, ↓seqD_elst, ↓seqD_lst, ↓seqD_al, ↓dRange1, ↓dRange2, ↓dZip, ↓dCB, ↓dLc, ↓dYes, ↓dNoPart, ↓dPart, ↓dSl, ↓fLen, ↓fMin, ↓fMax, ↓fSum, ↓fAll, ↓fAny, ↓fSorted, ↓fTuple, ↓fList, ↓dRg1, ↓dRg2, ↓dLstRg, ↓dTupRg, ↓dIndex, ↓fIdx, ↓dAppend_w, ↓dExtend_w, ↓extD_lst, ↓dPopAt_w, ↓popD_int, ↓dPop_w, ↓mutD_w, ↓sSetItem_w, ↓setD_int, ↓dSortSet, ↓dTable_w, ↓wipeE, finals1, finals2, finals3, finals4, finals5, finals6, fin1_ext, fin1_lst, List.getElem?_cons_zero, List.getElem?_cons_succ, List.getElem?_nil, List.set_cons_zero, List.set_cons_succ, List.cons_append, List.nil_append, List.append_nil, List.replicate_succ, List.replicate_zero, List.map_cons, List.map_nil, List.length_cons, List.length_nil, true_and, and_true, ite_true, ite_false, if_true, if_false, Bool.false_eq_true, decide_eq_true_eq, Sl.plain, D.isSq, eq_self_iff_true, forall_const, reduceIte, true_or, or_true, atI_0, atI_1, atI_2, atI_3, ixN_0, ixN_1, ixN_2, AtS_ext, AtS_lst, FzS_lst, FzS_ext, GetS_some, NatS_some, ↓fIsi1, ↓fIsi2, BoolS_some, HD.kb_non_tuple, HD.kb_non_list, HD.kb_non_bool, HD.kb_non_int, HD.kb_non_str, HD.kb_bl_tuple, HD.kb_bl_list, HD.kb_bl_bool, HD.kb_bl_int, HD.kb_bl_str, HD.kb_int_tuple, HD.kb_int_list, HD.kb_int_bool, HD.kb_int_int, HD.kb_int_str, HD.kb_str_tuple, HD.kb_str_list, HD.kb_str_bool, HD.kb_str_int, HD.kb_str_str, HD.kb_lst_tuple, HD.kb_lst_list, HD.kb_lst_bool, HD.kb_lst_int, HD.kb_lst_str, HD.kb_tup_tuple, HD.kb_tup_list, HD.kb_tup_bool, HD.kb_tup_int, HD.kb_tup_str, ↓sFz_w, ↓FzS_lst, ↓FzS_ext, ↓dSortSetL, ↓fAbs, ↓fInt, ↓fRepr, ↓fLtT, ↓sRaise, ↓sTryKeep, ↓dCallV_w, ↓dMeth, ↓fCount, ↓fSplit, ↓seq_setE, ↓seq_set, ↓seq_drop, ↓seq_asg, ↓seq_if, ↓seq_for, ↓dStep, ↓fStep, ↓fMulT, ↓fIsB, ↓fNotB, ↓sPar, ↓dEnum, ↓dListZip, ↓dNest, ↓sSeal, ↓dNApp, ↓retD_reg, ↓dLenSet, ↓fSum2, ↓seq_putD, ↓seq_sealD, ↓dDIn, ↓dDGet, ↓sPutD, ↓dDNew, ↓dDOne, ↓sSealD, ↓dKeys, ↓keyS_dk, ↓dExtT, ↓fSortT, ↓fMinP, ↓dRemove, ↓dDInT, ↓dDGetT, ↓sPutDT, ↓dDNewT, ↓sSealDT, ↓dKeysT, ↓keyST_dt, ↓fSortK, ↓seq_putDT, ↓seq_sealDT, ↓dVarR_w, ↓dAttr, ↓dAppR, ↓dExtR_w, ↓dExtTR_w, ↓dClrR, ↓dPopR_w, ↓dIxR_w, ↓dDGetR, ↓dDInR, ↓dGet2R, ↓dPop1R, ↓dPop2R, ↓dDGetTR, ↓dDInTR, ↓dPop1TR, ↓dCallM, ↓dMethO, ↓dMake, ↓dMoveR, ↓dPtr, ↓sAttr, ↓sSetR, ↓sPutR, ↓sPutTR, ↓sSetA_w, ↓sSetG_w, ↓seq_setG, ↓seq_setA, ↓seq_attr, ↓seq_setR, ↓seq_putR, ↓seq_putTR, ↓RegS_reg, ↓CellS_some, ↓RefS_reg, ↓RefS_ar, ↓cellS_ar, ↓wd_ar, ↓seqD_ar, ↓lstO_lst, ↓insO_ins, ↓dkO_dk, ↓dkO_lk, ↓dtO_dt, ↓dtO_lk, ↓dkW_dk, ↓dtW_dt, ↓stoS_ext, ↓stoS_reg, ↓stoS_lstT, ↓stoS_lstF, ↓stoS_al, ↓ptrD_ref, ↓ptrD_int, ↓ptrD_str, ↓ptrD_bl, ↓ptrD_non, ↓ptrD_tup, ↓ptrD_tk, ↓ptrD_lst, ↓ptrD_fz, ↓setGS_lst, ↓setGS_reg, ↓setAS_ar, ↓setAS_ext, ↓intS_int, ↓tupS_tup, ↓lstS_lst, ↓lstK, ↓dkK, ↓dtK, ↓retD_reg, ↓dSortSetB, ↓fSortD, ↓dCallD, ↓regC_reg, ↓dMoveL, ↓dMoveR_w, ↓dDictP, ↓froz_lst, ↓froz_ext, ↓dUpdTR, ↓dUpdKR, ↓dDictZipK, ↓dDictC, ↓dClear, ↓fStr, ↓dListItems, ↓dLenK, ↓dSortKI, ↓dInC, ↓fMinT, ↓fMaxT, ↓dv0, ↓dw0, ↓dv1, ↓dw1, ↓dv2, ↓dw2, ↓dv3, ↓dw3, ↓dv4, ↓dw4, ↓dv5, ↓dw5, ↓dv6, ↓dw6, ↓dv7, ↓dw7, ↓dv8, ↓dw8, ↓dv9, ↓dw9, ↓dv10, ↓dw10, ↓dv11, ↓dw11, ↓dv12, ↓dw12, ↓dv13, ↓dw13, ↓dv14, ↓dw14, ↓dv15, ↓dw15, ↓dv16, ↓dw16, ↓dv17, ↓dw17, ↓dv18, ↓dw18, ↓dv19, ↓dw19])
def sp_lam (φ : Int → Int) : DSpec := fun args Q _ => ∃ x : Int, args = [.ext (.int x)] ∧ ∀ fin, Q (dI (φ x)) fin
def e1_turned (f : Addr) (φ : Int → Int) : DT :=
    (dCallL f (sp_lam φ) 1 (dCons (dVar 6) dNil))
def e2_turned (f : Addr) (φ : Int → Int) : DT :=
    (dTup (dCons (dVar 4) (dCons (dCB fTuple (dCons (dLc (dSeq (dVar 5)) (gSet 6) dYes (e1_turned f φ) [6]) dNil)) dNil)))
def t_turned (f : Addr) (φ : Int → Int) : DTS :=
    (sSeq (sAsg (dVar 0) (gTupD 2 (gsCons (gSet 2) (gsCons (gSet 3) gsNil))))
    (sRet (dTup (dCons (dVar 2) (dCons (dCB fTuple (dCons (dLc (dSeq (dVar 3)) (gTupD 2 (gsCons (gSet 4) (gsCons (gSet 5) gsNil))) dYes (e2_turned f φ) [4, 5]) dNil)) dNil)))))
def sp_turned (f : Addr) (φ : Int → Int) : DSpec := fun args Q _ => ∃ (S : List Nat) (ps : List Part), args = [.ext (dSh S ps), .ext (.val (.ref f))] ∧ ShOk S ps ∧ ∀ fin, Q (.ext (dSh S (mapS φ ps))) fin
theorem m_turned (f : Addr) (φ : Int → Int) : Meets (t_turned f φ) 2 5 (sp_turned f φ) := by
  rintro args Qd Xd ⟨S, ps, rfl, hsh, hQ⟩
  show t_turned _ _ _ _ [_, _, .un, .un, .un, .un, .un]
  unfold t_turned
  and_intros
  have s1 : ∀ k, k ≤ 200000 → k ≤ sizeLine := fun k h => Nat.le_trans h (by decide)
  have hfew := hsh.few
  refine lc_map (keep := fun _ => True) dP (fun p : Part => dP (mapP φ p)) True.intro ps (s1 _ (by omega)) (fun p hp R hR => ?_) fun b => ?_
  · unfold e2_turned
    and_intros
    have hp1 := hsh.ok p hp
    have hwl : p.ws.length ≤ 4096 := by
      rw [hp1.len]
      exact Nat.le_trans (psz_le hsh.sz.pos hp1.rise hp1.lt) hsh.sz.prod
    refine lc_map (keep := fun _ => True) D.int (fun x : Int => D.int (φ x)) True.intro p.ws (s1 _ (by omega)) (fun x hx R2 hR2 => ?_) fun b => ?_
    · unfold e1_turned dCallL
      refine ⟨rfl, ?_⟩
      and_intros
      refine ⟨x, rfl, fun fin => ⟨.inl rfl, True.intro, ?_⟩⟩
      and_intros
      exact hR2
    · and_intros
      refine ⟨by decide, ?_⟩
      have e : p.ws.map (fun x : Int => D.int (φ x)) = iD (p.ws.map φ) := by
        unfold iD
        rw [List.map_map]
        rfl
      rw [e]
      exact hR
  · and_intros
    refine ⟨by decide, ?_⟩
    have e : ps.map (fun p : Part => dP (mapP φ p)) = (mapS φ ps).map dP := by
      unfold mapS
      rw [List.map_map]
      rfl
    rw [e]
    exact hQ _
end K22
end LS
namespace LS
open PySem L2 HD PM
namespace K22
open K02 (sp_law_sheet)
local macro_rules | `(tactic| and_intros) => `(tactic| try simp -dsimp only [↓sIf, ↓sRet, ↓retD_ext, ↓retD_lst, ↓retD_al, ↓sSet, ↓sSetE, ↓sAsg, ↓sDrop, ↓sNext, ↓sFor, ↓sRetN, ↓sCont, ↓sBreak, ↓dTest, ↓dOp, ↓dC, ↓dCons, ↓dNil, ↓dTup, ↓dLst, ↓frzDs, ↓frzD_ext, ↓frzD_lst, ↓frzD_al, ↓wd_ext, ↓wd_lst, ↓wd_al, ↓wds, ↓AtS_ext, ↓AtS_lst, ↓AtL, ↓fAdd, ↓fSub, ↓fMul, ↓fDiv, ↓fMod, ↓fPow, ↓fCmp, ↓fIn, ↓fEq_ii, ↓fEq_ss, ↓fEq_bb, ↓fEq_tt, ↓fEq_ll, ↓fNe_ii, ↓fNe_ss, ↓fNe_bb, ↓fNe_tt, ↓fNe_ll, ↓fIx_l, ↓fIx_t, ↓fIx_k, ↓fIx_f, ↓GetS_some, ↓NatS_some, ↓fSl, ↓fIsN, ↓fNotN, ↓D.knN, ↓dNot, ↓dAnd, ↓dOr, ↓dAndV_w, ↓dOrV_w, ↓dNotV, ↓dIf, ↓dNeg, ↓dChain_w, ↓BlS_bl, ↓dCall_w, ↓dCallJ_w, ↓anyAl, ↓frozs, ↓froz, ↓gSet, ↓gTupD, ↓gsCons, ↓gsNil, ↓dSeq, ↓seqD_tup, ↓seqD_elst, ↓seqD_lst, ↓seqD_al, ↓dRange1, ↓dRange2, ↓dZip, ↓dCB, ↓dLc, ↓dYes, ↓dNoPart, ↓dPart, ↓dSl, ↓fLen, ↓fMin, ↓fMax, ↓fSum, ↓fAll, ↓fAny, ↓fSorted, ↓fTuple, ↓fList, ↓dRg1, ↓dRg2, ↓dLstRg, ↓dTupRg, ↓dIndex, ↓fIdx, ↓dAppend_w, ↓dExtend_w, ↓extD_lst, ↓dPopAt_w, ↓popD_int, ↓dPop_w, ↓mutD_w, ↓sSetItem_w, ↓setD_int, ↓dSortSet, ↓dTable_w, ↓wipeE, finals1, finals2, finals3, finals4, finals5, finals6, fin1_ext, fin1_lst, List.getElem?_cons_zero, List.getElem?_cons_succ, List.getElem?_nil, List.set_cons_zero, List.set_cons_succ, List.cons_append, List.nil_append, List.append_nil, List.replicate_succ, List.replicate_zero, List.map_cons, List.map_nil, List.length_cons, List.length_nil, true_and, and_true, ite_true, ite_false, if_true, if_false, Bool.false_eq_true, decide_eq_true_eq, Sl.plain, D.isSq, eq_self_iff_true, forall_const, reduceIte, true_or, or_true, atI_0, atI_1, atI_2, atI_3, ixN_0, ixN_1, ixN_2, AtS_ext, AtS_lst, FzS_lst, FzS_ext, GetS_some, NatS_some, ↓fIsi1, ↓fIsi2, BoolS_some, HD.kb_non_tuple, HD.kb_non_list, HD.kb_non_bool, HD.kb_non_int, HD.kb_non_str, HD.kb_bl_tuple, HD.kb_bl_list, HD.kb_bl_bool, HD.kb_bl_int, HD.kb_bl_str, HD.kb_int_tuple, HD.kb_int_list, HD.kb_int_bool, HD.kb_int_int, HD.kb_int_str, HD.kb_str_tuple, HD.kb_str_list, HD.kb_str_bool, HD.kb_str_int, HD.kb_str_str, HD.kb_lst_tuple, HD.kb_lst_list, HD.kb_lst_bool, HD.kb_lst_int, HD.kb_lst_str, HD.kb_tup_tuple, HD.kb_tup_list, HD.kb_tup_bool, HD.kb_tup_int, HD.kb_tup_str, ↓sFz_w, ↓FzS_lst, ↓FzS_ext, ↓dSortSetL, ↓fAbs, ↓fInt, ↓fRepr, ↓fLtT, ↓sRaise, ↓sTryKeep, ↓dCallV_w, ↓dMeth, ↓fCount, ↓fSplit, ↓seq_setE, ↓seq_set, ↓seq_drop, ↓seq_asg, ↓seq_if, ↓seq_for, ↓dStep, ↓fStep, ↓fMulT, ↓fIsB, ↓fNotB, ↓sPar, ↓dEnum, ↓dListZip, ↓dNest, ↓sSeal, ↓dNApp, ↓retD_reg, ↓dLenSet, ↓fSum2, ↓seq_putD, ↓seq_sealD, ↓dDIn, ↓dDGet, ↓sPutD, ↓dDNew, ↓dDOne, ↓sSealD, ↓dKeys, ↓keyS_dk, ↓dExtT, ↓fSortT, ↓fMinP, ↓dRemove, ↓dDInT, ↓dDGetT, ↓sPutDT, ↓dDNewT, ↓sSealDT, ↓dKeysT, ↓keyST_dt, ↓fSortK, ↓seq_putDT, ↓seq_sealDT, ↓dVarR_w, ↓dAttr, ↓dAppR, ↓dExtR_w, ↓dExtTR_w, ↓dClrR, ↓dPopR_w, ↓dIxR_w, ↓dDGetR, ↓dDInR, ↓dGet2R, ↓dPop1R, ↓dPop2R, ↓dDGetTR, ↓dDInTR, ↓dPop1TR, ↓dCallM, ↓dMethO, ↓dMake, ↓dMoveR, ↓dPtr, ↓sAttr, ↓sSetR, ↓sPutR, ↓sPutTR, ↓sSetA_w, ↓sSetG_w, ↓seq_setG, ↓seq_setA, ↓seq_attr, ↓seq_setR, ↓seq_putR, ↓seq_putTR, ↓RegS_reg, ↓CellS_some, ↓RefS_reg, ↓RefS_ar, ↓cellS_ar, ↓wd_ar, ↓seqD_ar, ↓lstO_lst, ↓insO_ins, ↓dkO_dk, ↓dkO_lk, ↓dtO_dt, ↓dtO_lk, ↓dkW_dk, ↓dtW_dt, ↓stoS_ext, ↓stoS_reg, ↓stoS_lstT, ↓stoS_lstF, ↓stoS_al, ↓ptrD_ref, ↓ptrD_int, ↓ptrD_str, ↓ptrD_bl, ↓ptrD_non, ↓ptrD_tup, ↓ptrD_tk, ↓ptrD_lst, ↓ptrD_fz, ↓setGS_lst, ↓setGS_reg, ↓setAS_ar, ↓setAS_ext, ↓intS_int, ↓tupS_tup, ↓lstS_lst, ↓lstK, ↓dkK, ↓dtK, ↓retD_reg, ↓dSortSetB, ↓fSortD, ↓dCallD, ↓regC_reg, ↓dMoveL, ↓dMoveR_w, ↓dDictP, ↓froz_lst, ↓froz_ext, ↓dUpdTR, ↓dUpdKR, ↓dDictZipK, ↓dDictC, ↓dClear, ↓fStr, ↓dListItems, ↓dLenK, ↓dSortKI, ↓dInC, ↓fMinT, ↓fMaxT, ↓dv0, ↓dw0, ↓dv1, ↓dw1, ↓dv2, ↓dw2, ↓dv3, ↓dw3, ↓dv4, ↓dw4, ↓dv5, ↓dw5, ↓dv6, ↓dw6, ↓dv7, ↓dw7, ↓dv8, ↓dw8, ↓dv9, ↓dw9, ↓dv10, ↓dw10, ↓dv11, ↓dw11, ↓dv12, ↓dw12, ↓dv13, ↓dw13, ↓dv14, ↓dw14, ↓dv15, ↓dw15, ↓dv16, ↓dw16, ↓dv17, ↓dw17, ↓dv18, ↓dw18, ↓dv19, ↓dw19])
def spN : Addr → List Int → DSpec := fun f _ => sp_turned f fun x => 0 - x
def spB : Addr → List Int → DSpec := fun f bs => sp_turned f (barF (bs.headD 0))
def sp_law_numbers_right : DSpec := fun args Q _ => ∃ (n : Nat) (a : Addr) (ds : List D) (S : List Nat) (ps : List Part), args = [.lst a ds, .ext (dSh S ps)] ∧ JarOk n ds ∧ n + 100 < 4294967296 ∧ SzOk S ∧ 0 < S.length ∧ S.length ≤ 6 ∧ PsOk .sum S ps ∧ ps.length ≤ 5 ∧
  ∀ ds', JarOk (n + 64) ds' → Q (.ext (.bl true)) [.lst a ds', .ext (dSh S ps)]
def e1_law_numbers_right : DT :=
    (dOp fAdd (dVar 12) (dVar 10))
def e2_law_numbers_right : DT :=
    (dCall sp_whole (dCons (dVar 13) (dCons (dVar 11) dNil)))
def e3_law_numbers_right : DT :=
    (dOp fAdd (dCall sp_whole (dCons (dVar 13) (dCons (dVar 1) dNil))) (dVar 10))
def e4_law_numbers_right : DT :=
    (dOp fMul (dVar 12) (dVar 10))
def k5_law_numbers_right : DTS :=
    (sSeq (sSetE 11 (dTup (dCons (dVar 2) (dCons (dOp fAdd (dOp fAdd (dSl (dVar 3) dNoPart (dPart (dVar 7))) (dTup (dCons (dTup (dCons (dVar 8) (dCons (dCB fTuple (dCons (dLc (dSeq (dVar 9)) (gSet 12) dYes e1_law_numbers_right [12]) dNil)) dNil))) dNil))) (dSl (dVar 3) (dPart (dOp fAdd (dVar 7) (dC (.int 1)))) dNoPart)) dNil))))
    (sSeq (sIf (dTest (dOp fNe (dLc (dSeq (dLst (dCons (dC (.str (Str.ofString "most"))) (dCons (dC (.str (Str.ofString "least"))) dNil)))) (gSet 13) dYes e2_law_numbers_right [13]) (dLc (dSeq (dLst (dCons (dC (.str (Str.ofString "most"))) (dCons (dC (.str (Str.ofString "least"))) dNil)))) (gSet 13) dYes e3_law_numbers_right [13]))) (sRet (dC (.bl false))) sNext)
    (sSeq (sSetE 14 (dTup (dCons (dVar 2) (dCons (dOp fAdd (dOp fAdd (dSl (dVar 3) dNoPart (dPart (dVar 7))) (dTup (dCons (dTup (dCons (dVar 8) (dCons (dCB fTuple (dCons (dLc (dSeq (dVar 9)) (gSet 12) dYes e4_law_numbers_right [12]) dNil)) dNil))) dNil))) (dSl (dVar 3) (dPart (dOp fAdd (dVar 7) (dC (.int 1)))) dNoPart)) dNil))))
    (sRet (dOp fEq (dCall sp_whole (dCons (dC (.str (Str.ofString "sum"))) (dCons (dVar 14) dNil))) (dOp fMul (dCall sp_whole (dCons (dC (.str (Str.ofString "sum"))) (dCons (dVar 1) dNil))) (dVar 10)))))))
def t_law_numbers_right : DTS :=
    (sSeq (sAsg (dVar 1) (gTupD 2 (gsCons (gSet 2) (gsCons (gSet 3) gsNil))))
    (sSeq (sSetE 4 (dTurn spN 1 []))
    (sSeq (sIf (dTest (dOp fNe (dCall sp_whole (dCons (dC (.str (Str.ofString "least"))) (dCons (dVar 4) dNil))) (dOp fSub (dC (.int 0)) (dCall sp_whole (dCons (dC (.str (Str.ofString "most"))) (dCons (dVar 1) dNil)))))) (sRet (dC (.bl false))) sNext)
    (sSeq (sSetE 5 (dOp fSub (dCallJ sp_law_dip 0 (dCons (dC (.int 9)) dNil)) (dC (.int 4))))
    (sSeq (sSetE 6 (dTurn spB 1 [5]))
    (sSeq (sIf (dTest (dOp fNe (dOp (fCmp fun i j => decide (j ≤ i)) (dCall sp_whole (dCons (dC (.str (Str.ofString "wide"))) (dCons (dVar 1) dNil))) (dVar 5)) (dOp fEq (dCall sp_whole (dCons (dC (.str (Str.ofString "any"))) (dCons (dVar 6) dNil))) (dC (.int 1))))) (sRet (dC (.bl false))) sNext)
    (sSeq (sIf (dTest (dOp fEq (dCB fLen (dCons (dVar 3) dNil)) (dC (.int 0)))) (sRet (dOp fEq (dCall sp_whole (dCons (dC (.str (Str.ofString "wide"))) (dCons (dVar 1) dNil))) (dOp fPow (dC (.int 10)) (dC (.int 30))))) sNext)
    (sSeq (sSetE 7 (dCallJ sp_law_dip 0 (dCons (dCB fLen (dCons (dVar 3) dNil)) dNil)))
    (sSeq (sAsg (dOp fIx (dVar 3) (dVar 7)) (gTupD 2 (gsCons (gSet 8) (gsCons (gSet 9) gsNil))))
    (sSeq (sSetE 10 (dOp fSub (dCallJ sp_law_dip 0 (dCons (dC (.int 7)) dNil)) (dC (.int 3))))
    (sSeq (sIf (dOr (dTest (dOp (fCmp fun i j => decide (j < i)) (dCB fMaxT (dCons (dVar 9) dNil)) (dOp fPow (dC (.int 10)) (dC (.int 11))))) (dTest (dOp (fCmp fun i j => decide (i < j)) (dCB fMinT (dCons (dVar 9) dNil)) (dOp fSub (dC (.int 0)) (dOp fPow (dC (.int 10)) (dC (.int 11))))))) (sRet (dC (.bl true))) sNext)
    k5_law_numbers_right)))))))))))
theorem m_law_numbers_right : Meets t_law_numbers_right 2 13 sp_law_numbers_right := by
  rintro args Qd Xd ⟨n, a, ds, S, ps, rfl, hj, hn, hS, h0, h6, hps, hpl, hQ⟩
  show t_law_numbers_right _ _ [_, _, .un, .un, .un, .un, .un, .un, .un, .un, .un, .un, .un, .un, .un]
  unfold t_law_numbers_right
  and_intros
  have hnum : ∀ p ∈ ps, ∀ x ∈ p.ws, -1000000000000 ≤ x ∧ x ≤ 1000000000000 := fun p hp x hx => by
    obtain ⟨h1, h2, _⟩ := (hps p hp).2 x hx
    exact ⟨h1, h2⟩
  have hok : ∀ p ∈ ps, p.Ok S := fun p hp => (hps p hp).1
  have e41 : (2 : Nat) ^ 41 = 2199023255552 := by decide
  have hb0 : ∀ p ∈ ps, Bd 41 p := fun p hp x hx => by
    have := hnum p hp x hx
    rw [e41]
    omega
  have hsh : ShOk S ps := sh_ok hS h0 (fun p hp => ⟨hok p hp, hb0 p hp⟩) hpl
  have hshN : ShOk S (mapS (fun x => 0 - x) ps) := sh_ok hS h0 (fun q hq => by
    obtain ⟨p, hp, rfl⟩ := List.mem_map.1 hq
    exact ⟨mapP_ok _ (hok p hp), fun y hy => by
      obtain ⟨x, hx, rfl⟩ := List.mem_map.1 hy
      have := hnum p hp x hx
      rw [e41]
      omega⟩) (by unfold mapS; rw [List.length_map]; exact hpl)
  refine ⟨dSh S ps, [], rfl, rfl, fun f => ⟨S, ps, rfl, hsh, fun fin => ⟨_, rfl, ?_⟩⟩⟩
  and_intros
  refine ⟨.least, S, _, rfl, hshN, fun fin => ⟨.inl rfl, True.intro, ?_⟩⟩
  and_intros
  refine ⟨.most, S, ps, rfl, hsh, fun fin => ⟨.inl rfl, True.intro, ?_⟩⟩
  and_intros
  rw [whole_neg hS hok]
  rw [if_neg (by rw [beq_self_eq_true]; decide)]
  refine ⟨n, a, ds, 9, rfl, hj, by omega, by decide, by decide, fun r ds1 fin r0 r1 hj1 => ?_⟩
  and_intros
  have hshB : ShOk S (mapS (barF (r - 4)) ps) := sh_ok hS h0 (fun q hq => by
    obtain ⟨p, hp, rfl⟩ := List.mem_map.1 hq
    exact ⟨mapP_ok _ (hok p hp), fun y hy => by
      obtain ⟨x, hx, rfl⟩ := List.mem_map.1 hy
      unfold barF
      split <;> decide⟩) (by unfold mapS; rw [List.length_map]; exact hpl)
  refine ⟨dSh S ps, [r - 4], rfl, rfl, fun f => ⟨S, ps, rfl, hsh, fun fin => ⟨_, rfl, ?_⟩⟩⟩
  rw [show ([r - 4] : List Int).headD 0 = r - 4 from rfl]
  and_intros
  refine ⟨.wide, S, ps, rfl, hsh, fun fin => ⟨.inl rfl, True.intro, ?_⟩⟩
  and_intros
  refine ⟨.any, S, _, rfl, hshB, fun fin => ⟨.inl rfl, True.intro, ?_⟩⟩
  and_intros
  rw [whole_bar (by omega) hS hok]
  have eb : ∀ v : Int, (barF (r - 4) v == 1) = decide (r - 4 ≤ v) := fun v => by
    unfold barF
    split
    · rename_i h
      rw [decide_eq_true h]
      rfl
    · rename_i h
      rw [decide_eq_false h]
      rfl
  rw [eb, if_neg (by rw [beq_self_eq_true]; decide), List.length_map]
  by_cases hp0 : ps = []
  · rw [if_pos (by rw [hp0]; rfl)]
    refine ⟨.wide, S, ps, rfl, hsh, fun fin => ⟨.inl rfl, True.intro, ?_⟩⟩
    and_intros
    subst hp0
    rw [whole_wide0 hS]
    refine ⟨⟨by decide, by decide, by decide⟩, ?_⟩
    rw [show ((10 : Int) ^ 30 == 10 ^ Int.toNat 30) = true by decide]
    exact hQ _ (hj1.up (by omega))
  have hl0 : 0 < ps.length := Nat.pos_of_ne_zero fun z => hp0 (List.eq_nil_of_length_eq_zero z)
  rw [if_neg (by rw [beq_iff_eq]; omega)]
  refine ⟨n + 1, a, ds1, (ps.length : Nat), rfl, hj1, by omega, by omega, by omega, fun i ds2 fin i0 i1 hj2 => ?_⟩
  obtain ⟨i, rfl⟩ := Int.eq_ofNat_of_zero_le i0
  have hi : i < ps.length := by omega
  and_intros
  refine ⟨dP ps[i], atN (by rw [List.getElem?_map, List.getElem?_eq_getElem hi]; rfl), ?_⟩
  and_intros
  refine ⟨n + 2, a, ds2, 7, rfl, hj2, by omega, by decide, by decide, fun c ds3 fin c0 c1 hj3 => ?_⟩
  and_intros
  have hpi := hok _ (List.getElem_mem hi)
  have hwne : ps[i].ws ≠ [] := fun z => by
    have h1 := hpi.len
    rw [z] at h1
    have h2 : 0 < psz S ps[i].ns := prodN_pos fun x hx => by
      obtain ⟨m, hm, rfl⟩ := List.mem_map.1 hx
      exact hS.pos _ (sz_mem (hpi.lt m hm))
    simp at h1
    omega
  have c11 : CPow 10 11 := ⟨by decide, by decide, by decide⟩
  have e11 : (10 : Int) ^ Int.toNat 11 = 100000000000 := by decide
  rw [e11]
  refine ⟨ps[i].ws, rfl, hwne, fun mx _ hmx => ⟨c11, ?_⟩⟩
  by_cases hbig : 100000000000 < mx
  · rw [if_pos hbig]
    exact hQ _ (hj3.up (by omega))
  rw [if_neg hbig]
  refine ⟨ps[i].ws, rfl, hwne, fun mn _ hmn => ⟨c11, ?_⟩⟩
  by_cases hsm : mn < 0 - 100000000000
  · rw [if_pos hsm]
    exact hQ _ (hj3.up (by omega))
  rw [if_neg hsm]
  have hw11 : ∀ x ∈ ps[i].ws, -100000000000 ≤ x ∧ x ≤ 100000000000 := fun x hx => by
    have := hmx x hx
    have := hmn x hx
    omega
  unfold k5_law_numbers_right
  and_intros
  have s1 : ∀ k, k ≤ 200000 → k ≤ sizeLine := fun k h => Nat.le_trans h (by decide)
  have hwl : ps[i].ws.length ≤ 4096 := by
    rw [hpi.len]
    exact Nat.le_trans (psz_le hS.pos hpi.rise hpi.lt) hS.prod
  have tl1 : (ps.take i).length ≤ 5 := Nat.le_trans (List.length_take_le _ _) (by omega)
  have tl2 : (ps.drop (i + 1)).length ≤ 5 := by rw [List.length_drop]; omega
  refine lc_map (keep := fun _ => True) D.int (fun x : Int => D.int (x + (c - 3))) True.intro ps[i].ws (s1 _ (by omega)) (fun x hx R hR => ?_) fun b => ?_
  · unfold e1_law_numbers_right
    and_intros
    exact hR
  and_intros
  rw [cut_headP, show ((i : Int) + 1) = ((i + 1 : Nat) : Int) from rfl, cut_tailP]
  have eM : (ps.take i).map dP ++ [D.tup [D.tup (nD ps[i].ns), D.tup (ps[i].ws.map fun x : Int => D.int (x + (c - 3)))]] ++ (ps.drop (i + 1)).map dP = (exch ps i (mapP (fun x => x + (c - 3)) ps[i])).map dP := by
    rw [← exch_map]
    show _ ++ [D.tup [_, D.tup _]] ++ _ = _ ++ [D.tup [_, D.tup (iD (ps[i].ws.map fun x => x + (c - 3)))]] ++ _
    unfold iD
    rw [List.map_map]
    rfl
  refine ⟨by decide, by decide, s1 _ (by rw [List.length_map]; omega), s1 _ (by rw [List.length_append, List.length_map, List.length_map]; show _ + 1 + _ ≤ _; omega), by decide, by decide, ?_⟩
  rw [eM]
  have hshE : ∀ h : Int → Int, (∀ x, -100000000000 ≤ x → x ≤ 100000000000 → (h x).natAbs < 2 ^ 41) → ShOk S (exch ps i (mapP h ps[i])) := fun h hh => sh_ok hS h0 (fun q hq => by
    rcases List.mem_append.1 hq with hq | hq
    · have := List.mem_of_mem_take hq
      exact ⟨hok q this, hb0 q this⟩
    · rcases List.mem_cons.1 hq with rfl | hq
      · exact ⟨mapP_ok _ hpi, fun y hy => by
          obtain ⟨x, hx, rfl⟩ := List.mem_map.1 hy
          have := hw11 x hx
          exact hh x this.1 this.2⟩
      · have := List.mem_of_mem_drop hq
        exact ⟨hok q this, hb0 q this⟩) (by
    unfold exch
    rw [List.length_append, List.length_cons, List.length_take, List.length_drop]
    omega)
  have hsh1 := hshE (fun x => x + (c - 3)) fun x h1 h2 => by
    rw [e41]
    omega
  have hml : ∀ w ∈ [Wd.most, Wd.least], w = .most ∨ w = .least := fun w hw => by
    rcases List.mem_cons.1 hw with rfl | hw
    · exact .inl rfl
    · exact .inr (List.mem_singleton.1 hw)
  refine lc_map (keep := fun _ => True) (fun w : Wd => D.str w.s) (fun w : Wd => D.int (gt w ((allF S).map (fw w S ps)) + (c - 3))) True.intro [Wd.most, Wd.least] (by decide) (fun w hw R hR => ?_) fun b2 => ?_
  · unfold e2_law_numbers_right
    and_intros
    refine ⟨w, S, _, rfl, hsh1, fun fin => ⟨.inl rfl, True.intro, ?_⟩⟩
    rw [whole_more hi (hml w hw) hS hok]
    and_intros
    exact hR
  and_intros
  refine ⟨by decide, ?_⟩
  refine lc_map (keep := fun _ => True) (fun w : Wd => D.str w.s) (fun w : Wd => D.int (gt w ((allF S).map (fw w S ps)) + (c - 3))) True.intro [Wd.most, Wd.least] (by decide) (fun w hw R hR => ?_) fun b3 => ?_
  · unfold e3_law_numbers_right
    and_intros
    refine ⟨w, S, ps, rfl, hsh, fun fin => ⟨.inl rfl, True.intro, ?_⟩⟩
    and_intros
    exact hR
  and_intros
  have hc : ∀ x y : Int, (D.lst [D.int x, D.int y]).cmp := fun x y => pi_cmp (k := 1) (by decide) rfl
  refine ⟨hc _ _, hc _ _, ?_⟩
  rw [if_neg (by rw [eqv_refl (hc _ _)]; decide)]
  refine lc_map (keep := fun _ => True) D.int (fun x : Int => D.int (x * (c - 3))) True.intro ps[i].ws (s1 _ (by omega)) (fun x hx R hR => ?_) fun b4 => ?_
  · unfold e4_law_numbers_right
    and_intros
    have hx11 := hw11 x hx
    exact ⟨cmul64 (by omega) (by omega) (by omega) (by omega), hR⟩
  and_intros
  rw [cut_headP, show ((i : Int) + 1) = ((i + 1 : Nat) : Int) from rfl, cut_tailP]
  have eN : (ps.take i).map dP ++ [D.tup [D.tup (nD ps[i].ns), D.tup (ps[i].ws.map fun x : Int => D.int (x * (c - 3)))]] ++ (ps.drop (i + 1)).map dP = (exch ps i (mapP (fun x => x * (c - 3)) ps[i])).map dP := by
    rw [← exch_map]
    show _ ++ [D.tup [_, D.tup _]] ++ _ = _ ++ [D.tup [_, D.tup (iD (ps[i].ws.map fun x => x * (c - 3)))]] ++ _
    unfold iD
    rw [List.map_map]
    rfl
  refine ⟨by decide, by decide, s1 _ (by rw [List.length_map]; omega), s1 _ (by rw [List.length_append, List.length_map, List.length_map]; show _ + 1 + _ ≤ _; omega), by decide, ?_⟩
  rw [eN]
  have hsh2 := hshE (fun x => x * (c - 3)) fun x h1 h2 => by
    rw [e41]
    rcases (show c = 0 ∨ c = 1 ∨ c = 2 ∨ c = 3 ∨ c = 4 ∨ c = 5 ∨ c = 6 by omega) with rfl | rfl | rfl | rfl | rfl | rfl | rfl <;> omega
  refine ⟨.sum, S, _, rfl, hsh2, fun fin => ⟨.inl rfl, True.intro, ?_⟩⟩
  and_intros
  refine ⟨.sum, S, ps, rfl, hsh, fun fin => ⟨.inl rfl, True.intro, ?_⟩⟩
  and_intros
  rw [whole_many hi hok]
  refine ⟨cmulN (a := 300) (b := 10) (whole_bd hS hok hb0 hpl) (by show (c - 3).natAbs < 1024; omega) (by decide), ?_⟩
  rw [beq_self_eq_true]
  exact hQ _ (hj3.up (by omega))
def k1_law : DTS :=
    (sIf (dNot (dTest (dCallJ sp_law_numbers_right 1 (dCons (dCallJ sp_law_sheet 1 (dCons (dC (.str (Str.ofString "sum"))) (dCons (dC (.int 6)) (dCons (dC (.int 48)) (dCons (dC (.int 5)) dNil))))) dNil)))) (sRet (dC (.bl false))) sNext)
def b2_law : DTS :=
    (sSeq (sIf (dNot (dTest (dCallJ sp_law_ones_right 1 (dCons (dCallJ sp_law_sheet 1 (dCons (dC (.str (Str.ofString "any"))) (dCons (dC (.int 6)) (dCons (dC (.int 48)) (dCons (dC (.int 5)) dNil))))) dNil)))) (sRet (dC (.bl false))) sNext)
    k1_law)
def k3_law : DTS :=
    (sRet (dC (.bl true)))
def k4_law : DTS :=
    (sSeq (sFor (dRange1 (dCons (dC (.int 3)) dNil)) (gSet 2) b2_law)
    k3_law)
def t_law : DTS :=
    (sSeq (sSet 1 (dCall sp_law_jar (dCons (dVar 0) dNil)))
    k4_law)
theorem m_law : Meets t_law 1 2 (lawSpec 63) := by
  rintro args Qd Xd ⟨ns, rfl, hlen, hQ⟩
  show t_law _ _ [_, .un, .un]
  unfold t_law
  and_intros
  refine ⟨ns, rfl, hlen, fun a ds fin hj => ⟨.inl rfl, True.intro, ?_⟩⟩
  and_intros
  generalize D.fz (List.map D.int ns) = d0
  unfold k4_law
  and_intros
  refine ⟨by show small62 ((3 : Nat) : Int); unfold small62; omega, ?_⟩
  rw [show (3 : Int) = ((3 : Nat) : Int) from rfl, rgD_nat]
  refine for_ind (fun i : Nat => D.int (i : Nat)) (fun is env => ∃ (m : Nat) (ds' : List D) (u2 : Sl), env = [.ext d0, .lst a ds', u2] ∧ JarOk m ds' ∧ m + is.length * 2000000 ≤ 6000000) ?_ ?_ (List.range 3) _ ⟨0, ds, _, rfl, hj, by decide⟩
  · rintro env ⟨m, ds', u2, rfl, hj', hm⟩
    refine ⟨True.intro, ?_⟩
    unfold k3_law
    and_intros
    exact hQ _
  · rintro i is env Nx ⟨m, ds', u2, rfl, hj', hm⟩ hN
    rw [List.length_cons] at hm
    refine ⟨True.intro, ?_⟩
    unfold b2_law
    and_intros
    refine ⟨m, a, ds', .any, 6, 48, 5, rfl, hj', by omega, by decide, by decide, by decide, by decide, by decide, fun S ps ds1 fin hS h0 h6 _ hps hpl _ hj1 => ?_⟩
    and_intros
    refine ⟨_, a, ds1, S, ps, rfl, hj1, by omega, hS, h0, h6, hps, hpl, fun ds2 hj2 => ?_⟩
    and_intros
    rw [if_neg (by decide)]
    unfold k1_law
    and_intros
    refine ⟨_, a, ds2, .sum, 6, 48, 5, rfl, hj2, by omega, by decide, by decide, by decide, by decide, by decide, fun S ps ds3 fin hS h0 h6 _ hps hpl _ hj3 => ?_⟩
    and_intros
    refine ⟨_, a, ds3, S, ps, rfl, hj3, by omega, hS, h0, h6, hps, hpl, fun ds4 hj4 => ?_⟩
    and_intros
    rw [if_neg (by decide)]
    exact hN _ ⟨_, ds4, _, rfl, hj4, by omega⟩
end K22
end LS
namespace HD
open PySem PySem.Spec PyProof.Rows L2
section
variable {P : Program} {w : World} {K : PySem.W.Frag} {mg : Str → Option Value} {base : Heap} {C : CXT} {k : Nat} {f : Addr} {fd : FuncData} {ps : List Str} {sp sp2 : Sp}
theorem FnG.weak (h : FnG P w K mg base C k f fd ps sp) (m : ∀ vs H Q E, sp2 vs H Q E → sp vs H Q E) : FnG P w K mg base C k f fd ps sp2 :=
  ⟨fun vs H Q E z => h.fit vs H Q E (m _ _ _ _ z), fun A out t H args us vs Q E gd room e0 bnd rel z => h.go A out t H args us vs Q E gd room e0 bnd rel (m _ _ _ _ z)⟩
theorem FnG.never (m : ∀ vs H Q E, sp2 vs H Q E → False) : FnG P w K mg base C k f fd ps sp2 :=
  ⟨fun vs H Q E z => (m _ _ _ _ z).elim, fun A out t H args us vs Q E gd room e0 bnd rel z => (m _ _ _ _ z).elim⟩
end
theorem toSp_weak {K : PySem.W.Frag} {n : Nat} {s1 s2 : DSpec} (m : ∀ ds Q X, s2 ds Q X → s1 ds Q X) (vs : List V) (H : Hp) (Q : VK) (E : XK) (h : toSp K n s2 vs H Q E) : toSp K n s1 vs H Q E := by
  obtain ⟨F, args, Qd, Xd, hl, hA, hs, hQ, hX⟩ := h
  exact ⟨F, args, Qd, Xd, hl, hA, m _ _ _ hs, hQ, hX⟩
theorem toSp_never {K : PySem.W.Frag} {n : Nat} {s2 : DSpec} (m : ∀ ds Q X, s2 ds Q X → False) (vs : List V) (H : Hp) (Q : VK) (E : XK) (h : toSp K n s2 vs H Q E) : False := by
  obtain ⟨F, args, Qd, Xd, hl, hA, hs, hQ, hX⟩ := h
  exact m _ _ _ hs
section
variable {G : GG} {N ps : List Str} {k m : Nat} {P f : Addr} {q x qual : Str} {st : Stmt} {fd : FuncData} {t : DTS} {spec : DSpec}
theorem fnT_any (hF : Fun G.K x qual st f fd) (S : FnScope N ps (defScope st)) (hb : TSs G N (fnS (defScope st)) k P q (fun _ => True) (defBody st) t) (hm : Meets t ps.length m spec) (hN : N.length = ps.length + m) :
    FnG G.P G.w G.K G.mg G.base (L2.CX G.P G.w) (k + 1) f fd ps (toSpT G.K P q ps.length spec) := by
  refine fnG_code hF S (fun vs H Q E h => ?_) (fun A outer s H vs Q E gd hr hsp => ?_)
  · obtain ⟨_, _, _, hl, _⟩ := h
    exact hl
  · obtain ⟨F0, args, Qd, hl, hA, hs, hQ⟩ := hsp
    obtain ⟨ts, p1, i1⟩ := hb.ex fun cls d _ H => False
    have al : args.length = vs.length := by
      have z := hA.h.len
      rw [List.length_map] at z
      exact z
    refine ⟨ts, p1 _ ?_ True.intro, ?_⟩
    · exact ⟨rfl, rfl, rfl, rfl, rfl, rfl, S.nd, rfl, rfl, hr, LamX.takes0, fun _ _ => rfl, passes_of rfl, fun _ => ⟨rfl, rfl⟩, gd⟩
    · have hh := start_holds N hA.h
      rw [← al] at hh
      have e : N.length - args.length = m := by omega
      rw [e] at hh
      refine i1 (entT P F0 H args) (exOf args fun _ _ => False) (fun c d env F' σ' H' hh' hx q => q) List.mem_cons_self _ F0 _ H (endsOf args Qd) _ (HT.of hh hA.t hA.n) (hm args Qd _ hs) ⟨fun env F' σ' H' hh' q => ?_, fun env F' σ' H' v r hh' q => hQ v H' F' r _ (hA.finals hh') q, fun _ _ _ _ _ z => z, fun _ _ _ _ _ z => z⟩
      exact hQ .non H' F' (.ext .non) _ (hA.finals (HT.of (hh'.h.pushE rfl) hh'.t hh'.n)) q
end
section
variable {G : GG} {q x : Str} {scope : Scope} {clo : List (Str × Addr)} {f c' : Addr} {k : Nat} {caps : List (Str × V)}
theorem ldef_lam {params : Arguments} {body : Expr} {spec : DSpec} {tb : DT} {dcs : List D} (B : LamB G.base q params body scope clo f c' caps)
    (hfree : ∀ y, scope.names.lookup y = some .free → ∃ a, clo.lookup y = some a) (h1 : scope.kind = .function) (h2 : scope.isCoroutine = false) (h3 : scope.isGenerator = false) (h4 : scope.names.lookup x = some .local) (h5 : ∀ y ∈ scope.names, y.2 ≠ .cell ∧ (y.2 = .local → y.1 = x))
    (hbind : ∀ (pm ctv : Value) (us : List Value), us.length = 1 → bindArgs (PySem.W.kla_fn "<lambda>" q params body scope clo pm (.ref c') ctv) ⟨us, []⟩ = pure ([x].zip us))
    (hnd : (x :: caps.map (·.1)).Nodup) (hdl : dcs.length = caps.length) (hdv : ∀ (F : Hp) (i : Nat) (d : D) (v : V), dcs[i]? = some d → (caps.map (·.2))[i]? = some v → Rep G.K F d v)
    (hb : DE G (x :: caps.map (·.1)) (lamS scope) k body tb) (h : ∀ d Qd Xd, spec [.ext d] Qd Xd → tb (exOf [.ext d] Xd) (.ext d :: dcs.map .ext) fun r env => r.plain ∧ Qd r [.ext d]) (hone : ∀ ds Q X, spec ds Q X → ∃ d, ds = [.ext d]) : LDef G (k + 1) f 1 spec := by
  obtain ⟨⟨pm, ctv, hf⟩, ⟨oc, cvs, tq, e1, e2, e3⟩, hC, hcell, inj⟩ := B
  have len : ∀ ds Q X, spec ds Q X → ds.length = 1 := fun ds Q X z => by
    obtain ⟨d, rfl⟩ := hone _ _ _ z
    rfl
  exact ⟨⟨_, [x], lam_ok hf e1 e2 e3 ⟨h1, h2, h3, h4, h5, hfree, inj⟩ hC hcell hnd hdl hdv hb h len hone, ⟨_, _, _, hf⟩, Binds.all fun us hl => hbind pm ctv us hl⟩, len⟩
end
theorem tss_one {G : GG} {N : List Str} {sc : SC} {k : Nat} {P : Addr} {q : Str} {C : Cx → Prop} {st : Stmt} {t : DTS} (h1 : TS1 G N sc k P q C st t) : TSs G N sc k P q C [st] t := ⟨fun W => by
  obtain ⟨ts, p1, i1⟩ := h1.ex W
  exact ⟨ts, fun X S c => pss_one (p1 X S c), i1⟩⟩
theorem blt_base {G : GG} (B : Blt G) (base : Heap) : Blt ⟨G.P, G.w, G.K, G.mg, base⟩ := by
  cases B
  constructor <;> assumption
theorem all0 {R : Str → Nat → Prop} : ∀ (n : Nat) (w : Str) (j : Nat), ([] : List Str)[n]? = some w → ([] : List Nat)[n]? = some j → R w j := fun n w j h => by simp at h
theorem all1 {R : Str → Nat → Prop} {y : Str} {i : Nat} (h : R y i) : ∀ (n : Nat) (w : Str) (j : Nat), [y][n]? = some w → [i][n]? = some j → R w j
  | 0, w, j, h1, h2 => by
    cases h1
    cases h2
    exact h
  | n + 1, w, j, h1, _ => by simp at h1
end HD
namespace LS
open PySem L2 HD PM
namespace K22
local macro_rules | `(tactic| and_intros) => `(tactic| try simp -dsimp only [↓sIf, ↓sRet, ↓retD_ext, ↓retD_lst, ↓retD_al, ↓sSet, ↓sSetE, ↓sAsg, ↓sDrop, ↓sNext, ↓sFor, ↓sRetN, ↓sCont, ↓sBreak, ↓dTest, ↓dOp, ↓dC, ↓dCons, ↓dNil, ↓dTup, ↓dLst, ↓frzDs, ↓frzD_ext, ↓frzD_lst, ↓frzD_al, ↓wd_ext, ↓wd_lst, ↓wd_al, ↓wds, ↓AtS_ext, ↓AtS_lst, ↓AtL, ↓fAdd, ↓fSub, ↓fMul, ↓fDiv, ↓fMod, ↓fPow, ↓fCmp, ↓fIn, ↓fEq_ii, ↓fEq_ss, ↓fEq_bb, ↓fEq_tt, ↓fEq_ll, ↓fNe_ii, ↓fNe_ss, ↓fNe_bb, ↓fNe_tt, ↓fNe_ll, ↓fIx_l, ↓fIx_t, ↓fIx_k, ↓fIx_f, ↓GetS_some, ↓NatS_some, ↓fSl, ↓fIsN, ↓fNotN, ↓D.knN, ↓dNot, ↓dAnd, ↓dOr, ↓dAndV_w, ↓dOrV_w, ↓dNotV, ↓dIf, ↓dNeg, ↓dChain_w, ↓BlS_bl, ↓dCall_w, ↓dCallJ_w, ↓anyAl, ↓frozs, ↓froz, ↓gSet, ↓gTupD, ↓gsCons, ↓gsNil, ↓dSeq, ↓seqD_tup, ↓seqD_elst, ↓seqD_lst, ↓seqD_al, ↓dRange1, ↓dRange2, ↓dZip, ↓dCB, ↓dLc, ↓dYes, ↓dNoPart, ↓dPart, ↓dSl, ↓fLen, ↓fMin, ↓fMax, ↓fSum, ↓fAll, ↓fAny, ↓fSorted, ↓fTuple, ↓fList, ↓dRg1, ↓dRg2, ↓dLstRg, ↓dTupRg, ↓dIndex, ↓fIdx, ↓dAppend_w, ↓dExtend_w, ↓extD_lst, ↓dPopAt_w, ↓popD_int, ↓dPop_w, ↓mutD_w, ↓sSetItem_w, ↓setD_int, ↓dSortSet, ↓dTable_w, ↓wipeE, finals1, finals2, finals3, finals4, finals5, finals6, fin1_ext, fin1_lst, List.getElem?_cons_zero, List.getElem?_cons_succ, List.getElem?_nil, List.set_cons_zero, List.set_cons_succ, List.cons_append, List.nil_append, List.append_nil, List.replicate_succ, List.replicate_zero, List.map_cons, List.map_nil, List.length_cons, List.length_nil, true_and, and_true, ite_true, ite_false, if_true, if_false, Bool.false_eq_true, decide_eq_true_eq, Sl.plain, D.isSq, eq_self_iff_true, forall_const, reduceIte, true_or, or_true, atI_0, atI_1, atI_2, atI_3, ixN_0, ixN_1, ixN_2, AtS_ext, AtS_lst, FzS_lst, FzS_ext, GetS_some, NatS_some, ↓fIsi1, ↓fIsi2, BoolS_some, HD.kb_non_tuple, HD.kb_non_list, HD.kb_non_bool, HD.kb_non_int, HD.kb_non_str, HD.kb_bl_tuple, HD.kb_bl_list, HD.kb_bl_bool, HD.kb_bl_int, HD.kb_bl_str, HD.kb_int_tuple, HD.kb_int_list, HD.kb_int_bool, HD.kb_int_int, HD.kb_int_str, HD.kb_str_tuple, HD.kb_str_list, HD.kb_str_bool, HD.kb_str_int, HD.kb_str_str, HD.kb_lst_tuple, HD.kb_lst_list, HD.kb_lst_bool, HD.kb_lst_int, HD.kb_lst_str, HD.kb_tup_tuple, HD.kb_tup_list, HD.kb_tup_bool, HD.kb_tup_int, HD.kb_tup_str, ↓sFz_w, ↓FzS_lst, ↓FzS_ext, ↓dSortSetL, ↓fAbs, ↓fInt, ↓fRepr, ↓fLtT, ↓sRaise, ↓sTryKeep, ↓dCallV_w, ↓dMeth, ↓fCount, ↓fSplit, ↓seq_setE, ↓seq_set, ↓seq_drop, ↓seq_asg, ↓seq_if, ↓seq_for, ↓dStep, ↓fStep, ↓fMulT, ↓fIsB, ↓fNotB, ↓sPar, ↓dEnum, ↓dListZip, ↓dNest, ↓sSeal, ↓dNApp, ↓retD_reg, ↓dLenSet, ↓fSum2, ↓seq_putD, ↓seq_sealD, ↓dDIn, ↓dDGet, ↓sPutD, ↓dDNew, ↓dDOne, ↓sSealD, ↓dKeys, ↓keyS_dk, ↓dExtT, ↓fSortT, ↓fMinP, ↓dRemove, ↓dDInT, ↓dDGetT, ↓sPutDT, ↓dDNewT, ↓sSealDT, ↓dKeysT, ↓keyST_dt, ↓fSortK, ↓seq_putDT, ↓seq_sealDT, ↓dVarR_w, ↓dAttr, ↓dAppR, ↓dExtR_w, ↓dExtTR_w, ↓dClrR, ↓dPopR_w, ↓dIxR_w, ↓dDGetR, ↓dDInR, ↓dGet2R, ↓dPop1R, ↓dPop2R, ↓dDGetTR, ↓dDInTR, ↓dPop1TR, ↓dCallM, ↓dMethO, ↓dMake, ↓dMoveR, ↓dPtr, ↓sAttr, ↓sSetR, ↓sPutR, ↓sPutTR, ↓sSetA_w, ↓sSetG_w, ↓seq_setG, ↓seq_setA, ↓seq_attr, ↓seq_setR, ↓seq_putR, ↓seq_putTR, ↓RegS_reg, ↓CellS_some, ↓RefS_reg, ↓RefS_ar, ↓cellS_ar, ↓wd_ar, ↓seqD_ar, ↓lstO_lst, ↓insO_ins, ↓dkO_dk, ↓dkO_lk, ↓dtO_dt, ↓dtO_lk, ↓dkW_dk, ↓dtW_dt, ↓stoS_ext, ↓stoS_reg, ↓stoS_lstT, ↓stoS_lstF, ↓stoS_al, ↓ptrD_ref, ↓ptrD_int, ↓ptrD_str, ↓ptrD_bl, ↓ptrD_non, ↓ptrD_tup, ↓ptrD_tk, ↓ptrD_lst, ↓ptrD_fz, ↓setGS_lst, ↓setGS_reg, ↓setAS_ar, ↓setAS_ext, ↓intS_int, ↓tupS_tup, ↓lstS_lst, ↓lstK, ↓dkK, ↓dtK, ↓retD_reg, ↓dSortSetB, ↓fSortD, ↓dCallD, ↓regC_reg, ↓dMoveL, ↓dMoveR_w, ↓dDictP, ↓froz_lst, ↓froz_ext, ↓dUpdTR, ↓dUpdKR, ↓dDictZipK, ↓dDictC, ↓dClear, ↓fStr, ↓dListItems, ↓dLenK, ↓dSortKI, ↓dInC, ↓fMinT, ↓fMaxT, ↓dv0, ↓dw0, ↓dv1, ↓dw1, ↓dv2, ↓dw2, ↓dv3, ↓dw3, ↓dv4, ↓dw4, ↓dv5, ↓dw5, ↓dv6, ↓dw6, ↓dv7, ↓dw7, ↓dv8, ↓dw8, ↓dv9, ↓dw9, ↓dv10, ↓dw10, ↓dv11, ↓dw11, ↓dv12, ↓dw12, ↓dv13, ↓dw13, ↓dv14, ↓dw14, ↓dv15, ↓dw15, ↓dv16, ↓dw16, ↓dv17, ↓dw17, ↓dv18, ↓dw18, ↓dv19, ↓dw19])
def t_neg : DT := (dOp fSub (dC (.int 0)) (dVar 0))
def t_bar : DT := (dCB fInt (dCons (dOp (fCmp fun i j => decide (j ≤ i)) (dVar 0) (dVar 1)) dNil))
theorem r_neg (d : D) (Qd : Sl → List Sl → Prop) (Xd : Str → List Sl → Prop) (h : sp_lam (fun x => 0 - x) [.ext d] Qd Xd) : t_neg (exOf [.ext d] Xd) (.ext d :: ([] : List D).map .ext) fun r env => r.plain ∧ Qd r [.ext d] := by
  obtain ⟨x, e, hQ⟩ := h
  cases e
  show t_neg _ [_] _
  unfold t_neg
  and_intros
  exact hQ _
theorem r_bar (b : Int) (d : D) (Qd : Sl → List Sl → Prop) (Xd : Str → List Sl → Prop) (h : sp_lam (barF b) [.ext d] Qd Xd) : t_bar (exOf [.ext d] Xd) (.ext d :: [D.int b].map .ext) fun r env => r.plain ∧ Qd r [.ext d] := by
  obtain ⟨x, e, hQ⟩ := h
  cases e
  show t_bar _ [_, _] _
  unfold t_bar
  and_intros
  exact hQ _
theorem one_lam (φ : Int → Int) (ds : List Sl) (Q : Sl → List Sl → Prop) (X : Str → List Sl → Prop) (h : sp_lam φ ds Q X) : ∃ d, ds = [.ext d] := by
  obtain ⟨x, rfl, _⟩ := h
  exact ⟨_, rfl⟩
end K22
end LS
namespace LS.K22.E
open PySem L2 HD PM
open K02 (t_law_sheet m_law_sheet sp_law_sheet)
abbrev N_unit : List Str := ["word"]
abbrev P_unit : List Str := ["word"]
theorem sc_unit : FnScope N_unit P_unit (defScope s_unit) := ⟨rfl, rfl, rfl, by decide +kernel, rfl, by decide +kernel, by decide +kernel⟩
theorem d_unit {G : GG} (B : Blt G) (k_ROOF : ∃ t, G.mg "ROOF" = some (.int 1000000000000000000000000000000 t)) : DSs G N_unit (fnS (defScope s_unit)) 0 (defBody s_unit) t_unit :=
    (dss_cons (ds_if (dt_cmp c_in (de_var 0) (de_tup (da_cons de_str (da_cons de_str da_nil)))) (dss_one (ds_ret de_int)) dss_nil)
    (dss_one (ds_ret (de_if (dt_cmp c_eq (de_var 0) de_str) (de_gint k_ROOF) de_int))))
abbrev N_join : List Str := ["word", "one", "other"]
abbrev P_join : List Str := ["word", "one", "other"]
theorem sc_join : FnScope N_join P_join (defScope s_join) := ⟨rfl, rfl, rfl, by decide +kernel, rfl, by decide +kernel, by decide +kernel⟩
theorem d_join {G : GG} (B : Blt G) : DSs G N_join (fnS (defScope s_join)) 0 (defBody s_join) t_join :=
    (dss_cons (ds_if (dt_cmp c_eq (de_var 0) de_str) (dss_one (ds_ret (de_mul (de_var 1) (de_var 2)))) dss_nil)
    (dss_cons (ds_if (dt_cmp c_in (de_var 0) (de_tup (da_cons de_str (da_cons de_str da_nil)))) (dss_one (ds_ret (de_add (de_var 1) (de_var 2)))) dss_nil)
    (dss_one (ds_ret (de_cb b_min B.min (da_cons (de_var 1) (da_cons (de_var 2) da_nil)))))))
abbrev N_gather : List Str := ["word", "numbers"]
abbrev P_gather : List Str := ["word", "numbers"]
theorem sc_gather : FnScope N_gather P_gather (defScope s_gather) := ⟨rfl, rfl, rfl, by decide +kernel, rfl, by decide +kernel, by decide +kernel⟩
theorem d_gather {G : GG} (B : Blt G) : DSs G N_gather (fnS (defScope s_gather)) 0 (defBody s_gather) t_gather :=
    (dss_cons (ds_if (dt_cmp c_eq (de_var 0) de_str) (dss_one (ds_ret (de_cb b_sum B.sum (da_cons (de_var 1) da_nil)))) dss_nil)
    (dss_one (ds_ret (de_if (dt_cmp c_eq (de_var 0) de_str) (de_cb b_min B.min (da_cons (de_var 1) da_nil)) (de_cb b_max B.max (da_cons (de_var 1) da_nil))))))
abbrev N_is_whole : List Str := ["thing"]
abbrev P_is_whole : List Str := ["thing"]
theorem sc_is_whole : FnScope N_is_whole P_is_whole (defScope s_is_whole) := ⟨rfl, rfl, rfl, by decide +kernel, rfl, by decide +kernel, by decide +kernel⟩
theorem d_is_whole {G : GG} (B : Blt G) : DSs G N_is_whole (fnS (defScope s_is_whole)) 0 (defBody s_is_whole) t_is_whole :=
    (dss_one (ds_ret (de_and (de_cb b_isi B.isinstance (da_cons (de_var 0) (da_cons (de_bltn (v := .ty "int") rfl B.int (by decide +kernel) rfl) da_nil))) (de_one (de_not (de_cb b_isi B.isinstance (da_cons (de_var 0) (da_cons (de_bltn (v := .ty "bool") rfl B.bool (by decide +kernel) rfl) da_nil))))))))
abbrev N_fillings_of : List Str := ["sizes", "names", "found", "name", "longer", "some", "worth"]
abbrev P_fillings_of : List Str := ["sizes", "names"]
theorem sc_fillings_of : FnScope N_fillings_of P_fillings_of (defScope s_fillings_of) := ⟨rfl, rfl, rfl, by decide +kernel, rfl, by decide +kernel, by decide +kernel⟩
theorem d_fillings_of {G : GG} (B : Blt G) : DSs G N_fillings_of (fnS (defScope s_fillings_of)) 0 (defBody s_fillings_of) t_fillings_of :=
    (dss_cons (ds_setE 2 (de_lst (da_cons (de_tup da_nil) da_nil)))
    (dss_cons (ds_for (di_seq (de_var 1)) (dg_name 3) (dss_cons (ds_set 4 (de_lst da_nil))
    (dss_cons (ds_for (di_seq (de_var 2)) (dg_name 5) (dss_one (ds_expr (de_extend 4 (de_lc [(Str.ofString "worth", 6)] (di_range1 (da_cons (de_ix (de_var 0) (de_var 3)) da_nil) B.range) (by decide +kernel) (dg_name 6) dtl_nil (de_add (de_var 5) (de_tup (da_cons (de_var 6) da_nil))))))))
    (dss_one (ds_setE 2 (de_var 4))))))
    (dss_one (ds_ret (de_var 2)))))
abbrev N_place_of : List Str := ["sizes", "names", "worths", "found", "name", "worth"]
abbrev P_place_of : List Str := ["sizes", "names", "worths"]
theorem sc_place_of : FnScope N_place_of P_place_of (defScope s_place_of) := ⟨rfl, rfl, rfl, by decide +kernel, rfl, by decide +kernel, by decide +kernel⟩
theorem d_place_of {G : GG} (B : Blt G) : DSs G N_place_of (fnS (defScope s_place_of)) 0 (defBody s_place_of) t_place_of :=
    (dss_cons (ds_setE 3 de_int)
    (dss_cons (ds_for (di_zip (de_var 1) (de_var 2) B.zip) (dg_tup (dgs_cons (dg_name 4) (dgs_cons (dg_name 5) dgs_nil))) (dss_one (ds_setE 3 (de_add (de_mul (de_var 3) (de_ix (de_var 0) (de_var 4))) (de_var 5)))))
    (dss_one (ds_ret (de_var 3)))))
abbrev N_law_jar : List Str := ["script"]
abbrev P_law_jar : List Str := ["script"]
theorem sc_law_jar : FnScope N_law_jar P_law_jar (defScope s_law_jar) := ⟨rfl, rfl, rfl, by decide +kernel, rfl, by decide +kernel, by decide +kernel⟩
theorem d_law_jar {G : GG} (B : Blt G) : DSs G N_law_jar (fnS (defScope s_law_jar)) 0 (defBody s_law_jar) t_law_jar :=
    (dss_one (ds_ret (de_lst (da_cons (de_ct t_list B.list (da_cons (de_slice (de_var 0) do_none (do_some de_int)) da_nil)) (da_cons de_int (da_cons de_int da_nil))))))
abbrev N_law_prime : List Str := ["at", "some"]
abbrev P_law_prime : List Str := ["at"]
theorem sc_law_prime : FnScope N_law_prime P_law_prime (defScope s_law_prime) := ⟨rfl, rfl, rfl, by decide +kernel, rfl, by decide +kernel, by decide +kernel⟩
theorem d_law_prime {G : GG} (B : Blt G) : DSs G N_law_prime (fnS (defScope s_law_prime)) 0 (defBody s_law_prime) t_law_prime :=
    (dss_cons (ds_setE 1 (de_lst (da_cons de_int (da_cons de_int (da_cons de_int (da_cons de_int (da_cons de_int (da_cons de_int (da_cons de_int (da_cons de_int da_nil))))))))))
    (dss_one (ds_ret (de_ix (de_add (de_var 1) (de_lst (da_cons de_int (da_cons de_int (da_cons de_int da_nil))))) (de_mod (de_var 0) de_int)))))
abbrev N_law_times : List Str := ["numbers", "found", "number"]
abbrev P_law_times : List Str := ["numbers"]
theorem sc_law_times : FnScope N_law_times P_law_times (defScope s_law_times) := ⟨rfl, rfl, rfl, by decide +kernel, rfl, by decide +kernel, by decide +kernel⟩
theorem d_law_times {G : GG} (B : Blt G) : DSs G N_law_times (fnS (defScope s_law_times)) 0 (defBody s_law_times) t_law_times :=
    (dss_cons (ds_setE 1 de_int)
    (dss_cons (ds_for (di_seq (de_var 0)) (dg_name 2) (dss_one (ds_setE 1 (de_mul (de_var 1) (de_var 2)))))
    (dss_one (ds_ret (de_var 1)))))
abbrev N_law_turned : List Str := ["sheet", "act", "sizes", "parts", "names", "worths", "worth"]
abbrev P_law_turned : List Str := ["sheet", "act"]
theorem sc_law_turned : FnScope N_law_turned P_law_turned (defScope s_law_turned) := ⟨rfl, rfl, rfl, by decide +kernel, rfl, by decide +kernel, by decide +kernel⟩
theorem d_law_turned {G : GG} (B : Blt G) {f : Addr} {φ : Int → Int} (L : LDef G 1 f 1 (sp_lam φ)) : DSs G N_law_turned (fnS (defScope s_law_turned)) 1 (defBody s_law_turned) (t_turned f φ) :=
    (dss_cons (ds_asg (de_var 0) (dg_tup (dgs_cons (dg_name 2) (dgs_cons (dg_name 3) dgs_nil))))
    (dss_one (ds_ret (de_tup (da_cons (de_var 2) (da_cons (de_ct t_tuple B.tuple (da_cons (de_lc [(Str.ofString "names", 4), (Str.ofString "worths", 5)] (di_seq (de_var 3)) (by decide +kernel) (dg_tup (dgs_cons (dg_name 4) (dgs_cons (dg_name 5) dgs_nil))) dtl_nil (de_tup (da_cons (de_var 4) (da_cons (de_ct t_tuple B.tuple (da_cons (de_lc [(Str.ofString "worth", 6)] (di_seq (de_var 5)) (by decide +kernel) (dg_name 6) dtl_nil (de_callL 1 L (da_cons (de_var 6) da_nil))) da_nil)) da_nil)))) da_nil)) da_nil))))))
theorem fn_turned {G : GG} (B : Blt G) {fg : Addr} {fd : FuncData} (F : FnD G.K "_law_turned" s_law_turned fg fd) {f : Addr} {φ : Int → Int} (L : LDef G 1 f 1 (sp_lam φ)) : FnG G.P G.w G.K G.mg G.base (L2.CX G.P G.w) 2 fg fd P_law_turned (toSp G.K 2 (sp_turned f φ)) := by
  refine fn_ok (He5.fun_of F) sc_law_turned (d_law_turned B L) fun args Qd Xd h hl => ?_
  have e : N_law_turned.length - args.length = 5 := by
    have z : args.length = 2 := hl
    rw [z] <;> rfl
  rw [e]
  exact m_turned f φ args Qd Xd h
section
variable {G : GG} {fg : Addr} {fd : FuncData} {q x : Str} {params : Arguments} {body : Expr} {scope : Scope} {f c' : Addr} {base' : Heap} {clo : List (Str × Addr)} {cv : List V}
theorem fn_neg (B : Blt G) (F : FnD G.K "_law_turned" s_law_turned fg fd) (x : Str) (hl : cv.length = ([] : List Str).length) (hB : LamB base' q params body scope clo f c' (([] : List Str).zip cv)) (hfree : ∀ y, scope.names.lookup y = some .free → ∃ a, clo.lookup y = some a)
    (hb : DE ⟨G.P, G.w, G.K, G.mg, base'⟩ [x] (lamS scope) 0 body t_neg) (h1 : scope.kind = .function) (h2 : scope.isCoroutine = false) (h3 : scope.isGenerator = false) (h4 : scope.names.lookup x = some .local) (h5 : ∀ y ∈ scope.names, y.2 ≠ .cell ∧ (y.2 = .local → y.1 = x))
    (hbind : ∀ (pm ctv : Value) (us : List Value), us.length = 1 → bindArgs (PySem.W.kla_fn "<lambda>" q params body scope clo pm (.ref c') ctv) ⟨us, []⟩ = pure ([x].zip us)) : FnG G.P G.w G.K G.mg base' (L2.CX G.P G.w) 2 fg fd P_law_turned (toSp G.K 2 (spV spN f cv)) := by
  have hB : LamB base' q params body scope clo f c' [] := hB
  have L : LDef ⟨G.P, G.w, G.K, G.mg, base'⟩ 1 f 1 (sp_lam fun x => 0 - x) := ldef_lam (caps := []) (dcs := []) hB hfree h1 h2 h3 h4 h5 hbind (by simp) rfl (fun F i d v h => by simp at h) hb r_neg (one_lam _)
  exact (fn_turned (blt_base B base') F L).weak (toSp_weak fun ds Q X ⟨bs, hbs, h⟩ => h)
theorem fn_bar (B : Blt G) (F : FnD G.K "_law_turned" s_law_turned fg fd) (x y : Str) (hl : cv.length = [y].length) (hB : LamB base' q params body scope clo f c' ([y].zip cv)) (hfree : ∀ y, scope.names.lookup y = some .free → ∃ a, clo.lookup y = some a) (hxy : x ≠ y)
    (hb : DE ⟨G.P, G.w, G.K, G.mg, base'⟩ [x, y] (lamS scope) 0 body t_bar) (h1 : scope.kind = .function) (h2 : scope.isCoroutine = false) (h3 : scope.isGenerator = false) (h4 : scope.names.lookup x = some .local) (h5 : ∀ y ∈ scope.names, y.2 ≠ .cell ∧ (y.2 = .local → y.1 = x))
    (hbind : ∀ (pm ctv : Value) (us : List Value), us.length = 1 → bindArgs (PySem.W.kla_fn "<lambda>" q params body scope clo pm (.ref c') ctv) ⟨us, []⟩ = pure ([x].zip us)) : FnG G.P G.w G.K G.mg base' (L2.CX G.P G.w) 2 fg fd P_law_turned (toSp G.K 2 (spV spB f cv)) := by
  cases cv with
  | nil => cases hl
  | cons v vs =>
    cases vs with
    | cons _ _ => cases hl
    | nil =>
      have hB : LamB base' q params body scope clo f c' [(y, v)] := hB
      by_cases hv : ∃ b, v = V.int b
      · obtain ⟨b, rfl⟩ := hv
        have L : LDef ⟨G.P, G.w, G.K, G.mg, base'⟩ 1 f 1 (sp_lam (barF b)) := ldef_lam (caps := [(y, .int b)]) (dcs := [.int b]) hB hfree h1 h2 h3 h4 h5 hbind (by simp [hxy]) rfl (fun F i d v h1 h2 => by
          cases i with
          | zero =>
            cases h1
            cases h2
            rfl
          | succ i => simp at h1) hb (r_bar b) (one_lam _)
        refine (fn_turned (blt_base B base') F L).weak (toSp_weak fun ds Q X ⟨bs, hbs, h⟩ => ?_)
        cases bs with
        | nil => cases hbs
        | cons b2 bs =>
          have hbs := (List.cons.inj hbs).1
          cases hbs
          exact h
      · refine FnG.never fun vs H Q E h => toSp_never (fun ds Q X ⟨bs, hbs, h⟩ => ?_) vs H Q E h
        cases bs with
        | nil => cases hbs
        | cons b2 bs => exact hv ⟨b2, (List.cons.inj hbs).1⟩
end
abbrev N_are_names : List Str := ["many", "thing", "one", "k"]
abbrev P_are_names : List Str := ["many", "thing"]
theorem sc_are_names : FnScope N_are_names P_are_names (defScope s_are_names) := ⟨rfl, rfl, rfl, by decide +kernel, rfl, by decide +kernel, by decide +kernel⟩
theorem d_are_names {G : GG} (B : Blt G) (h_is_whole : Def G 1 "is_whole" 1 sp_is_whole) : DSs G N_are_names (fnS (defScope s_are_names)) 1 (defBody s_are_names) t_are_names :=
    (dss_cons (ds_if (DWe.te (dw_or (dt_not (dt_val (de_cb b_isi B.isinstance (da_cons (de_var 1) (da_cons (de_bltn (v := .ty "tuple") rfl B.tuple (by decide +kernel) rfl) da_nil))))) (dw_or1 (dt_not (dt_val (de_cb b_all B.all (da_cons (de_lc [(Str.ofString "one", 2)] (di_seq (de_var 1)) (by decide +kernel) (dg_name 2) dtl_nil (de_and (de_call h_is_whole (da_cons (de_var 2) da_nil)) (de_one (de_chain c_le c_lt de_int (de_var 2) (de_var 0))))) da_nil))))))) (dss_one (ds_ret de_bl)) dss_nil)
    (dss_one (ds_ret (de_cb b_all B.all (da_cons (de_lc [(Str.ofString "k", 3)] (di_range2 (da_cons de_int (da_cons (de_cb b_len B.len (da_cons (de_var 1) da_nil)) da_nil)) B.range) (by decide +kernel) (dg_name 3) dtl_nil (de_cmp c_lt (de_ix (de_var 1) (de_sub (de_var 3) de_int)) (de_ix (de_var 1) (de_var 3)))) da_nil)))))
abbrev N_worth_at : List Str := ["sizes", "part", "filling", "names", "worths", "name"]
abbrev P_worth_at : List Str := ["sizes", "part", "filling"]
theorem sc_worth_at : FnScope N_worth_at P_worth_at (defScope s_worth_at) := ⟨rfl, rfl, rfl, by decide +kernel, rfl, by decide +kernel, by decide +kernel⟩
theorem d_worth_at {G : GG} (B : Blt G) (h_place_of : Def G 1 "place_of" 3 sp_place_of) : DSs G N_worth_at (fnS (defScope s_worth_at)) 1 (defBody s_worth_at) t_worth_at :=
    (dss_cons (ds_asg (de_var 1) (dg_tup (dgs_cons (dg_name 3) (dgs_cons (dg_name 4) dgs_nil))))
    (dss_one (ds_ret (de_ix (de_var 4) (de_call h_place_of (da_cons (de_var 0) (da_cons (de_var 3) (da_cons (de_lc [(Str.ofString "name", 5)] (di_seq (de_var 3)) (by decide +kernel) (dg_name 5) dtl_nil (de_ix (de_var 2) (de_var 5))) da_nil))))))))
abbrev N_all_fillings : List Str := ["sheet"]
abbrev P_all_fillings : List Str := ["sheet"]
theorem sc_all_fillings : FnScope N_all_fillings P_all_fillings (defScope s_all_fillings) := ⟨rfl, rfl, rfl, by decide +kernel, rfl, by decide +kernel, by decide +kernel⟩
theorem d_all_fillings {G : GG} (B : Blt G) (h_fillings_of : Def G 1 "fillings_of" 2 sp_fillings_of) : DSs G N_all_fillings (fnS (defScope s_all_fillings)) 1 (defBody s_all_fillings) t_all_fillings :=
    (dss_one (ds_ret (de_call h_fillings_of (da_cons (de_ix (de_var 0) de_int) (da_cons (de_listRg (drg_1 (de_cb b_len B.len (da_cons (de_ix (de_var 0) de_int) da_nil)) B.range) B.list) da_nil)))))
abbrev N_law_dip : List Str := ["jar", "many", "at", "cell", "one", "two", "three", "found"]
abbrev P_law_dip : List Str := ["jar", "many"]
theorem sc_law_dip : FnScope N_law_dip P_law_dip (defScope s_law_dip) := ⟨rfl, rfl, rfl, by decide +kernel, rfl, by decide +kernel, by decide +kernel⟩
theorem d_law_dip {G : GG} (B : Blt G) (h_law_prime : Def G 1 "_law_prime" 1 sp_law_prime) : DSs G N_law_dip (fnS (defScope s_law_dip)) 1 (defBody s_law_dip) t_law_dip :=
    (dss_cons (ds_if (dt_cmp c_lt (de_ix (de_var 0) de_int) (de_var 1)) (dss_cons (ds_setE 2 (de_ix (de_var 0) de_int))
    (dss_cons (ds_setitem 0 de_int (de_add (de_var 2) de_int))
    (dss_cons (ds_setE 3 (de_add (de_mul de_int (de_var 2)) de_int))
    (dss_cons (ds_if (dt_cmp c_gt (de_cb b_len B.len (da_cons (de_ix (de_var 0) de_int) da_nil)) de_int) (dss_one (ds_setE 3 (de_ix (de_ix (de_var 0) de_int) (de_mod (de_var 2) (de_cb b_len B.len (da_cons (de_ix (de_var 0) de_int) da_nil)))))) dss_nil)
    (dss_cons (ds_setitem 0 de_int (de_var 3))
    (dss_one (ds_if (DWe.te (dw_or (dt_cmp c_lt (de_var 3) (de_pow de_int de_int)) (dw_or1 (dt_cmp c_ge (de_var 2) (de_cb b_len B.len (da_cons (de_ix (de_var 0) de_int) da_nil)))))) (dss_cons (ds_setE 4 (de_mod (de_pow (de_add (de_add (de_mul (de_mod (de_var 3) de_int) (de_add (de_var 2) de_int)) (de_mul de_int (de_var 2))) de_int) de_int) (de_call h_law_prime (da_cons (de_var 2) da_nil))))
    (dss_cons (ds_setE 5 (de_mod (de_pow (de_add (de_add (de_mul (de_var 4) (de_add (de_var 2) de_int)) (de_mod (de_var 3) de_int)) de_int) de_int) (de_call h_law_prime (da_cons (de_add (de_var 2) de_int) da_nil))))
    (dss_cons (ds_setE 6 (de_mod (de_add (de_mul (de_var 5) (de_var 5)) (de_var 4)) (de_call h_law_prime (da_cons (de_add (de_var 2) de_int) da_nil))))
    (dss_one (ds_setitem 0 de_int (de_add (de_mul (de_add (de_mul (de_var 6) de_int) (de_var 5)) de_int) (de_var 4))))))) dss_nil))))))) dss_nil)
    (dss_cons (ds_setE 7 (de_mod (de_ix (de_var 0) de_int) (de_var 1)))
    (dss_cons (ds_setitem 0 de_int (de_div (de_ix (de_var 0) de_int) (de_var 1)))
    (dss_one (ds_ret (de_var 7))))))
abbrev N_need_names : List Str := ["many", "thing"]
abbrev P_need_names : List Str := ["many", "thing"]
theorem sc_need_names : FnScope N_need_names P_need_names (defScope s_need_names) := ⟨rfl, rfl, rfl, by decide +kernel, rfl, by decide +kernel, by decide +kernel⟩
theorem d_need_names {G : GG} (B : Blt G) (h_are_names : Def G 2 "are_names" 2 sp_are_names) (x_NoName : XOk G "NoName") : DSs G N_need_names (fnS (defScope s_need_names)) 2 (defBody s_need_names) t_need_names :=
    (dss_one (ds_if (dt_not (dt_val (de_call h_are_names (da_cons (de_var 0) (da_cons (de_var 1) da_nil))))) (dss_one (ds_raise x_NoName)) dss_nil))
abbrev N_joined_at : List Str := ["word", "sheet", "filling", "found", "part"]
abbrev P_joined_at : List Str := ["word", "sheet", "filling"]
theorem sc_joined_at : FnScope N_joined_at P_joined_at (defScope s_joined_at) := ⟨rfl, rfl, rfl, by decide +kernel, rfl, by decide +kernel, by decide +kernel⟩
theorem d_joined_at {G : GG} (B : Blt G) (h_join : Def G 1 "join" 3 sp_join) (h_unit : Def G 1 "unit" 1 sp_unit) (h_worth_at : Def G 2 "worth_at" 3 sp_worth_at) : DSs G N_joined_at (fnS (defScope s_joined_at)) 2 (defBody s_joined_at) t_joined_at :=
    (dss_cons (ds_setE 3 (de_call h_unit (da_cons (de_var 0) da_nil)))
    (dss_cons (ds_for (di_seq (de_ix (de_var 1) de_int)) (dg_name 4) (dss_one (ds_setE 3 (de_call h_join (da_cons (de_var 0) (da_cons (de_var 3) (da_cons (de_call h_worth_at (da_cons (de_ix (de_var 1) de_int) (da_cons (de_var 4) (da_cons (de_var 2) da_nil)))) da_nil)))))))
    (dss_one (ds_ret (de_var 3)))))
abbrev N_law_number : List Str := ["jar", "word", "way"]
abbrev P_law_number : List Str := ["jar", "word"]
theorem sc_law_number : FnScope N_law_number P_law_number (defScope s_law_number) := ⟨rfl, rfl, rfl, by decide +kernel, rfl, by decide +kernel, by decide +kernel⟩
theorem d_law_number {G : GG} (B : Blt G) (h_law_dip : Def G 2 "_law_dip" 2 sp_law_dip) : DSs G N_law_number (fnS (defScope s_law_number)) 2 (defBody s_law_number) t_law_number :=
    (dss_cons (ds_if (dt_cmp c_eq (de_var 1) de_str) (dss_one (ds_ret (de_callJ 0 h_law_dip (da_cons de_int da_nil)))) dss_nil)
    (dss_cons (ds_setE 2 (de_callJ 0 h_law_dip (da_cons de_int da_nil)))
    (dss_cons (ds_if (dt_cmp c_eq (de_var 2) de_int) (dss_one (ds_ret (de_ix (de_lst (da_cons (de_pow de_int de_int) (da_cons (de_sub de_int (de_pow de_int de_int)) (da_cons (de_sub (de_pow de_int de_int) de_int) (da_cons de_int da_nil))))) (de_callJ 0 h_law_dip (da_cons de_int da_nil))))) dss_nil)
    (dss_cons (ds_if (dt_cmp c_lt (de_var 2) de_int) (dss_one (ds_ret (de_sub (de_callJ 0 h_law_dip (da_cons de_int da_nil)) de_int))) dss_nil)
    (dss_one (ds_ret (de_sub (de_callJ 0 h_law_dip (da_cons de_int da_nil)) de_int)))))))
abbrev N_law_sizes : List Str := ["jar", "most", "roof", "found", "k", "size"]
abbrev P_law_sizes : List Str := ["jar", "most", "roof"]
theorem sc_law_sizes : FnScope N_law_sizes P_law_sizes (defScope s_law_sizes) := ⟨rfl, rfl, rfl, by decide +kernel, rfl, by decide +kernel, by decide +kernel⟩
theorem d_law_sizes {G : GG} (B : Blt G) (h_law_dip : Def G 2 "_law_dip" 2 sp_law_dip) (h_law_times : Def G 1 "_law_times" 1 sp_law_times) : DSs G N_law_sizes (fnS (defScope s_law_sizes)) 2 (defBody s_law_sizes) t_law_sizes :=
    (dss_cons (ds_set 3 (de_lst da_nil))
    (dss_cons (ds_for (di_range1 (da_cons (de_add de_int (de_callJ 0 h_law_dip (da_cons (de_var 1) da_nil))) da_nil) B.range) (dg_name 4) (dss_cons (ds_setE 5 (de_ix (de_lst (da_cons de_int (da_cons de_int (da_cons de_int (da_cons de_int (da_cons de_int da_nil)))))) (de_callJ 0 h_law_dip (da_cons de_int da_nil))))
    (dss_one (ds_expr (de_append 3 (de_if (dt_cmp c_le (de_mul (de_call h_law_times (da_cons (de_var 3) da_nil)) (de_var 5)) (de_var 2)) (de_var 5) de_int))))))
    (dss_one (ds_ret (de_ct t_tuple B.tuple (da_cons (de_var 3) da_nil))))))
abbrev N_law_some : List Str := ["jar", "many", "most", "left", "found", "k"]
abbrev P_law_some : List Str := ["jar", "many", "most"]
theorem sc_law_some : FnScope N_law_some P_law_some (defScope s_law_some) := ⟨rfl, rfl, rfl, by decide +kernel, rfl, by decide +kernel, by decide +kernel⟩
theorem d_law_some {G : GG} (B : Blt G) (h_law_dip : Def G 2 "_law_dip" 2 sp_law_dip) : DSs G N_law_some (fnS (defScope s_law_some)) 2 (defBody s_law_some) t_law_some :=
    (dss_cons (ds_set 3 (de_listRg (drg_1 (de_var 1) B.range) B.list))
    (dss_cons (ds_set 4 (de_lst da_nil))
    (dss_cons (ds_for (di_range1 (da_cons (de_callJ 0 h_law_dip (da_cons (de_add (de_var 2) de_int) da_nil)) da_nil) B.range) (dg_name 5) (dss_one (ds_if (dt_cmp c_gt (de_cb b_len B.len (da_cons (de_var 3) da_nil)) de_int) (dss_one (ds_expr (de_append 4 (de_popAt 3 (de_callJ 0 h_law_dip (da_cons (de_cb b_len B.len (da_cons (de_var 3) da_nil)) da_nil)))))) dss_nil)))
    (dss_one (ds_ret (de_ct t_tuple B.tuple (da_cons (de_cb b_sorted B.sorted (da_cons (de_var 4) da_nil)) da_nil)))))))
abbrev N_whole : List Str := ["word", "sheet", "filling"]
abbrev P_whole : List Str := ["word", "sheet"]
theorem sc_whole : FnScope N_whole P_whole (defScope s_whole) := ⟨rfl, rfl, rfl, by decide +kernel, rfl, by decide +kernel, by decide +kernel⟩
theorem d_whole {G : GG} (B : Blt G) (h_all_fillings : Def G 2 "all_fillings" 1 sp_all_fillings) (h_gather : Def G 1 "gather" 2 sp_gather) (h_joined_at : Def G 3 "joined_at" 3 sp_joined_at) : DSs G N_whole (fnS (defScope s_whole)) 3 (defBody s_whole) t_whole :=
    (dss_one (ds_ret (de_call h_gather (da_cons (de_var 0) (da_cons (de_lc [(Str.ofString "filling", 2)] (di_seq (de_call h_all_fillings (da_cons (de_var 1) da_nil))) (by decide +kernel) (dg_name 2) dtl_nil (de_call h_joined_at (da_cons (de_var 0) (da_cons (de_var 1) (da_cons (de_var 2) da_nil))))) da_nil)))))
abbrev N_rest : List Str := ["word", "sheet", "names", "sizes", "kept", "some", "filling", "at", "name", "numbers"]
abbrev P_rest : List Str := ["word", "sheet", "names"]
theorem sc_rest : FnScope N_rest P_rest (defScope s_rest) := ⟨rfl, rfl, rfl, by decide +kernel, rfl, by decide +kernel, by decide +kernel⟩
theorem d_rest {G : GG} (B : Blt G) (h_all_fillings : Def G 2 "all_fillings" 1 sp_all_fillings) (h_fillings_of : Def G 1 "fillings_of" 2 sp_fillings_of) (h_gather : Def G 1 "gather" 2 sp_gather) (h_joined_at : Def G 3 "joined_at" 3 sp_joined_at) (h_need_names : Def G 3 "need_names" 2 sp_need_names) (h_place_of : Def G 1 "place_of" 3 sp_place_of) : DSs G N_rest (fnS (defScope s_rest)) 3 (defBody s_rest) t_rest :=
    (dss_cons (ds_setE 3 (de_ix (de_var 1) de_int))
    (dss_cons (ds_expr (de_call h_need_names (da_cons (de_cb b_len B.len (da_cons (de_var 3) da_nil)) (da_cons (de_var 2) da_nil))))
    (dss_cons (ds_setNest (x := Str.ofString "some") 4 5 (di_seq (de_call h_fillings_of (da_cons (de_var 3) (da_cons (de_var 2) da_nil)))) (by decide +kernel) (dg_name 5))
    (dss_cons (ds_for (di_seq (de_call h_all_fillings (da_cons (de_var 1) da_nil))) (dg_name 6) (dss_cons (ds_setE 7 (de_call h_place_of (da_cons (de_var 3) (da_cons (de_var 2) (da_cons (de_lc [(Str.ofString "name", 8)] (di_seq (de_var 2)) (by decide +kernel) (dg_name 8) dtl_nil (de_ix (de_var 6) (de_var 8))) da_nil)))))
    (dss_one (ds_expr (de_napp 4 (de_var 7) (de_call h_joined_at (da_cons (de_var 0) (da_cons (de_var 1) (da_cons (de_var 6) da_nil)))))))))
    (dss_one (ds_seal 4 (ds_ret (de_tup (da_cons (de_var 2) (da_cons (de_ct t_tuple B.tuple (da_cons (de_lc [(Str.ofString "numbers", 9)] (di_seq (de_var 4)) (by decide +kernel) (dg_name 9) dtl_nil (de_call h_gather (da_cons (de_var 0) (da_cons (de_var 9) da_nil)))) da_nil)) da_nil))))))))))
abbrev N_law_part : List Str := ["jar", "word", "sizes", "most", "names", "many", "name", "k"]
abbrev P_law_part : List Str := ["jar", "word", "sizes", "most"]
theorem sc_law_part : FnScope N_law_part P_law_part (defScope s_law_part) := ⟨rfl, rfl, rfl, by decide +kernel, rfl, by decide +kernel, by decide +kernel⟩
theorem d_law_part {G : GG} (B : Blt G) (h_law_number : Def G 3 "_law_number" 2 sp_law_number) (h_law_some : Def G 3 "_law_some" 3 sp_law_some) (h_law_times : Def G 1 "_law_times" 1 sp_law_times) : DSs G N_law_part (fnS (defScope s_law_part)) 3 (defBody s_law_part) t_law_part :=
    (dss_cons (ds_setE 4 (de_callJ 0 h_law_some (da_cons (de_cb b_len B.len (da_cons (de_var 2) da_nil)) (da_cons (de_var 3) da_nil))))
    (dss_cons (ds_setE 5 (de_call h_law_times (da_cons (de_lc [(Str.ofString "name", 6)] (di_seq (de_var 4)) (by decide +kernel) (dg_name 6) dtl_nil (de_ix (de_var 2) (de_var 6))) da_nil)))
    (dss_one (ds_ret (de_tup (da_cons (de_var 4) (da_cons (de_ct t_tuple B.tuple (da_cons (de_lc [(Str.ofString "k", 7)] (di_range1 (da_cons (de_var 5) da_nil) B.range) (by decide +kernel) (dg_name 7) dtl_nil (de_callJ 0 h_law_number (da_cons (de_var 1) da_nil))) da_nil)) da_nil)))))))
abbrev N_law_sheet : List Str := ["jar", "word", "most", "roof", "parts", "sizes", "many", "wide", "k"]
abbrev P_law_sheet : List Str := ["jar", "word", "most", "roof", "parts"]
theorem sc_law_sheet : FnScope N_law_sheet P_law_sheet (defScope s_law_sheet) := ⟨rfl, rfl, rfl, by decide +kernel, rfl, by decide +kernel, by decide +kernel⟩
theorem d_law_sheet {G : GG} (B : Blt G) (h_law_dip : Def G 2 "_law_dip" 2 sp_law_dip) (h_law_part : Def G 4 "_law_part" 4 sp_law_part) (h_law_sizes : Def G 3 "_law_sizes" 3 sp_law_sizes) : DSs G N_law_sheet (fnS (defScope s_law_sheet)) 4 (defBody s_law_sheet) t_law_sheet :=
    (dss_cons (ds_setE 5 (de_callJ 0 h_law_sizes (da_cons (de_var 2) (da_cons (de_var 3) da_nil))))
    (dss_cons (ds_setE 6 (de_callJ 0 h_law_dip (da_cons (de_add (de_var 4) de_int) da_nil)))
    (dss_cons (ds_setE 7 (de_add de_int (de_callJ 0 h_law_dip (da_cons de_int da_nil))))
    (dss_one (ds_ret (de_tup (da_cons (de_var 5) (da_cons (de_ct t_tuple B.tuple (da_cons (de_lc [(Str.ofString "k", 8)] (di_range1 (da_cons (de_var 6) da_nil) B.range) (by decide +kernel) (dg_name 8) dtl_nil (de_callJ 0 h_law_part (da_cons (de_var 1) (da_cons (de_var 5) (da_cons (de_var 7) da_nil))))) da_nil)) da_nil))))))))
abbrev N_law_ones_right : List Str := ["jar", "sheet", "names", "found", "told", "worth"]
abbrev P_law_ones_right : List Str := ["jar", "sheet"]
theorem sc_law_ones_right : FnScope N_law_ones_right P_law_ones_right (defScope s_law_ones_right) := ⟨rfl, rfl, rfl, by decide +kernel, rfl, by decide +kernel, by decide +kernel⟩
theorem d_law_ones_right {G : GG} (B : Blt G) (h_law_some : Def G 3 "_law_some" 3 sp_law_some) (h_rest : Def G 4 "rest" 3 sp_rest) : DSs G N_law_ones_right (fnS (defScope s_law_ones_right)) 4 (defBody s_law_ones_right) t_law_ones_right :=
    (dss_cons (ds_setE 2 (de_callJ 0 h_law_some (da_cons (de_cb b_len B.len (da_cons (de_ix (de_var 1) de_int) da_nil)) (da_cons de_int da_nil))))
    (dss_cons (ds_setE 3 (de_call h_rest (da_cons de_str (da_cons (de_var 1) (da_cons (de_var 2) da_nil)))))
    (dss_cons (ds_setE 4 (de_call h_rest (da_cons de_str (da_cons (de_var 1) (da_cons (de_var 2) da_nil)))))
    (dss_cons (ds_if (dt_cmp c_ne (de_var 4) (de_tup (da_cons (de_var 2) (da_cons (de_ct t_tuple B.tuple (da_cons (de_lc [(Str.ofString "worth", 5)] (di_seq (de_ix (de_var 3) de_int)) (by decide +kernel) (dg_name 5) dtl_nil (de_ct t_int B.int (da_cons (de_cmp c_gt (de_var 5) de_int) da_nil))) da_nil)) da_nil)))) (dss_one (ds_ret de_bl)) dss_nil)
    (dss_one (ds_ret (de_or (de_cmp c_eq (de_cb b_len B.len (da_cons (de_ix (de_var 1) de_int) da_nil)) de_int) (de_one (de_cmp c_eq (de_call h_rest (da_cons de_str (da_cons (de_var 1) (da_cons (de_var 2) da_nil)))) (de_var 4))))))))))
abbrev N_law_numbers_right : List Str := ["jar", "sheet", "sizes", "parts", "back", "bar", "reached", "at", "names", "worths", "number", "more", "worth", "word", "many"]
abbrev P_law_numbers_right : List Str := ["jar", "sheet"]
theorem sc_law_numbers_right : FnScope N_law_numbers_right P_law_numbers_right (defScope s_law_numbers_right) := ⟨rfl, rfl, rfl, by decide +kernel, rfl, by decide +kernel, by decide +kernel⟩
theorem d_law_numbers_right {G : GG} (B : Blt G) (h_law_dip : Def G 2 "_law_dip" 2 sp_law_dip) (h_whole : Def G 4 "whole" 2 sp_whole) {fg : Addr} {fd : FuncData} (F_turned : FnD G.K "_law_turned" s_law_turned fg fd) (g_turned : G.mg "_law_turned" = some (.ref fg)) {c P : Addr} {q : Str} : TSs G N_law_numbers_right (fnS (defScope s_law_numbers_right)) 4 P q (CodC c P q) (defBody s_law_numbers_right) t_law_numbers_right :=
    (tss_cons (DS.toT (ds_asg (de_var 1) (dg_tup (dgs_cons (dg_name 2) (dgs_cons (dg_name 3) dgs_nil)))))
    (tss_cons (ts_turn (spc := spN) (i := 4) (i0 := 1) (js := []) (cns := []) g_turned F_turned.kp (FunD.bindsN (ps := P_law_turned) F_turned fun _ _ _ _ _ _ us hl => match us, hl with | [_, _], _ => rfl) (by intro f c' base' clo cv hl hB hfree; exact fn_neg B F_turned "worth" hl hB hfree (de_sub de_int (de_var 0)) (by rfl) (by rfl) (by rfl) (by decide +kernel) (by decide +kernel) (fun _ _ us hl => match us, hl with | [_], _ => rfl)) (fun _ => rfl) (by decide +kernel) rfl (by exact all0) (kf := 2))
    (tss_cons (DS.toT (ds_if (dt_cmp c_ne (de_call h_whole (da_cons de_str (da_cons (de_var 4) da_nil))) (de_sub de_int (de_call h_whole (da_cons de_str (da_cons (de_var 1) da_nil))))) (dss_one (ds_ret de_bl)) dss_nil))
    (tss_cons (DS.toT (ds_setE 5 (de_sub (de_callJ 0 h_law_dip (da_cons de_int da_nil)) de_int)))
    (tss_cons (ts_turn (spc := spB) (i := 6) (i0 := 1) (js := [5]) (cns := ["bar"]) g_turned F_turned.kp (FunD.bindsN (ps := P_law_turned) F_turned fun _ _ _ _ _ _ us hl => match us, hl with | [_, _], _ => rfl) (by intro f c' base' clo cv hl hB hfree; exact fn_bar B F_turned "worth" "bar" hl hB hfree (by decide) (de_ct t_int B.int (da_cons (de_cmp c_ge (de_var 0) (de_var 1)) da_nil)) (by rfl) (by rfl) (by rfl) (by decide +kernel) (by decide +kernel) (fun _ _ us hl => match us, hl with | [_], _ => rfl)) (fun _ => rfl) (by decide +kernel) rfl (by exact all1 ⟨by decide +kernel, rfl, by decide +kernel⟩) (kf := 2))
    (tss_cons (DS.toT (ds_if (dt_cmp c_ne (de_cmp c_ge (de_call h_whole (da_cons de_str (da_cons (de_var 1) da_nil))) (de_var 5)) (de_cmp c_eq (de_call h_whole (da_cons de_str (da_cons (de_var 6) da_nil))) de_int)) (dss_one (ds_ret de_bl)) dss_nil))
    (tss_cons (DS.toT (ds_if (dt_cmp c_eq (de_cb b_len B.len (da_cons (de_var 3) da_nil)) de_int) (dss_one (ds_ret (de_cmp c_eq (de_call h_whole (da_cons de_str (da_cons (de_var 1) da_nil))) (de_pow de_int de_int)))) dss_nil))
    (tss_cons (DS.toT (ds_setE 7 (de_callJ 0 h_law_dip (da_cons (de_cb b_len B.len (da_cons (de_var 3) da_nil)) da_nil))))
    (tss_cons (DS.toT (ds_asg (de_ix (de_var 3) (de_var 7)) (dg_tup (dgs_cons (dg_name 8) (dgs_cons (dg_name 9) dgs_nil)))))
    (tss_cons (DS.toT (ds_setE 10 (de_sub (de_callJ 0 h_law_dip (da_cons de_int da_nil)) de_int)))
    (tss_cons (DS.toT (ds_if (DWe.te (dw_or (dt_cmp c_gt (de_cb b_maxT B.max (da_cons (de_var 9) da_nil)) (de_pow de_int de_int)) (dw_or1 (dt_cmp c_lt (de_cb b_minT B.min (da_cons (de_var 9) da_nil)) (de_sub de_int (de_pow de_int de_int)))))) (dss_one (ds_ret de_bl)) dss_nil))
    (tss_cons (DS.toT (ds_setE 11 (de_tup (da_cons (de_var 2) (da_cons (de_add (de_add (de_slice (de_var 3) do_none (do_some (de_var 7))) (de_tup (da_cons (de_tup (da_cons (de_var 8) (da_cons (de_ct t_tuple B.tuple (da_cons (de_lc [(Str.ofString "worth", 12)] (di_seq (de_var 9)) (by decide +kernel) (dg_name 12) dtl_nil (de_add (de_var 12) (de_var 10))) da_nil)) da_nil))) da_nil))) (de_slice (de_var 3) (do_some (de_add (de_var 7) de_int)) do_none)) da_nil)))))
    (tss_cons (DS.toT (ds_if (dt_cmp c_ne (de_lc [(Str.ofString "word", 13)] (di_seq (de_lst (da_cons de_str (da_cons de_str da_nil)))) (by decide +kernel) (dg_name 13) dtl_nil (de_call h_whole (da_cons (de_var 13) (da_cons (de_var 11) da_nil)))) (de_lc [(Str.ofString "word", 13)] (di_seq (de_lst (da_cons de_str (da_cons de_str da_nil)))) (by decide +kernel) (dg_name 13) dtl_nil (de_add (de_call h_whole (da_cons (de_var 13) (da_cons (de_var 1) da_nil))) (de_var 10)))) (dss_one (ds_ret de_bl)) dss_nil))
    (tss_cons (DS.toT (ds_setE 14 (de_tup (da_cons (de_var 2) (da_cons (de_add (de_add (de_slice (de_var 3) do_none (do_some (de_var 7))) (de_tup (da_cons (de_tup (da_cons (de_var 8) (da_cons (de_ct t_tuple B.tuple (da_cons (de_lc [(Str.ofString "worth", 12)] (di_seq (de_var 9)) (by decide +kernel) (dg_name 12) dtl_nil (de_mul (de_var 12) (de_var 10))) da_nil)) da_nil))) da_nil))) (de_slice (de_var 3) (do_some (de_add (de_var 7) de_int)) do_none)) da_nil)))))
    (tss_one (DS.toT (ds_ret (de_cmp c_eq (de_call h_whole (da_cons de_str (da_cons (de_var 14) da_nil))) (de_mul (de_call h_whole (da_cons de_str (da_cons (de_var 1) da_nil))) (de_var 10))))))))))))))))))))
abbrev N_law : List Str := ["script", "jar", "turn"]
abbrev P_law : List Str := ["script"]
theorem sc_law : FnScope N_law P_law (defScope s_law) := ⟨rfl, rfl, rfl, by decide +kernel, rfl, by decide +kernel, by decide +kernel⟩
theorem d_law {G : GG} (B : Blt G) {P : Addr} {q : Str} (h_law_jar : Def G 1 "_law_jar" 1 sp_law_jar) (h_law_numbers_right : DefT G P q 5 "_law_numbers_right" 2 sp_law_numbers_right) (h_law_ones_right : Def G 5 "_law_ones_right" 2 sp_law_ones_right) (h_law_sheet : Def G 5 "_law_sheet" 5 sp_law_sheet) : TSs G N_law (fnS (defScope s_law)) 5 P q (fun _ => True) (defBody s_law) t_law :=
    (tss_cons (DS.toT (ds_set 1 (de_call h_law_jar (da_cons (de_var 0) da_nil))))
    (tss_cons (ts_for (di_range1 (da_cons de_int da_nil) B.range) (dg_name 2) (tss_cons (DS.toT (ds_if (dt_not (dt_val (de_callJ 1 h_law_ones_right (da_cons (de_callJ 1 h_law_sheet (da_cons de_str (da_cons de_int (da_cons de_int (da_cons de_int da_nil))))) da_nil)))) (dss_one (ds_ret de_bl)) dss_nil))
    (tss_one (ts_ifcall 1 h_law_numbers_right (da_cons (de_callJ 1 h_law_sheet (da_cons de_str (da_cons de_int (da_cons de_int (da_cons de_int da_nil))))) da_nil) (dss_one (ds_ret de_bl))))))
    (DSs.toT (dss_one (ds_ret de_bl)))))
abbrev qN : Str := (("_law_numbers_right" : Str) ++ ".<locals>." : Str) ++ "<lambda>"
theorem facts {w : World} {K : PySem.W.Frag} {h : Heap} {mg : Str → Option Value} {f : Addr} (X : K.In h) (N : h.Ns mainGlobals mg) (hf : mg ("law" : Str) = some (.ref f)) (c : He.SaysD fa fn K) (cx : ex K = true) :
    ∃ fd : FuncData, (∀ (s : Shared) (v : Value), BindsTo s fd ⟨[v], []⟩ [("script", v)]) ∧ ∀ base : Heap, K.In base → base.Ns mainGlobals mg → LamX.TabB base mg (He.cT K pN).1 (He.cT K pN).2 → FnG PySem.Challenge.pw_sumorder_k22_whole_words_beside_words w K mg base (L2.CX PySem.Challenge.pw_sumorder_k22_whole_words_beside_words w) 6 f fd ["script"] (toSpT K (He.cT K pN).2 qN 1 (lawSpec 63)) := by
  obtain ⟨f_unit, F_unit⟩ := c.def_ 0 (d := y_unit) rfl
  have g_unit := He.glo_ok X N (c.fact 0 (f := .glo "unit") rfl)
  obtain ⟨f_join, F_join⟩ := c.def_ 1 (d := y_join) rfl
  have g_join := He.glo_ok X N (c.fact 1 (f := .glo "join") rfl)
  obtain ⟨f_gather, F_gather⟩ := c.def_ 2 (d := y_gather) rfl
  have g_gather := He.glo_ok X N (c.fact 2 (f := .glo "gather") rfl)
  obtain ⟨f_is_whole, F_is_whole⟩ := c.def_ 3 (d := y_is_whole) rfl
  have g_is_whole := He.glo_ok X N (c.fact 3 (f := .glo "is_whole") rfl)
  obtain ⟨f_fillings_of, F_fillings_of⟩ := c.def_ 4 (d := y_fillings_of) rfl
  have g_fillings_of := He.glo_ok X N (c.fact 4 (f := .glo "fillings_of") rfl)
  obtain ⟨f_place_of, F_place_of⟩ := c.def_ 5 (d := y_place_of) rfl
  have g_place_of := He.glo_ok X N (c.fact 5 (f := .glo "place_of") rfl)
  obtain ⟨f_law_jar, F_law_jar⟩ := c.def_ 6 (d := y_law_jar) rfl
  have g_law_jar := He.glo_ok X N (c.fact 6 (f := .glo "_law_jar") rfl)
  obtain ⟨f_law_prime, F_law_prime⟩ := c.def_ 7 (d := y_law_prime) rfl
  have g_law_prime := He.glo_ok X N (c.fact 7 (f := .glo "_law_prime") rfl)
  obtain ⟨f_law_times, F_law_times⟩ := c.def_ 8 (d := y_law_times) rfl
  have g_law_times := He.glo_ok X N (c.fact 8 (f := .glo "_law_times") rfl)
  obtain ⟨f_law_turned, F_law_turned⟩ := c.def_ 9 (d := y_law_turned) rfl
  have g_law_turned := He.glo_ok X N (c.fact 9 (f := .glo "_law_turned") rfl)
  obtain ⟨f_are_names, F_are_names⟩ := c.def_ 10 (d := y_are_names) rfl
  have g_are_names := He.glo_ok X N (c.fact 10 (f := .glo "are_names") rfl)
  obtain ⟨f_worth_at, F_worth_at⟩ := c.def_ 11 (d := y_worth_at) rfl
  have g_worth_at := He.glo_ok X N (c.fact 11 (f := .glo "worth_at") rfl)
  obtain ⟨f_all_fillings, F_all_fillings⟩ := c.def_ 12 (d := y_all_fillings) rfl
  have g_all_fillings := He.glo_ok X N (c.fact 12 (f := .glo "all_fillings") rfl)
  obtain ⟨f_law_dip, F_law_dip⟩ := c.def_ 13 (d := y_law_dip) rfl
  have g_law_dip := He.glo_ok X N (c.fact 13 (f := .glo "_law_dip") rfl)
  obtain ⟨f_need_names, F_need_names⟩ := c.def_ 14 (d := y_need_names) rfl
  have g_need_names := He.glo_ok X N (c.fact 14 (f := .glo "need_names") rfl)
  obtain ⟨f_joined_at, F_joined_at⟩ := c.def_ 15 (d := y_joined_at) rfl
  have g_joined_at := He.glo_ok X N (c.fact 15 (f := .glo "joined_at") rfl)
  obtain ⟨f_law_number, F_law_number⟩ := c.def_ 16 (d := y_law_number) rfl
  have g_law_number := He.glo_ok X N (c.fact 16 (f := .glo "_law_number") rfl)
  obtain ⟨f_law_sizes, F_law_sizes⟩ := c.def_ 17 (d := y_law_sizes) rfl
  have g_law_sizes := He.glo_ok X N (c.fact 17 (f := .glo "_law_sizes") rfl)
  obtain ⟨f_law_some, F_law_some⟩ := c.def_ 18 (d := y_law_some) rfl
  have g_law_some := He.glo_ok X N (c.fact 18 (f := .glo "_law_some") rfl)
  obtain ⟨f_whole, F_whole⟩ := c.def_ 19 (d := y_whole) rfl
  have g_whole := He.glo_ok X N (c.fact 19 (f := .glo "whole") rfl)
  obtain ⟨f_rest, F_rest⟩ := c.def_ 20 (d := y_rest) rfl
  have g_rest := He.glo_ok X N (c.fact 20 (f := .glo "rest") rfl)
  obtain ⟨f_law_part, F_law_part⟩ := c.def_ 21 (d := y_law_part) rfl
  have g_law_part := He.glo_ok X N (c.fact 21 (f := .glo "_law_part") rfl)
  obtain ⟨f_law_sheet, F_law_sheet⟩ := c.def_ 22 (d := y_law_sheet) rfl
  have g_law_sheet := He.glo_ok X N (c.fact 22 (f := .glo "_law_sheet") rfl)
  obtain ⟨f_law_ones_right, F_law_ones_right⟩ := c.def_ 23 (d := y_law_ones_right) rfl
  have g_law_ones_right := He.glo_ok X N (c.fact 23 (f := .glo "_law_ones_right") rfl)
  obtain ⟨f_law_numbers_right, F_law_numbers_right⟩ := c.def_ 24 (d := y_law_numbers_right) rfl
  have g_law_numbers_right := He.glo_ok X N (c.fact 24 (f := .glo "_law_numbers_right") rfl)
  obtain ⟨f_law, F_law⟩ := c.def_ 25 (d := y_law) rfl
  have e := hf.symm.trans (He.glo_ok X N (c.fact 25 (f := .glo "law") rfl))
  cases e
  have b := FunD.bindsA (ps := ["script"]) F_law fun _ _ _ _ _ _ us hl => match us, hl with | [_], _ => rfl
  refine ⟨f_law, fun s v => b s [v] rfl, fun base _ _ TB => ?_⟩
  let G : GG := ⟨PySem.Challenge.pw_sumorder_k22_whole_words_beside_words, w, K, mg, base⟩
  have B : Blt G := ⟨He.free_ok X N (c.fact 26 (f := .free "len") rfl), He.free_ok X N (c.fact 27 (f := .free "range") rfl), He.free_ok X N (c.fact 28 (f := .free "sorted") rfl), He.free_ok X N (c.fact 29 (f := .free "set") rfl), He.free_ok X N (c.fact 30 (f := .free "tuple") rfl), He.free_ok X N (c.fact 31 (f := .free "list") rfl), He.free_ok X N (c.fact 32 (f := .free "dict") rfl), He.free_ok X N (c.fact 33 (f := .free "zip") rfl), He.free_ok X N (c.fact 34 (f := .free "enumerate") rfl), He.free_ok X N (c.fact 35 (f := .free "all") rfl), He.free_ok X N (c.fact 36 (f := .free "any") rfl), He.free_ok X N (c.fact 37 (f := .free "sum") rfl), He.free_ok X N (c.fact 38 (f := .free "min") rfl), He.free_ok X N (c.fact 39 (f := .free "max") rfl), He.free_ok X N (c.fact 40 (f := .free "isinstance") rfl), He.free_ok X N (c.fact 41 (f := .free "str") rfl), He.free_ok X N (c.fact 42 (f := .free "int") rfl), He.free_ok X N (c.fact 43 (f := .free "repr") rfl), He.free_ok X N (c.fact 44 (f := .free "bool") rfl)⟩
  have x_NoName : XOk G "NoName" := ⟨He.glo_ok X N (c.fact 45 (f := .glo "NoName") rfl), c.fact 46 (f := .exc "NoName") rfl⟩
  have k_ROOF := He.int_ok X N (c.fact 47 (f := .int "ROOF" 1000000000000000000000000000000) rfl)
  have h_unit : Def G 1 "unit" 1 sp_unit := Def.of (st := s_unit) (m := 0) F_unit g_unit sc_unit (d_unit B k_ROOF) m_unit rfl rfl (fun ds Q X h => by repeat (first | (refine Or.elim h (fun h => ?_) (fun h => ?_)) | (obtain ⟨rfl, _⟩ := h; rfl) | (obtain ⟨rfl | rfl, _⟩ := h <;> rfl) | (obtain ⟨⟨_, _, rfl, _⟩, _⟩ := h; rfl) | (obtain ⟨_, h⟩ := h))) (FunD.bindsN (ps := P_unit) F_unit fun _ _ _ _ _ _ us hl => match us, hl with | [_], _ => rfl)
  have h_join : Def G 1 "join" 3 sp_join := Def.of (st := s_join) (m := 0) F_join g_join sc_join (d_join B ) m_join rfl rfl (fun ds Q X h => by repeat (first | (refine Or.elim h (fun h => ?_) (fun h => ?_)) | (obtain ⟨rfl, _⟩ := h; rfl) | (obtain ⟨rfl | rfl, _⟩ := h <;> rfl) | (obtain ⟨⟨_, _, rfl, _⟩, _⟩ := h; rfl) | (obtain ⟨_, h⟩ := h))) (FunD.bindsN (ps := P_join) F_join fun _ _ _ _ _ _ us hl => match us, hl with | [_, _, _], _ => rfl)
  have h_gather : Def G 1 "gather" 2 sp_gather := Def.of (st := s_gather) (m := 0) F_gather g_gather sc_gather (d_gather B ) m_gather rfl rfl (fun ds Q X h => by repeat (first | (refine Or.elim h (fun h => ?_) (fun h => ?_)) | (obtain ⟨rfl, _⟩ := h; rfl) | (obtain ⟨rfl | rfl, _⟩ := h <;> rfl) | (obtain ⟨⟨_, _, rfl, _⟩, _⟩ := h; rfl) | (obtain ⟨_, h⟩ := h))) (FunD.bindsN (ps := P_gather) F_gather fun _ _ _ _ _ _ us hl => match us, hl with | [_, _], _ => rfl)
  have h_is_whole : Def G 1 "is_whole" 1 sp_is_whole := Def.of (st := s_is_whole) (m := 0) F_is_whole g_is_whole sc_is_whole (d_is_whole B ) m_is_whole rfl rfl (fun ds Q X h => by repeat (first | (refine Or.elim h (fun h => ?_) (fun h => ?_)) | (obtain ⟨rfl, _⟩ := h; rfl) | (obtain ⟨rfl | rfl, _⟩ := h <;> rfl) | (obtain ⟨⟨_, _, rfl, _⟩, _⟩ := h; rfl) | (obtain ⟨_, h⟩ := h))) (FunD.bindsN (ps := P_is_whole) F_is_whole fun _ _ _ _ _ _ us hl => match us, hl with | [_], _ => rfl)
  have h_fillings_of : Def G 1 "fillings_of" 2 sp_fillings_of := Def.of (st := s_fillings_of) (m := 5) F_fillings_of g_fillings_of sc_fillings_of (d_fillings_of B ) m_fillings_of rfl rfl (fun ds Q X h => by repeat (first | (refine Or.elim h (fun h => ?_) (fun h => ?_)) | (obtain ⟨rfl, _⟩ := h; rfl) | (obtain ⟨rfl | rfl, _⟩ := h <;> rfl) | (obtain ⟨⟨_, _, rfl, _⟩, _⟩ := h; rfl) | (obtain ⟨_, h⟩ := h))) (FunD.bindsN (ps := P_fillings_of) F_fillings_of fun _ _ _ _ _ _ us hl => match us, hl with | [_, _], _ => rfl)
  have h_place_of : Def G 1 "place_of" 3 sp_place_of := Def.of (st := s_place_of) (m := 3) F_place_of g_place_of sc_place_of (d_place_of B ) m_place_of rfl rfl (fun ds Q X h => by repeat (first | (refine Or.elim h (fun h => ?_) (fun h => ?_)) | (obtain ⟨rfl, _⟩ := h; rfl) | (obtain ⟨rfl | rfl, _⟩ := h <;> rfl) | (obtain ⟨⟨_, _, rfl, _⟩, _⟩ := h; rfl) | (obtain ⟨_, h⟩ := h))) (FunD.bindsN (ps := P_place_of) F_place_of fun _ _ _ _ _ _ us hl => match us, hl with | [_, _, _], _ => rfl)
  have h_law_jar : Def G 1 "_law_jar" 1 sp_law_jar := Def.of (st := s_law_jar) (m := 0) F_law_jar g_law_jar sc_law_jar (d_law_jar B ) m_law_jar rfl rfl (fun ds Q X h => by repeat (first | (refine Or.elim h (fun h => ?_) (fun h => ?_)) | (obtain ⟨rfl, _⟩ := h; rfl) | (obtain ⟨rfl | rfl, _⟩ := h <;> rfl) | (obtain ⟨⟨_, _, rfl, _⟩, _⟩ := h; rfl) | (obtain ⟨_, h⟩ := h))) (FunD.bindsN (ps := P_law_jar) F_law_jar fun _ _ _ _ _ _ us hl => match us, hl with | [_], _ => rfl)
  have h_law_prime : Def G 1 "_law_prime" 1 sp_law_prime := Def.of (st := s_law_prime) (m := 1) F_law_prime g_law_prime sc_law_prime (d_law_prime B ) m_law_prime rfl rfl (fun ds Q X h => by repeat (first | (refine Or.elim h (fun h => ?_) (fun h => ?_)) | (obtain ⟨rfl, _⟩ := h; rfl) | (obtain ⟨rfl | rfl, _⟩ := h <;> rfl) | (obtain ⟨⟨_, _, rfl, _⟩, _⟩ := h; rfl) | (obtain ⟨_, h⟩ := h))) (FunD.bindsN (ps := P_law_prime) F_law_prime fun _ _ _ _ _ _ us hl => match us, hl with | [_], _ => rfl)
  have h_law_times : Def G 1 "_law_times" 1 sp_law_times := Def.of (st := s_law_times) (m := 2) F_law_times g_law_times sc_law_times (d_law_times B ) m_law_times rfl rfl (fun ds Q X h => by repeat (first | (refine Or.elim h (fun h => ?_) (fun h => ?_)) | (obtain ⟨rfl, _⟩ := h; rfl) | (obtain ⟨rfl | rfl, _⟩ := h <;> rfl) | (obtain ⟨⟨_, _, rfl, _⟩, _⟩ := h; rfl) | (obtain ⟨_, h⟩ := h))) (FunD.bindsN (ps := P_law_times) F_law_times fun _ _ _ _ _ _ us hl => match us, hl with | [_], _ => rfl)
  have h_are_names : Def G 2 "are_names" 2 sp_are_names := Def.of (st := s_are_names) (m := 2) F_are_names g_are_names sc_are_names (d_are_names B h_is_whole) m_are_names rfl rfl (fun ds Q X h => by repeat (first | (refine Or.elim h (fun h => ?_) (fun h => ?_)) | (obtain ⟨rfl, _⟩ := h; rfl) | (obtain ⟨rfl | rfl, _⟩ := h <;> rfl) | (obtain ⟨⟨_, _, rfl, _⟩, _⟩ := h; rfl) | (obtain ⟨_, h⟩ := h))) (FunD.bindsN (ps := P_are_names) F_are_names fun _ _ _ _ _ _ us hl => match us, hl with | [_, _], _ => rfl)
  have h_worth_at : Def G 2 "worth_at" 3 sp_worth_at := Def.of (st := s_worth_at) (m := 3) F_worth_at g_worth_at sc_worth_at (d_worth_at B h_place_of) m_worth_at rfl rfl (fun ds Q X h => by repeat (first | (refine Or.elim h (fun h => ?_) (fun h => ?_)) | (obtain ⟨rfl, _⟩ := h; rfl) | (obtain ⟨rfl | rfl, _⟩ := h <;> rfl) | (obtain ⟨⟨_, _, rfl, _⟩, _⟩ := h; rfl) | (obtain ⟨_, h⟩ := h))) (FunD.bindsN (ps := P_worth_at) F_worth_at fun _ _ _ _ _ _ us hl => match us, hl with | [_, _, _], _ => rfl)
  have h_all_fillings : Def G 2 "all_fillings" 1 sp_all_fillings := Def.of (st := s_all_fillings) (m := 0) F_all_fillings g_all_fillings sc_all_fillings (d_all_fillings B h_fillings_of) m_all_fillings rfl rfl (fun ds Q X h => by repeat (first | (refine Or.elim h (fun h => ?_) (fun h => ?_)) | (obtain ⟨rfl, _⟩ := h; rfl) | (obtain ⟨rfl | rfl, _⟩ := h <;> rfl) | (obtain ⟨⟨_, _, rfl, _⟩, _⟩ := h; rfl) | (obtain ⟨_, h⟩ := h))) (FunD.bindsN (ps := P_all_fillings) F_all_fillings fun _ _ _ _ _ _ us hl => match us, hl with | [_], _ => rfl)
  have h_law_dip : Def G 2 "_law_dip" 2 sp_law_dip := Def.of (st := s_law_dip) (m := 6) F_law_dip g_law_dip sc_law_dip (d_law_dip B h_law_prime) m_law_dip rfl rfl (fun ds Q X h => by repeat (first | (refine Or.elim h (fun h => ?_) (fun h => ?_)) | (obtain ⟨rfl, _⟩ := h; rfl) | (obtain ⟨rfl | rfl, _⟩ := h <;> rfl) | (obtain ⟨⟨_, _, rfl, _⟩, _⟩ := h; rfl) | (obtain ⟨_, h⟩ := h))) (FunD.bindsN (ps := P_law_dip) F_law_dip fun _ _ _ _ _ _ us hl => match us, hl with | [_, _], _ => rfl)
  have h_need_names : Def G 3 "need_names" 2 sp_need_names := Def.of (st := s_need_names) (m := 0) F_need_names g_need_names sc_need_names (d_need_names B h_are_names x_NoName) m_need_names rfl rfl (fun ds Q X h => by repeat (first | (refine Or.elim h (fun h => ?_) (fun h => ?_)) | (obtain ⟨rfl, _⟩ := h; rfl) | (obtain ⟨rfl | rfl, _⟩ := h <;> rfl) | (obtain ⟨⟨_, _, rfl, _⟩, _⟩ := h; rfl) | (obtain ⟨_, h⟩ := h))) (FunD.bindsN (ps := P_need_names) F_need_names fun _ _ _ _ _ _ us hl => match us, hl with | [_, _], _ => rfl)
  have h_joined_at : Def G 3 "joined_at" 3 sp_joined_at := Def.of (st := s_joined_at) (m := 2) F_joined_at g_joined_at sc_joined_at (d_joined_at B h_join h_unit h_worth_at) m_joined_at rfl rfl (fun ds Q X h => by repeat (first | (refine Or.elim h (fun h => ?_) (fun h => ?_)) | (obtain ⟨rfl, _⟩ := h; rfl) | (obtain ⟨rfl | rfl, _⟩ := h <;> rfl) | (obtain ⟨⟨_, _, rfl, _⟩, _⟩ := h; rfl) | (obtain ⟨_, h⟩ := h))) (FunD.bindsN (ps := P_joined_at) F_joined_at fun _ _ _ _ _ _ us hl => match us, hl with | [_, _, _], _ => rfl)
  have h_law_number : Def G 3 "_law_number" 2 sp_law_number := Def.of (st := s_law_number) (m := 1) F_law_number g_law_number sc_law_number (d_law_number B h_law_dip) m_law_number rfl rfl (fun ds Q X h => by repeat (first | (refine Or.elim h (fun h => ?_) (fun h => ?_)) | (obtain ⟨rfl, _⟩ := h; rfl) | (obtain ⟨rfl | rfl, _⟩ := h <;> rfl) | (obtain ⟨⟨_, _, rfl, _⟩, _⟩ := h; rfl) | (obtain ⟨_, h⟩ := h))) (FunD.bindsN (ps := P_law_number) F_law_number fun _ _ _ _ _ _ us hl => match us, hl with | [_, _], _ => rfl)
  have h_law_sizes : Def G 3 "_law_sizes" 3 sp_law_sizes := Def.of (st := s_law_sizes) (m := 3) F_law_sizes g_law_sizes sc_law_sizes (d_law_sizes B h_law_dip h_law_times) m_law_sizes rfl rfl (fun ds Q X h => by repeat (first | (refine Or.elim h (fun h => ?_) (fun h => ?_)) | (obtain ⟨rfl, _⟩ := h; rfl) | (obtain ⟨rfl | rfl, _⟩ := h <;> rfl) | (obtain ⟨⟨_, _, rfl, _⟩, _⟩ := h; rfl) | (obtain ⟨_, h⟩ := h))) (FunD.bindsN (ps := P_law_sizes) F_law_sizes fun _ _ _ _ _ _ us hl => match us, hl with | [_, _, _], _ => rfl)
  have h_law_some : Def G 3 "_law_some" 3 sp_law_some := Def.of (st := s_law_some) (m := 3) F_law_some g_law_some sc_law_some (d_law_some B h_law_dip) m_law_some rfl rfl (fun ds Q X h => by repeat (first | (refine Or.elim h (fun h => ?_) (fun h => ?_)) | (obtain ⟨rfl, _⟩ := h; rfl) | (obtain ⟨rfl | rfl, _⟩ := h <;> rfl) | (obtain ⟨⟨_, _, rfl, _⟩, _⟩ := h; rfl) | (obtain ⟨_, h⟩ := h))) (FunD.bindsN (ps := P_law_some) F_law_some fun _ _ _ _ _ _ us hl => match us, hl with | [_, _, _], _ => rfl)
  have h_whole : Def G 4 "whole" 2 sp_whole := Def.of (st := s_whole) (m := 1) F_whole g_whole sc_whole (d_whole B h_all_fillings h_gather h_joined_at) m_whole rfl rfl (fun ds Q X h => by repeat (first | (refine Or.elim h (fun h => ?_) (fun h => ?_)) | (obtain ⟨rfl, _⟩ := h; rfl) | (obtain ⟨rfl | rfl, _⟩ := h <;> rfl) | (obtain ⟨⟨_, _, rfl, _⟩, _⟩ := h; rfl) | (obtain ⟨_, h⟩ := h))) (FunD.bindsN (ps := P_whole) F_whole fun _ _ _ _ _ _ us hl => match us, hl with | [_, _], _ => rfl)
  have h_rest : Def G 4 "rest" 3 sp_rest := Def.of (st := s_rest) (m := 7) F_rest g_rest sc_rest (d_rest B h_all_fillings h_fillings_of h_gather h_joined_at h_need_names h_place_of) m_rest rfl rfl (fun ds Q X h => by repeat (first | (refine Or.elim h (fun h => ?_) (fun h => ?_)) | (obtain ⟨rfl, _⟩ := h; rfl) | (obtain ⟨rfl | rfl, _⟩ := h <;> rfl) | (obtain ⟨⟨_, _, rfl, _⟩, _⟩ := h; rfl) | (obtain ⟨_, h⟩ := h))) (FunD.bindsN (ps := P_rest) F_rest fun _ _ _ _ _ _ us hl => match us, hl with | [_, _, _], _ => rfl)
  have h_law_part : Def G 4 "_law_part" 4 sp_law_part := Def.of (st := s_law_part) (m := 4) F_law_part g_law_part sc_law_part (d_law_part B h_law_number h_law_some h_law_times) m_law_part rfl rfl (fun ds Q X h => by repeat (first | (refine Or.elim h (fun h => ?_) (fun h => ?_)) | (obtain ⟨rfl, _⟩ := h; rfl) | (obtain ⟨rfl | rfl, _⟩ := h <;> rfl) | (obtain ⟨⟨_, _, rfl, _⟩, _⟩ := h; rfl) | (obtain ⟨_, h⟩ := h))) (FunD.bindsN (ps := P_law_part) F_law_part fun _ _ _ _ _ _ us hl => match us, hl with | [_, _, _, _], _ => rfl)
  have h_law_sheet : Def G 5 "_law_sheet" 5 sp_law_sheet := Def.of (st := s_law_sheet) (m := 4) F_law_sheet g_law_sheet sc_law_sheet (d_law_sheet B h_law_dip h_law_part h_law_sizes) m_law_sheet rfl rfl (fun ds Q X h => by repeat (first | (refine Or.elim h (fun h => ?_) (fun h => ?_)) | (obtain ⟨rfl, _⟩ := h; rfl) | (obtain ⟨rfl | rfl, _⟩ := h <;> rfl) | (obtain ⟨⟨_, _, rfl, _⟩, _⟩ := h; rfl) | (obtain ⟨_, h⟩ := h))) (FunD.bindsN (ps := P_law_sheet) F_law_sheet fun _ _ _ _ _ _ us hl => match us, hl with | [_, _, _, _, _], _ => rfl)
  have h_law_ones_right : Def G 5 "_law_ones_right" 2 sp_law_ones_right := Def.of (st := s_law_ones_right) (m := 4) F_law_ones_right g_law_ones_right sc_law_ones_right (d_law_ones_right B h_law_some h_rest) m_law_ones_right rfl rfl (fun ds Q X h => by repeat (first | (refine Or.elim h (fun h => ?_) (fun h => ?_)) | (obtain ⟨rfl, _⟩ := h; rfl) | (obtain ⟨rfl | rfl, _⟩ := h <;> rfl) | (obtain ⟨⟨_, _, rfl, _⟩, _⟩ := h; rfl) | (obtain ⟨_, h⟩ := h))) (FunD.bindsN (ps := P_law_ones_right) F_law_ones_right fun _ _ _ _ _ _ us hl => match us, hl with | [_, _], _ => rfl)
  have h_law_numbers_right : DefT G (He.cT K pN).2 qN 5 "_law_numbers_right" 2 sp_law_numbers_right := ⟨⟨_, f_law_numbers_right, P_law_numbers_right, fnT_ok (G := G) (k := 4) (c := (He.cT K pN).1) (m := 13) (N := N_law_numbers_right) (ps := P_law_numbers_right) (st := s_law_numbers_right) (t := t_law_numbers_right) (spec := sp_law_numbers_right) (He5.fun_of F_law_numbers_right) sc_law_numbers_right (code_of (x := "_law_numbers_right") (st := s_law_numbers_right) F_law_numbers_right rfl) rfl TB (d_law_numbers_right B h_law_dip h_whole F_law_turned g_law_turned) m_law_numbers_right rfl, g_law_numbers_right, F_law_numbers_right.kp, (FunD.bindsN (ps := P_law_numbers_right) F_law_numbers_right fun _ _ _ _ _ _ us hl => match us, hl with | [_, _], _ => rfl)⟩, (fun ds Q X h => by repeat (first | (refine Or.elim h (fun h => ?_) (fun h => ?_)) | (obtain ⟨rfl, _⟩ := h; rfl) | (obtain ⟨rfl | rfl, _⟩ := h <;> rfl) | (obtain ⟨⟨_, _, rfl, _⟩, _⟩ := h; rfl) | (obtain ⟨_, h⟩ := h))), fun ds Q X X' h => h⟩
  exact fnT_any (G := G) (k := 5) (m := 2) (N := N_law) (ps := ["script"]) (st := s_law) (t := t_law) (spec := lawSpec 63) (He5.fun_of F_law) sc_law (d_law B h_law_jar h_law_numbers_right h_law_ones_right h_law_sheet) m_law rfl
end LS.K22.E
open PySem PySem.W PySem.Calls PyProof.Rows
theorem PySem.Challenge.cw_sumorder_k22_whole_words_beside_words_holds : PySem.Challenge.rw_sumorder_k22_whole_words_beside_words.Holds := by
  refine LS.K22.E.hold3 ?_
  intro w mg f h Y N hm
  obtain ⟨K, X, c⟩ := Y
  obtain ⟨fd, hb, hF⟩ := LS.K22.E.facts (w := w) X N hm c.t.d c.more
  have m : LS.K22.E.pN ∈ [LS.K22.E.pN] := List.mem_singleton.2 rfl
  exact ⟨K, fd, _, _, _, X, hb, c.empty _ m, c.out _ m, PySem.W.codeHd_of_K X (c.hd _ m), fun H a ns hl hH hS => HD.lawT_sp hl hH hS, hF⟩
