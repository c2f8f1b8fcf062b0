import PyProof.Rows.All
import Wide.All
import OpenK.AllK
import Wide.FinOn
import HandS.ForMost
import HandS.ForExc
import HandS.TupAny
import HandS.Conv
import HandS.HeadHook1
import HandS.Words
import HandS.WordsExc
import HandS.Ends
import HandS.ExcOwn
import HandS.TupLe
import HandS.Wide
import HandS.Strs
import HandS.SetFor
import HandS.SortInts
import HandS.IsInst
import HandS.Zip
import HandS.Flow
import HandS.Style
import KE.GoesNew
import KE.GoesMore
import KE.KStateDown
import HandS.Defaults
import HandS.Head0
import HandS.Head1
import HandS.Head2
import HandS.HeadEnd
import HandS.HeadHook2
import HandS.HeadNt
import HandS.ExcValue
import HandS.ExcIs
import HandS.Text
import PyProof.ReprRoads
import PyProof.ReprBulk
import PyProof.Rows.RegStrFacts
import HandS.RaiseMore
import HandS.ForDict
import HandS.Iter
import PyProof.AutoSeq1
import KE.DataMinMax
import PyProof.Rows.RowBridgeK
import KE.KDictSum
import KE.SortData
import KE.DataCmp
import KE.GoesEnum
import HandS.TupMul
import KE.KItemsList
import KE.KDictZip
import HandS.ListItems
import KE.KDictCopyH
import HandS.DictTup
import HandS.ExcInit
import HandS.ExcField
import KE.KTupSum
import PyProof.Transfer
import HandS.Deep
import HandS.NoneIn
import HandS.WordsDict
import HandS.More
import OpenK.KTop
import HandS.Dict
import HandS.Call
import PyProof.StrOps2
import HandS.Replace
import PyProof.WalkInts
import PySem.Challenge.RW_sumorder_k56_texts_refused
set_option Elab.async false
set_option linter.all false
set_option maxRecDepth 100000
set_option maxHeartbeats 0
set_option autoImplicit false
namespace LS.WD.RF.S56
open PySem PySem.W PySem.Calls PyProof.Rows
theorem hold_of (h : (OpenLaw.row PySem.Challenge.rw_sumorder_k56_texts_refused).wellSaid = true → (OpenLaw.row PySem.Challenge.rw_sumorder_k56_texts_refused).Holds) : PySem.Challenge.rw_sumorder_k56_texts_refused.Holds := by
  w_on; o_law
  exact h (by assumption)
end LS.WD.RF.S56
namespace HD
open PySem PyProof.Rows L2
def TupD (K : PySem.W.Frag) (H : Hp) (a : Addr) (xs : List V) : Prop :=
  (∃ o : Obj, H a = some (.frz o (.tup xs)) ∧ o.dict = none) ∨
    ∃ (o : Obj) (its : Array Value) (n : Nat), K.lookup a = some o ∧ o.cls = .type "tuple" ∧ o.data = .seq its n ∧ its.size ≤ sizeLine ∧ Vals xs its.toList ∧ o.dict = none
theorem TupD.sq {K : PySem.W.Frag} {H : Hp} {a : Addr} {xs : List V} (h : TupD K H a xs) : SqT K H a xs := by
  rcases h with ⟨o, h, _⟩ | ⟨o, its, n, h1, h2, h3, h4, h5, _⟩
  · exact .inl (.inr ⟨o, h⟩)
  · exact .inr ⟨o, its, n, h1, h2, h3, h4, h5⟩
theorem TupD.same {K : PySem.W.Frag} {H H' : Hp} {a : Addr} {xs : List V} (e : Same H H') (h : TupD K H a xs) : TupD K H' a xs := by
  rcases h with ⟨o, h, d⟩ | h
  · exact .inl ⟨o, e _ _ h, d⟩
  · exact .inr h
theorem TupD.noDict {X : Cx} {pins : List (Addr × Obj)} {σ : L2.St} {H : Hp} {s : Shared} {a : Addr} {xs : List V} (I : Inv X pins σ H s) (h : TupD X.K H a xs) : ∃ ob, s.heap.get? a = some ob ∧ ob.dict = none := by
  rcases h with ⟨o, h, d⟩ | ⟨o, its, n, h1, h2, h3, h4, h5, d⟩
  · obtain ⟨e, _⟩ := (show ObjOk X.prog X.w H s.heap a (.frz o (.tup xs)) from I.hok a _ h)
    exact ⟨o, e, d⟩
  · exact ⟨o, I.kIn a o h1, d⟩
def newT (H : Hp) (xs : List V) (Q : VK) : Prop := ∀ (p : Addr) (o : Obj), H p = none → o.dict = none → Q (.ref p) (upd H p (.frz o (.tup xs)))
theorem laidT {X : Cx} {pins : List (Addr × Obj)} {σ : L2.St} {H : Hp} {s : Shared} {Q : VK} {xs : List V} {its : List Value} {tk : Nat} (I : Inv X pins σ H s) (r : Vals xs its) (hz : xs.length ≤ sizeLine) (q : newT H xs Q) :
    EP X pins σ Q (.ref s.heap.objs.size) { s with heap := s.heap.push { cls := .type "tuple", data := .seq its.toArray }, toks := tk } := by
  have hf : H s.heap.objs.size = none := I.hok.fresh (Nat.le_refl _)
  refine ⟨.ref s.heap.objs.size, _, I.laid (t' := tk) (fun b u e => Heap.get?_push_of_some _ e) (Nat.le_refl _) ?_, rfl, q _ { cls := .type "tuple", data := .seq its.toArray } hf rfl⟩
  exact ⟨Heap.get?_push_size _ rfl, hz, its, r, IsTup.new _ _⟩
section
variable {X : Cx}
def tTupF (t : TA) : TE := fun σ H Q => t σ H fun xs H1 => xs.length ≤ sizeLine ∧ newT H1 xs Q
theorem pe_tupF {x1} {es : List Expr} {t : TA} {pos : Pos} (h : PA X es t) : PE X (.Tuple es x1 pos) (tTupF t) := by
  refine ⟨fun pins s σ H Q I hq => ?_⟩
  refine wpAny_Tuple_spliced (thn (h.run pos pins s σ H _ I hq) fun us s1 ⟨xs, H1, I1, r, z, q⟩ => ⟨by rw [← r.length]; exact z, ?_⟩)
  exact laidT (tk := s1.toks) I1 r z q
def rCatF (K : PySem.W.Frag) : R2 := fun x y H Q => ∃ a b xs ys, x = .ref a ∧ y = .ref b ∧ SqT K H a xs ∧ SqT K H b ys ∧ xs.length + ys.length ≤ sizeLine ∧
  (xs = [] → Q (.ref b) H) ∧ (xs ≠ [] → ys = [] → Q (.ref a) H) ∧ (xs ≠ [] → ys ≠ [] → newT H (xs ++ ys) Q)
theorem op_catF : OpR X (binaryOp .Add) (rCatF X.K) := by
  intro pins s σ H x y v u Q I rx ry h
  obtain ⟨a, b, xs, ys, rfl, rfl, ha, hb, hz, q0, q1, q2⟩ := h
  cases rx
  cases ry
  obtain ⟨its, r1, p1, _⟩ := I.tuple ha
  obtain ⟨its2, r2, p2, _⟩ := I.tuple hb
  by_cases hx : xs = []
  · subst hx
    cases r1
    exact cat_tup0 p1 p2 ⟨.ref b, H, I, rfl, q0 rfl⟩
  · refine HT.cat_tup p1 p2 (fun z => hx (r1.nil_iff.mp z)) (fun z => ⟨.ref a, H, I, rfl, q1 hx (r2.nil_iff.mp z)⟩) (fun z => ?_) (by rw [← r1.length, ← r2.length]; exact hz)
    exact laidT (tk := s.toks) I (r1.append r2) (by rw [List.length_append]; exact hz) (q2 hx fun w => z (r2.nil_iff.mpr w))
def rSlF (K : PySem.W.Frag) : V → Option Int → Option Int → Hp → VK → Prop := fun x lo hi H Q => ∃ a xs, x = .ref a ∧ SqT K H a xs ∧
  (HT.sIx xs.length 0 lo = 0 ∧ HT.sIx xs.length xs.length hi = xs.length → Q (.ref a) H) ∧ (¬ (HT.sIx xs.length 0 lo = 0 ∧ HT.sIx xs.length xs.length hi = xs.length) → newT H (cutV xs lo hi) Q)
theorem sl_tupF : SlR X (rSlF X.K) := by
  intro pins s σ H x v vl vu lo hi sl Q I rx hs pl pu h
  obtain ⟨a, xs, rfl, hx, q1, q2⟩ := h
  cases rx
  obtain ⟨its, r, ht, hz⟩ := I.tuple hx
  have hlen : its.toArray.size = xs.length := by
    rw [List.size_toArray]
    exact r.length.symm
  refine ⟨"tuple", _, PyProof.Rows.slot_tuple_getitem.lookup, ht.typeIs, ?_⟩
  by_cases hw : HT.sIx xs.length 0 lo = 0 ∧ HT.sIx xs.length xs.length hi = xs.length
  · exact getItem_tuple_whole ht hs pl pu (by rw [hlen]; exact hw) ⟨.ref a, H, I, rfl, q1 hw⟩
  · refine HT.getItem_tuple_cut ht hs pl pu (by rw [hlen]; exact hw) ?_ (by rw [hlen]; exact hz)
    rw [hlen]
    exact laidT (tk := s.toks) I ((r.drop (HT.sIx xs.length 0 lo)).take (HT.sIx xs.length xs.length hi - HT.sIx xs.length 0 lo)) (Nat.le_trans (cutV_length xs lo hi) hz) (q2 hw)
theorem call_tupleF : CallR X (.type "tuple") (fun xs H Q => ∃ p ys, xs = [.ref p] ∧ ((SqL X.K H p ys ∧ newT H ys Q) ∨ (SqT X.K H p ys ∧ Q (.ref p) H))) := by
  intro pins s σ H xs us Q I r h
  obtain ⟨p, ys, rfl, h⟩ := h
  obtain ⟨u, rfl, rx⟩ := vals1 r
  cases rx
  rcases h with ⟨hq, q⟩ | ⟨hq, q⟩
  · obtain ⟨its, r', pl, hz⟩ := I.list hq
    have hlen := r'.length
    refine call_tuple_list pl.isList (fun h' kp => ?_) (by simp only [List.size_toArray] <;> omega)
    have I1 : Inv X pins σ H { s with heap := h' } := I.kept (t' := s.toks) kp
    exact laidT (tk := s.toks) I1 r' hz q
  · obtain ⟨its, r', pl, hz⟩ := I.tuple hq
    exact call_tuple_same pl ⟨.ref p, H, I, rfl, q⟩
end
end HD
namespace HD
open PySem L2
abbrev clsV (K : PySem.W.Frag) (x : Str) : Value := .ref (He.ga K x)
inductive D where
  | non | bl (b : Bool) | int (i : Int) | str (x : Str) | val (v : V)
  | lst (ds : List D) | tup (ds : List D) | fz (ds : List D) | tk (ds : List D)
  | exc (c : Str)
  | glo (x : Str)
  | dk (ks : List Key) (ds : List D)
  | dt (ks : List (List Int)) (ds : List D)
def ntS (n : Nat) : Str := Str.ofString "NoText#" ++ ⟨Array.replicate n 49⟩
def isNt (c : Str) : Bool := c.cps.toList.take 7 == (Str.ofString "NoText#").cps.toList
def xk (c : Str) : Str := if isNt c then "NoText" else c
theorem isNt_nt (n : Nat) : isNt (ntS n) = true := by
  unfold isNt ntS
  show ((Str.ofString "NoText#").cps ++ Array.replicate n 49).toList.take 7 == _
  rw [Array.toList_append, List.take_append_of_le_length (by decide +kernel)]
  decide +kernel
theorem xk_nt (n : Nat) : xk (ntS n) = "NoText" := by
  unfold xk
  rw [isNt_nt]
  rfl
theorem ntS_inj {m n : Nat} (h : ntS m = ntS n) : m = n := by
  have h2 : (Str.ofString "NoText#").cps ++ Array.replicate m 49 = (Str.ofString "NoText#").cps ++ Array.replicate n 49 := congrArg Str.cps h
  have h3 := congrArg Array.size h2
  simp only [Array.size_append, Array.size_replicate] at h3
  omega
def XD (F : Hp) (c : Str) (d : Option Addr) : Prop := (isNt c = false ∧ d = none) ∨ ∃ (n : Nat) (dd : Addr) (fs : List (Str × V)), c = ntS n ∧ d = some dd ∧ F dd = some (.xd fs) ∧ fs.lookup ("at" : Str) = some (V.int (n : Int))
theorem XD.same {F F' : Hp} {c : Str} {d : Option Addr} (e : Same F F') (h : XD F c d) : XD F' c d := by
  rcases h with h | ⟨n, dd, fs, h1, h2, h3, h4⟩
  · exact .inl h
  · exact .inr ⟨n, dd, fs, h1, h2, e _ _ h3, h4⟩
def hT (ks : List Int) : Int := reduceHash (Builtin.Tuple.tupleHashOf (ks.map hashInt))
def dtO (a : Addr) (kbs : List (List Int × Addr × V)) : HO := .ext fun h => kbs.length ≤ sizeLine ∧ (a == sysModules) = false ∧ (kbs.map (·.1)).Nodup ∧ ∃ (us : List Value) (o : Obj) (es : Array DictEntry) (ep : Nat),
  Vals (kbs.map (·.2.2)) us ∧ h.get? a = some o ∧ o.ExactDict ∧ o.data = .dict es ep ∧ es.toList = (kbs.zip us).map fun x => ⟨hT x.1.1, .ref x.1.2.1, x.2⟩
mutual
def Rep (K : PySem.W.Frag) (F : Hp) : D → V → Prop
  | .non, v => v = .non
  | .bl b, v => v = .bl b
  | .int i, v => v = .int i
  | .str x, v => v = .str x
  | .val u, v => v = u
  | .lst ds, v => ∃ a xs, v = .ref a ∧ F a = some (.lst xs) ∧ Reps K F ds xs
  | .fz ds, v => ∃ a xs, v = .ref a ∧ SqL K F a xs ∧ Reps K F ds xs
  | .tup ds, v => ∃ a xs, v = .ref a ∧ TupD K F a xs ∧ Reps K F ds xs
  | .tk ds, v => ∃ a xs, v = .ref a ∧ SqT K F a xs ∧ Reps K F ds xs
  | .glo x, v => v = .ref (He.ga K x)
  | .exc c, v => ∃ a oe, v = .ref a ∧ F a = some (.frz oe (.own a)) ∧ oe.cls = clsV K (xk c) ∧ XD F c oe.dict ∧ ∃ vs, oe.data = .fields vs
  | .dk ks ds, v => ∃ a od vs, v = .ref a ∧ F a = some (.frz od (.dK vs)) ∧ vs.map (·.1) = ks ∧ Reps K F ds (vs.map (·.2))
  | .dt ks ds, v => ∃ a od kbs, v = .ref a ∧ F a = some (.frz od (dtO a kbs)) ∧ kbs.map (·.1) = ks ∧ (∀ x ∈ kbs, TupD K F x.2.1 (x.1.map V.int)) ∧ Reps K F ds (kbs.map (·.2.2))
def Reps (K : PySem.W.Frag) (F : Hp) : List D → List V → Prop
  | [], vs => vs = []
  | d :: ds, vs => ∃ v r, vs = v :: r ∧ Rep K F d v ∧ Reps K F ds r
end
theorem SqT.same {K : PySem.W.Frag} {F F' : Hp} {a : Addr} {xs : List V} (e : Same F F') (h : SqT K F a xs) : SqT K F' a xs := by
  rcases h with (h | ⟨o, h⟩) | h
  · exact .inl (.inl (e _ _ h))
  · exact .inl (.inr ⟨o, e _ _ h⟩)
  · exact .inr h
section
variable {K : PySem.W.Frag} {F F' : Hp}
mutual
theorem Rep.same (e : Same F F') : ∀ {d : D} {v : V}, Rep K F d v → Rep K F' d v
  | .non, _, h => h
  | .bl _, _, h => h
  | .int _, _, h => h
  | .str _, _, h => h
  | .val _, _, h => h
  | .lst _, _, h => by
    obtain ⟨a, xs, rfl, hs, hr⟩ := h
    exact ⟨a, xs, rfl, e _ _ hs, Reps.same e hr⟩
  | .fz _, _, h => by
    obtain ⟨a, xs, rfl, hs, hr⟩ := h
    exact ⟨a, xs, rfl, e.seq hs, Reps.same e hr⟩
  | .tup _, _, h => by
    obtain ⟨a, xs, rfl, hs, hr⟩ := h
    exact ⟨a, xs, rfl, TupD.same e hs, Reps.same e hr⟩
  | .tk _, _, h => by
    obtain ⟨a, xs, rfl, hs, hr⟩ := h
    exact ⟨a, xs, rfl, SqT.same e hs, Reps.same e hr⟩
  | .glo _, _, h => h
  | .exc _, _, h => by
    obtain ⟨a, oe, rfl, hs, h1, h2, hr⟩ := h
    exact ⟨a, oe, rfl, e _ _ hs, h1, h2.same e, hr⟩
  | .dk _ _, _, h => by
    obtain ⟨a, od, vs, rfl, hs, hk, hr⟩ := h
    exact ⟨a, od, vs, rfl, e _ _ hs, hk, Reps.same e hr⟩
  | .dt _ _, _, h => by
    obtain ⟨a, od, vs, rfl, hs, hk, ht, hr⟩ := h
    exact ⟨a, od, vs, rfl, e _ _ hs, hk, fun x hx => TupD.same e (ht x hx), Reps.same e hr⟩
theorem Reps.same (e : Same F F') : ∀ {ds : List D} {vs : List V}, Reps K F ds vs → Reps K F' ds vs
  | [], _, h => h
  | _ :: _, _, h => by
    obtain ⟨v, r, rfl, h1, h2⟩ := h
    exact ⟨v, r, rfl, Rep.same e h1, Reps.same e h2⟩
end
theorem Reps.nil : Reps K F [] [] := rfl
theorem Reps.cons {d : D} {v : V} {ds : List D} {vs : List V} (h : Rep K F d v) (t : Reps K F ds vs) : Reps K F (d :: ds) (v :: vs) := ⟨v, vs, rfl, h, t⟩
theorem Reps.length : ∀ {ds : List D} {vs : List V}, Reps K F ds vs → ds.length = vs.length
  | [], _, h => by
    have e : _ = [] := h
    rw [e]
    rfl
  | _ :: ds, _, h => by
    obtain ⟨v, r, rfl, _, h2⟩ := h
    rw [List.length_cons, List.length_cons, Reps.length h2]
theorem Reps.get : ∀ {ds : List D} {vs : List V} {i : Nat} {d : D}, Reps K F ds vs → ds[i]? = some d → ∃ v, vs[i]? = some v ∧ Rep K F d v
  | [], _, _, _, _, e => by simp at e
  | _ :: ds, _, 0, _, h, e => by
    obtain ⟨v, r, rfl, h1, _⟩ := h
    have e' := Option.some.inj e
    subst e'
    exact ⟨v, rfl, h1⟩
  | _ :: ds, _, i + 1, _, h, e => by
    obtain ⟨v, r, rfl, _, h2⟩ := h
    exact Reps.get (i := i) h2 e
theorem Reps.of_get : ∀ {ds : List D} {vs : List V}, ds.length = vs.length → (∀ (i : Nat) d v, ds[i]? = some d → vs[i]? = some v → Rep K F d v) → Reps K F ds vs
  | [], [], _, _ => rfl
  | [], _ :: _, e, _ => by simp at e
  | _ :: _, [], e, _ => by simp at e
  | d :: ds, v :: vs, e, h => ⟨v, vs, rfl, h 0 d v rfl rfl, Reps.of_get (by simpa using e) fun i d' v' h1 h2 => h (i + 1) d' v' h1 h2⟩
theorem Reps.append : ∀ {ds es : List D} {vs us : List V}, Reps K F ds vs → Reps K F es us → Reps K F (ds ++ es) (vs ++ us)
  | [], _, _, _, h, g => by
    have e : _ = [] := h
    rw [e]
    exact g
  | _ :: _, _, _, _, h, g => by
    obtain ⟨v, r, rfl, h1, h2⟩ := h
    exact ⟨v, _, rfl, h1, Reps.append h2 g⟩
theorem Reps.one {d : D} {v : V} (h : Rep K F d v) : Reps K F [d] [v] := .cons h .nil
theorem Reps.take {ds : List D} {vs : List V} (h : Reps K F ds vs) (n : Nat) : Reps K F (ds.take n) (vs.take n) := by
  refine Reps.of_get (by rw [List.length_take, List.length_take, h.length]) fun i d v h1 h2 => ?_
  rw [List.getElem?_take] at h1 h2
  split at h1
  · rename_i hi
    rw [if_pos hi] at h2
    obtain ⟨v', e, r⟩ := h.get h1
    rw [h2] at e
    cases e
    exact r
  · cases h1
theorem Reps.drop {ds : List D} {vs : List V} (h : Reps K F ds vs) (n : Nat) : Reps K F (ds.drop n) (vs.drop n) := by
  refine Reps.of_get (by rw [List.length_drop, List.length_drop, h.length]) fun i d v h1 h2 => ?_
  rw [List.getElem?_drop] at h1 h2
  obtain ⟨v', e, r⟩ := h.get h1
  rw [h2] at e
  cases e
  exact r
theorem Reps.set {ds : List D} {vs : List V} (h : Reps K F ds vs) (n : Nat) {d : D} {v : V} (hd : Rep K F d v) : Reps K F (ds.set n d) (vs.set n v) := by
  refine Reps.of_get (by rw [List.length_set, List.length_set, h.length]) fun i d' v' h1 h2 => ?_
  rw [List.getElem?_set] at h1 h2
  split at h1
  · rename_i hi
    rw [if_pos hi] at h2
    split at h1
    · split at h2
      · cases h1
        cases h2
        exact hd
      · cases h2
    · cases h1
  · rename_i hi
    rw [if_neg hi] at h2
    obtain ⟨w, e, r⟩ := h.get h1
    rw [h2] at e
    cases e
    exact r
theorem Reps.eraseIdx : ∀ {ds : List D} {vs : List V} (n : Nat), Reps K F ds vs → Reps K F (ds.eraseIdx n) (vs.eraseIdx n)
  | [], _, _, h => by
    have e : _ = [] := h
    rw [e]
    exact rfl
  | _ :: _, _, 0, h => by
    obtain ⟨v, r, rfl, _, h2⟩ := h
    exact h2
  | _ :: _, _, n + 1, h => by
    obtain ⟨v, r, rfl, h1, h2⟩ := h
    exact ⟨v, _, rfl, h1, Reps.eraseIdx n h2⟩
theorem Reps.ints : ∀ {ns : List Int} {vs : List V}, Reps K F (ns.map D.int) vs → vs = ns.map V.int
  | [], _, h => h
  | n :: ns, _, h => by
    obtain ⟨v, r, rfl, h1, h2⟩ := h
    have e : v = .int n := h1
    rw [e, Reps.ints (ns := ns) h2]
    rfl
theorem Reps.of_ints : ∀ (ns : List Int), Reps K F (ns.map D.int) (ns.map V.int)
  | [] => rfl
  | n :: ns => ⟨_, _, rfl, rfl, Reps.of_ints ns⟩
theorem Reps.bls : ∀ {bs : List Bool} {vs : List V}, Reps K F (bs.map D.bl) vs → vs = bs.map V.bl
  | [], _, h => h
  | n :: ns, _, h => by
    obtain ⟨v, r, rfl, h1, h2⟩ := h
    have e : v = .bl n := h1
    rw [e, Reps.bls (bs := ns) h2]
    rfl
end
inductive OC where
  | lst (ds : List D)
  | dk (kvs : List (Key × D))
  | dt (kvs : List (List Int × D))
  | ins (c : Str) (dx : Addr) (fs : List (Str × D))
  | own (x : Addr)
  | lkK (od : Obj) (vs : List (Key × V)) (kvs : List (Key × D))
  | lkT (od : Obj) (kbs : List (List Int × Addr × V)) (kvs : List (List Int × D))
def OC.ok (K : PySem.W.Frag) (F : Hp) (a : Addr) : OC → HO → Prop
  | .lst ds, o => ∃ vs, o = .lst vs ∧ Reps K F ds vs
  | .dk kvs, o => ∃ vs : List (Key × V), o = .dK vs ∧ vs.map (·.1) = kvs.map (·.1) ∧ Reps K F (kvs.map (·.2)) (vs.map (·.2))
  | .dt kvs, o => ∃ kbs : List (List Int × Addr × V), o = dtO a kbs ∧ kbs.map (·.1) = kvs.map (·.1) ∧ (∀ x ∈ kbs, TupD K F x.2.1 (x.1.map V.int)) ∧ Reps K F (kvs.map (·.2)) (kbs.map (·.2.2))
  | .ins c dx fs, o => ∃ vs : List (Str × V), o = .ins (He.ga K c) dx vs ∧ vs.map (·.1) = fs.map (·.1) ∧ Reps K F (fs.map (·.2)) (vs.map (·.2))
  | .own x, o => o = .own x
  | .lkK od vs kvs, o => o = .frz od (.dK vs) ∧ vs.map (·.1) = kvs.map (·.1) ∧ Reps K F (kvs.map (·.2)) (vs.map (·.2))
  | .lkT od kbs kvs, o => o = .frz od (dtO a kbs) ∧ kbs.map (·.1) = kvs.map (·.1) ∧ (∀ x ∈ kbs, TupD K F x.2.1 (x.1.map V.int)) ∧ Reps K F (kvs.map (·.2)) (kbs.map (·.2.2))
theorem OC.ok.same {K : PySem.W.Frag} {F F' : Hp} {a : Addr} (e : Same F F') : ∀ {c : OC} {o : HO}, OC.ok K F a c o → OC.ok K F' a c o
  | .lst _, _, ⟨vs, h1, h2⟩ => ⟨vs, h1, h2.same e⟩
  | .dk _, _, ⟨vs, h1, h2, h3⟩ => ⟨vs, h1, h2, h3.same e⟩
  | .dt _, _, ⟨vs, h1, h2, h3, h4⟩ => ⟨vs, h1, h2, fun x hx => TupD.same e (h3 x hx), h4.same e⟩
  | .ins _ _ _, _, ⟨vs, h1, h2, h3⟩ => ⟨vs, h1, h2, h3.same e⟩
  | .own _, _, h => h
  | .lkK _ _ _, _, ⟨h1, h2, h3⟩ => ⟨h1, h2, h3.same e⟩
  | .lkT _ _ _, _, ⟨h1, h2, h3, h4⟩ => ⟨h1, h2, fun x hx => TupD.same e (h3 x hx), h4.same e⟩
def Loose (o : HO) : Prop := (∀ xs, o ≠ .tup xs) ∧ (∀ od xs, o ≠ .frz od (.tup xs)) ∧ ∀ fs, o ≠ .xd fs
theorem OC.ok.loose {K : PySem.W.Frag} {F : Hp} {a : Addr} : ∀ {c : OC} {o : HO}, OC.ok K F a c o → Loose o
  | .lst _, _, ⟨vs, h1, _⟩ => by subst h1; exact ⟨fun _ z => (nomatch z), fun _ _ z => (nomatch z), fun _ z => (nomatch z)⟩
  | .dk _, _, ⟨vs, h1, _⟩ => by subst h1; exact ⟨fun _ z => (nomatch z), fun _ _ z => (nomatch z), fun _ z => (nomatch z)⟩
  | .dt _, _, ⟨vs, h1, _⟩ => by subst h1; exact ⟨fun _ z => (nomatch z), fun _ _ z => (nomatch z), fun _ z => (nomatch z)⟩
  | .ins _ _ _, _, ⟨vs, h1, _⟩ => by subst h1; exact ⟨fun _ z => (nomatch z), fun _ _ z => (nomatch z), fun _ z => (nomatch z)⟩
  | .own _, _, h => by
    have e : _ = HO.own _ := h
    subst e
    exact ⟨fun _ z => (nomatch z), fun _ _ z => (nomatch z), fun _ z => (nomatch z)⟩
  | .lkK _ _ _, _, ⟨h1, _⟩ => by subst h1; exact ⟨fun _ z => (nomatch z), fun _ _ z => (nomatch z), fun _ z => (nomatch z)⟩
  | .lkT _ _ _, _, ⟨h1, _⟩ => by subst h1; exact ⟨fun _ z => (nomatch z), fun _ _ z => (nomatch z), fun _ z => (nomatch z)⟩
inductive Sl where
  | un
  | ext (d : D)
  | lst (a : Addr) (ds : List D)
  | al (i : Nat) (a : Addr)
  | reg (d : D) (cs : List (Addr × OC))
  | ar (i : Nat) (b : Addr)
def Sl.owned : Sl → List Addr
  | .lst a _ => [a]
  | .reg _ cs => cs.map (·.1)
  | _ => []
def cellOf : List (Addr × OC) → Addr → Option OC
  | [], _ => none
  | p :: r, b => if p.1 = b then some p.2 else cellOf r b
def SlOk (K : PySem.W.Frag) (F H : Hp) (v : V) : Sl → Prop
  | .un => True
  | .ext d => Rep K F d v
  | .lst a ds => v = .ref a ∧ F a = none ∧ ∃ vs, H a = some (.lst vs) ∧ Reps K F ds vs
  | .al _ a => v = .ref a
  | .ar _ b => v = .ref b
  | .reg d cs => Rep K F d v ∧ (cs.map (·.1)).Nodup ∧ ∀ p ∈ cs, F p.1 = none ∧ ∃ o, H p.1 = some o ∧ OC.ok K F p.1 p.2 o
theorem SlOk.ndo {K : PySem.W.Frag} {F H : Hp} {v : V} : ∀ {sl : Sl}, SlOk K F H v sl → sl.owned.Nodup
  | .un, _ => List.nodup_nil
  | .ext _, _ => List.nodup_nil
  | .al _ _, _ => List.nodup_nil
  | .lst _ _, _ => List.pairwise_singleton _ _
  | .ar _ _, _ => List.nodup_nil
  | .reg _ _, h => h.2.1
structure Ent where
  F0 : Hp
  H0 : Hp
  A0 : List Addr
abbrev Env' := List Sl
abbrev Tmp := List (V × Sl)
def ownedE (env : Env') : List Addr := env.flatMap Sl.owned
def ownedT (T : Tmp) : List Addr := T.flatMap fun p => p.2.owned
structure Holds (K : PySem.W.Frag) (e : Ent) (env : Env') (T : Tmp) (F : Hp) (σ : St) (H : Hp) : Prop where
  fh : Same F H
  len : env.length = σ.length
  slots : ∀ (i : Nat) sl, env[i]? = some sl → sl = .un ∨ ∃ v, σ[i]? = some (some v) ∧ SlOk K F H v sl
  temps : ∀ p ∈ T, SlOk K F H p.1 p.2
  nd : (ownedE env ++ ownedT T).Nodup
  s1 : Same e.F0 F
  s2 : ∀ a o, e.H0 a = some o → a ∉ e.A0 → H a = some o ∧ (e.F0 a = none → F a = none)
  s3 : ∀ a ∈ ownedE env ++ ownedT T, a ∈ e.A0 ∨ e.H0 a = none
structure Grow (F H F1 H1 : Hp) : Prop where
  ff : Same F F1
  hh : Same H H1
  fh : Same F1 H1
  new : ∀ a, F1 a ≠ none → F a ≠ none ∨ H a = none
theorem Grow.refl {F H : Hp} (h : Same F H) : Grow F H F H := ⟨Same.refl _, Same.refl _, h, fun _ z => .inl z⟩
theorem Grow.trans {F H F1 H1 F2 H2 : Hp} (g : Grow F H F1 H1) (k : Grow F1 H1 F2 H2) : Grow F H F2 H2 :=
  ⟨g.ff.trans k.ff, g.hh.trans k.hh, k.fh, fun a z => by
    rcases k.new a z with z | z
    · exact g.new a z
    · exact .inr (g.hh.free z)⟩
theorem Grow.frozen {F H : Hp} {p : Addr} {o : HO} (fh : Same F H) (n : H p = none) : Grow F H (upd F p o) (upd H p o) where
  ff := fun b x q => by
    rw [upd_ne (ne_of_none (fh _ _ q) n)]
    exact q
  hh := fun b x q => by
    rw [upd_ne (ne_of_none q n)]
    exact q
  fh := fun b x q => by
    by_cases e : b = p
    · subst e
      rw [upd_same] at q ⊢
      exact q
    · rw [upd_ne e] at q ⊢
      exact fh _ _ q
  new := fun a z => by
    by_cases e : a = p
    · subst e
      exact .inr n
    · rw [upd_ne e] at z
      exact .inl z
theorem Grow.loose {F H : Hp} {p : Addr} {o : HO} (fh : Same F H) (n : H p = none) : Grow F H F (upd H p o) where
  ff := Same.refl _
  hh := fun b x q => by
    rw [upd_ne (ne_of_none q n)]
    exact q
  fh := fun b x q => by
    rw [upd_ne (ne_of_none (fh _ _ q) n)]
    exact fh _ _ q
  new := fun a z => .inl z
theorem SlOk.grow {K : PySem.W.Frag} {F H F1 H1 : Hp} {v : V} (g : Grow F H F1 H1) : ∀ {sl : Sl}, SlOk K F H v sl → SlOk K F1 H1 v sl
  | .un, _ => trivial
  | .ext d, h => Rep.same g.ff h
  | .al _ _, h => h
  | .lst a ds, h => by
    obtain ⟨rfl, n, vs, hv, hr⟩ := h
    refine ⟨rfl, ?_, vs, g.hh _ _ hv, hr.same g.ff⟩
    cases q : F1 a with
    | none => rfl
    | some o =>
      rcases g.new a (by rw [q]; simp) with z | z
      · exact absurd n z
      · rw [hv] at z
        cases z
  | .ar _ _, h => h
  | .reg d cs, h => by
    obtain ⟨rd, nd, hc⟩ := h
    refine ⟨Rep.same g.ff rd, nd, fun p hp => ?_⟩
    obtain ⟨n, o, ho, ok⟩ := hc p hp
    refine ⟨?_, o, g.hh _ _ ho, ok.same g.ff⟩
    cases q : F1 p.1 with
    | none => rfl
    | some o' =>
      rcases g.new p.1 (by rw [q]; simp) with z | z
      · exact absurd n z
      · rw [ho] at z
        cases z
section
variable {K : PySem.W.Frag} {e : Ent} {env : Env'} {T : Tmp} {F F1 : Hp} {σ : St} {H H1 : Hp}
theorem Holds.ownedL (h : Holds K e env T F σ H) : ∀ a ∈ ownedE env ++ ownedT T, F a = none ∧ ∃ o, H a = some o ∧ Loose o := fun a ha => by
  have key : ∀ v (sl : Sl), SlOk K F H v sl → a ∈ sl.owned → F a = none ∧ ∃ o, H a = some o ∧ Loose o := fun v sl ok hm => by
    cases sl with
    | un => cases hm
    | ext d => cases hm
    | al i b => cases hm
    | lst b ds =>
      obtain ⟨_, n, vs, hv, _⟩ := ok
      have z : a = b := List.mem_singleton.mp hm
      subst z
      exact ⟨n, _, hv, ⟨fun _ z => (nomatch z), fun _ _ z => (nomatch z), fun _ z => (nomatch z)⟩⟩
    | ar i b => cases hm
    | reg b cs =>
      obtain ⟨_, _, hc⟩ := ok
      obtain ⟨p, hp, rfl⟩ := List.mem_map.mp hm
      obtain ⟨n, o, ho, ok⟩ := hc p hp
      exact ⟨n, o, ho, ok.loose⟩
  rcases List.mem_append.mp ha with ha | ha
  · obtain ⟨sl, hs, hm⟩ := List.mem_flatMap.mp ha
    obtain ⟨i, hi, rfl⟩ := List.getElem_of_mem hs
    rcases h.slots i _ (List.getElem?_eq_getElem hi) with z | ⟨v, _, ok⟩
    · rw [z] at hm
      cases hm
    · exact key v _ ok hm
  · obtain ⟨p, hp, hm⟩ := List.mem_flatMap.mp ha
    exact key p.1 p.2 (h.temps p hp) hm
theorem Holds.ownedH (h : Holds K e env T F σ H) : ∀ a ∈ ownedE env ++ ownedT T, F a = none ∧ ∃ o, H a = some o := fun a ha => by
  obtain ⟨n, o, ho, _⟩ := h.ownedL a ha
  exact ⟨n, o, ho⟩
theorem Holds.grow (h : Holds K e env T F σ H) (g : Grow F H F1 H1) : Holds K e env T F1 σ H1 where
  fh := g.fh
  len := h.len
  slots := fun i sl q => by
    rcases h.slots i sl q with z | ⟨v, hv, ok⟩
    · exact .inl z
    · exact .inr ⟨v, hv, ok.grow g⟩
  temps := fun p hp => (h.temps p hp).grow g
  nd := h.nd
  s1 := h.s1.trans g.ff
  s2 := fun a o q n => by
    obtain ⟨q1, q2⟩ := h.s2 a o q n
    refine ⟨g.hh _ _ q1, fun z => ?_⟩
    cases r : F1 a with
    | none => rfl
    | some x =>
      rcases g.new a (by rw [r]; simp) with y | y
      · exact absurd (q2 z) y
      · rw [q1] at y
        cases y
  s3 := h.s3
theorem Holds.push {v : V} {sl : Sl} (h : Holds K e env T F σ H) (g : Grow F H F1 H1) (ok : SlOk K F1 H1 v sl) (own : ∀ a ∈ sl.owned, H a = none) : Holds K e env ((v, sl) :: T) F1 σ H1 := by
  have h1 := h.grow g
  have old := h.ownedH
  have ndo : sl.owned.Nodup := ok.ndo
  have dis : ∀ a ∈ sl.owned, a ∉ ownedE env ++ ownedT T := fun a ha hb => by
    obtain ⟨_, vs, q⟩ := old a hb
    rw [own a ha] at q
    cases q
  refine ⟨h1.fh, h1.len, h1.slots, fun p hp => ?_, ?_, h1.s1, h1.s2, fun a ha => ?_⟩
  · rcases List.mem_cons.mp hp with rfl | hp
    · exact ok
    · exact h1.temps p hp
  · show (ownedE env ++ (sl.owned ++ ownedT T)).Nodup
    have z := h.nd
    rw [List.nodup_append] at z ⊢
    obtain ⟨z1, z2, z3⟩ := z
    refine ⟨z1, ?_, fun a ha b hb => ?_⟩
    · rw [List.nodup_append]
      exact ⟨ndo, z2, fun a ha b hb e => dis a ha (by rw [e]; exact List.mem_append_right _ hb)⟩
    · rcases List.mem_append.mp hb with hb | hb
      · exact fun e => dis b hb (by rw [← e]; exact List.mem_append_left _ ha)
      · exact z3 a ha b hb
  · have ha' : a ∈ ownedE env ++ (sl.owned ++ ownedT T) := ha
    rcases List.mem_append.mp ha' with hb | hb
    · exact h.s3 a (List.mem_append_left _ hb)
    · rcases List.mem_append.mp hb with hb | hb
      · have hn := own a hb
        cases q : e.H0 a with
        | none => exact .inr rfl
        | some o =>
          by_cases hA : a ∈ e.A0
          · exact .inl hA
          · rw [(h.s2 a o q hA).1] at hn
            cases hn
      · exact h.s3 a (List.mem_append_right _ hb)
theorem Holds.pushE {v : V} {d : D} (h : Holds K e env T F σ H) (ok : Rep K F d v) : Holds K e env ((v, .ext d) :: T) F σ H :=
  h.push (Grow.refl h.fh) ok fun a ha => by cases ha
theorem Holds.pushA {i : Nat} {a : Addr} (h : Holds K e env T F σ H) : Holds K e env ((.ref a, .al i a) :: T) F σ H :=
  h.push (Grow.refl h.fh) rfl fun a ha => by cases ha
theorem ownedT_sub {T T' : Tmp} (s : T'.Sublist T) : (ownedT T').Sublist (ownedT T) := by
  unfold ownedT
  induction s with
  | slnil => exact .slnil
  | cons a _ ih => exact ih.trans (List.sublist_append_right _ _)
  | cons_cons a _ ih => exact (List.Sublist.refl _).append ih
theorem Holds.sub {T' : Tmp} (h : Holds K e env T F σ H) (s : T'.Sublist T) : Holds K e env T' F σ H := by
  have so : (ownedT T').Sublist (ownedT T) := ownedT_sub s
  have sa : (ownedE env ++ ownedT T').Sublist (ownedE env ++ ownedT T) := (List.Sublist.refl _).append so
  exact ⟨h.fh, h.len, h.slots, fun p hp => h.temps p (s.subset hp), h.nd.sublist sa, h.s1, h.s2, fun a ha => h.s3 a (sa.subset ha)⟩
theorem Holds.pop {p : V × Sl} (h : Holds K e env (p :: T) F σ H) : Holds K e env T F σ H := h.sub (List.sublist_cons_self _ _)
theorem splitE {env : Env'} {i : Nat} {sl : Sl} (h : env[i]? = some sl) : ∃ A B, ownedE env = A ++ (sl.owned ++ B) ∧ ∀ sl', ownedE (env.set i sl') = A ++ (Sl.owned sl' ++ B) := by
  obtain ⟨hi, rfl⟩ := List.getElem?_eq_some_iff.mp h
  refine ⟨ownedE (env.take i), ownedE (env.drop (i + 1)), ?_, fun sl' => ?_⟩
  · have z : env = env.take i ++ env[i] :: env.drop (i + 1) := by
      rw [List.getElem_cons_drop, List.take_append_drop]
    have y := congrArg ownedE z
    rw [y]
    unfold ownedE
    rw [List.flatMap_append, List.flatMap_cons]
  · rw [List.set_eq_take_append_cons_drop, if_pos hi]
    unfold ownedE
    rw [List.flatMap_append, List.flatMap_cons]
theorem owned_two {env : Env'} {X : List Addr} {i j : Nat} {s1 s2 : Sl} {a : Addr} (nd : (ownedE env ++ X).Nodup) (h1 : env[i]? = some s1) (h2 : env[j]? = some s2) (m1 : a ∈ s1.owned) (m2 : a ∈ s2.owned) : i = j := by
  obtain ⟨A, B, e1, e2⟩ := splitE h1
  rcases Nat.lt_trichotomy i j with h | h | h
  · exfalso
    obtain ⟨hi, rfl⟩ := List.getElem?_eq_some_iff.mp h1
    obtain ⟨hj, rfl⟩ := List.getElem?_eq_some_iff.mp h2
    have z : env = env.take j ++ env[j] :: env.drop (j + 1) := by rw [List.getElem_cons_drop, List.take_append_drop]
    have y : ownedE env = ownedE (env.take j) ++ (env[j].owned ++ ownedE (env.drop (j + 1))) := by
      have y := congrArg ownedE z
      rw [y]
      unfold ownedE
      rw [List.flatMap_append, List.flatMap_cons]
    rw [y, List.append_assoc] at nd
    have q := (List.nodup_append.mp nd).2.2
    refine q a (List.mem_flatMap.mpr ⟨env[i], ?_, m1⟩) a (List.mem_append_left _ (List.mem_append_left _ m2)) rfl
    exact List.mem_iff_getElem?.mpr ⟨i, by rw [List.getElem?_take_of_lt h]; exact List.getElem?_eq_getElem hi⟩
  · exact h
  · exfalso
    obtain ⟨hi, rfl⟩ := List.getElem?_eq_some_iff.mp h1
    obtain ⟨hj, rfl⟩ := List.getElem?_eq_some_iff.mp h2
    have z : env = env.take i ++ env[i] :: env.drop (i + 1) := by rw [List.getElem_cons_drop, List.take_append_drop]
    have y : ownedE env = ownedE (env.take i) ++ (env[i].owned ++ ownedE (env.drop (i + 1))) := by
      have y := congrArg ownedE z
      rw [y]
      unfold ownedE
      rw [List.flatMap_append, List.flatMap_cons]
    rw [y, List.append_assoc] at nd
    have q := (List.nodup_append.mp nd).2.2
    refine q a (List.mem_flatMap.mpr ⟨env[j], ?_, m2⟩) a (List.mem_append_left _ (List.mem_append_left _ m1)) rfl
    exact List.mem_iff_getElem?.mpr ⟨j, by rw [List.getElem?_take_of_lt h]; exact List.getElem?_eq_getElem hj⟩
theorem mem_ownedE {env : Env'} {i : Nat} {sl : Sl} {a : Addr} (h : env[i]? = some sl) (m : a ∈ sl.owned) : a ∈ ownedE env :=
  List.mem_flatMap.mpr ⟨sl, List.mem_iff_getElem?.mpr ⟨i, h⟩, m⟩
theorem SlOk.write {v : V} {a : Addr} {o : HO} : ∀ {sl : Sl}, a ∉ sl.owned → SlOk K F H v sl → SlOk K F (upd H a o) v sl
  | .un, _, _ => trivial
  | .ext _, _, h => h
  | .al _ _, _, h => h
  | .lst b ds, n, h => by
    obtain ⟨rfl, q, vs, hv, hr⟩ := h
    refine ⟨rfl, q, vs, ?_, hr⟩
    have nb : b ≠ a := fun z => n (by rw [z]; exact List.mem_singleton.mpr rfl)
    rw [upd_ne nb]
    exact hv
  | .ar _ _, _, h => h
  | .reg b cs, n, h => by
    obtain ⟨rd, nd, hc⟩ := h
    refine ⟨rd, nd, fun p hp => ?_⟩
    obtain ⟨q, o', ho, ok⟩ := hc p hp
    have nb : p.1 ≠ a := fun z => n (by rw [← z]; exact List.mem_map.mpr ⟨p, hp, rfl⟩)
    exact ⟨q, o', by rw [upd_ne nb]; exact ho, ok⟩
theorem Holds.write {i : Nat} {a : Addr} {ds ds' : List D} {vs' : List V} (h : Holds K e env T F σ H) (hi : env[i]? = some (.lst a ds)) (hr : Reps K F ds' vs') : Holds K e (env.set i (.lst a ds')) T F σ (upd H a (.lst vs')) := by
  obtain ⟨A, B, e1, e2⟩ := splitE hi
  have own : ownedE (env.set i (.lst a ds')) = ownedE env := by
    rw [e1, e2]
    rfl
  have ma : a ∈ ownedE env := mem_ownedE hi (List.mem_singleton.mpr rfl)
  have mm : a ∈ ownedE env ++ ownedT T := List.mem_append_left _ ma
  obtain ⟨Fn, _⟩ := h.ownedH a mm
  refine ⟨fun b o q => ?_, by rw [List.length_set]; exact h.len, fun j sl q => ?_, fun p hp => (h.temps p hp).write fun m => ?_, by rw [own]; exact h.nd, h.s1, fun b o q n => ?_, by rw [own]; exact h.s3⟩
  · have nb : b ≠ a := fun z => by
      rw [z, Fn] at q
      cases q
    rw [upd_ne nb]
    exact h.fh b o q
  · rw [List.getElem?_set] at q
    split at q
    · rename_i ij
      subst ij
      split at q
      · cases q
        right
        rcases h.slots i _ hi with z | ⟨v, hv, rfl, q1, _⟩
        · cases z
        · exact ⟨_, hv, rfl, q1, vs', upd_same, hr⟩
      · cases q
    · rename_i ij
      rcases h.slots j sl q with z | ⟨v, hv, ok⟩
      · exact .inl z
      · refine .inr ⟨v, hv, ok.write fun m => ij (owned_two h.nd hi q (List.mem_singleton.mpr rfl) m)⟩
  · exact (List.nodup_append.mp h.nd).2.2 a ma a (List.mem_flatMap.mpr ⟨p, hp, m⟩) rfl
  · have nb : b ≠ a := fun z => by
      subst z
      rcases h.s3 b mm with y | y
      · exact n y
      · rw [q] at y
        cases y
    rw [upd_ne nb]
    exact h.s2 b o q n
theorem Holds.writeT {v : V} {a : Addr} {ds ds' : List D} {vs' : List V} (h : Holds K e env ((v, .lst a ds) :: T) F σ H) (hr : Reps K F ds' vs') : Holds K e env ((v, .lst a ds') :: T) F σ (upd H a (.lst vs')) := by
  have mT : a ∈ ownedT ((v, Sl.lst a ds) :: T) := List.mem_append_left _ (List.mem_singleton.mpr rfl)
  have mm : a ∈ ownedE env ++ ownedT ((v, Sl.lst a ds) :: T) := List.mem_append_right _ mT
  obtain ⟨Fn, _⟩ := h.ownedH a mm
  have z3 := (List.nodup_append.mp h.nd).2.2
  have zT : ([a] ++ ownedT T).Nodup := (List.nodup_append.mp h.nd).2.1
  refine ⟨fun b o q => ?_, h.len, fun j sl q => ?_, fun p hp => ?_, h.nd, h.s1, fun b o q n => ?_, h.s3⟩
  · have nb : b ≠ a := fun z => by
      rw [z, Fn] at q
      cases q
    rw [upd_ne nb]
    exact h.fh b o q
  · rcases h.slots j sl q with z | ⟨w, hw, ok⟩
    · exact .inl z
    · exact .inr ⟨w, hw, ok.write fun m => z3 a (mem_ownedE q m) a mT rfl⟩
  · rcases List.mem_cons.mp hp with rfl | hp
    · obtain ⟨rfl, q1, _⟩ := h.temps (v, .lst a ds) List.mem_cons_self
      exact ⟨rfl, q1, vs', upd_same, hr⟩
    · refine (h.temps p (List.mem_cons_of_mem _ hp)).write fun m => ?_
      exact (List.nodup_append.mp zT).2.2 a (List.mem_singleton.mpr rfl) a (List.mem_flatMap.mpr ⟨p, hp, m⟩) rfl
  · have nb : b ≠ a := fun z => by
      subst z
      rcases h.s3 b mm with y | y
      · exact n y
      · rw [q] at y
        cases y
    rw [upd_ne nb]
    exact h.s2 b o q n
theorem SlOk.freeze {v : V} {a : Addr} {vs : List V} (hF : F a = none) : ∀ {sl : Sl}, a ∉ sl.owned → SlOk K F H v sl → SlOk K (upd F a (.lst vs)) H v sl := by
  have sm : Same F (upd F a (.lst vs)) := fun b o q => by
    rw [upd_ne (ne_of_none q hF)]
    exact q
  intro sl n h
  cases sl with
  | un => trivial
  | ext d => exact Rep.same sm h
  | al i b => exact h
  | lst b ds =>
    obtain ⟨rfl, q, us, hv, hr⟩ := h
    refine ⟨rfl, ?_, us, hv, hr.same sm⟩
    have nb : b ≠ a := fun z => n (by rw [z]; exact List.mem_singleton.mpr rfl)
    rw [upd_ne nb]
    exact q
  | ar i b => exact h
  | reg b cs =>
    obtain ⟨rd, nd, hc⟩ := h
    refine ⟨Rep.same sm rd, nd, fun p hp => ?_⟩
    obtain ⟨q, o', ho, ok⟩ := hc p hp
    have nb : p.1 ≠ a := fun z => n (by rw [← z]; exact List.mem_map.mpr ⟨p, hp, rfl⟩)
    exact ⟨by rw [upd_ne nb]; exact q, o', ho, ok.same sm⟩
theorem Holds.freezeT {v : V} {a : Addr} {ds : List D} (h : Holds K e env ((v, .lst a ds) :: T) F σ H) : ∃ F1, Same F F1 ∧ Holds K e env ((v, .ext (.lst ds)) :: T) F1 σ H := by
  have mT : a ∈ ownedT ((v, Sl.lst a ds) :: T) := List.mem_append_left _ (List.mem_singleton.mpr rfl)
  have mm : a ∈ ownedE env ++ ownedT ((v, Sl.lst a ds) :: T) := List.mem_append_right _ mT
  obtain ⟨rfl, hF, vs, hv, hr⟩ := h.temps (v, .lst a ds) List.mem_cons_self
  have z3 := (List.nodup_append.mp h.nd).2.2
  have zT : ([a] ++ ownedT T).Nodup := (List.nodup_append.mp h.nd).2.1
  have hF : F a = none := hF
  have sm : Same F (upd F a (.lst vs)) := fun b o q => by
    rw [upd_ne (ne_of_none q hF)]
    exact q
  have sub : (ownedE env ++ ownedT ((V.ref a, Sl.ext (.lst ds)) :: T)).Sublist (ownedE env ++ ownedT ((V.ref a, Sl.lst a ds) :: T)) :=
    (List.Sublist.refl _).append (List.sublist_append_right [a] (ownedT T))
  refine ⟨upd F a (.lst vs), sm, fun b o q => ?_, h.len, fun j sl q => ?_, fun p hp => ?_, h.nd.sublist sub, h.s1.trans sm, fun b o q n => ?_, fun b hb => h.s3 b (sub.subset hb)⟩
  · by_cases nb : b = a
    · rw [nb, upd_same] at q
      rw [nb, hv]
      exact q
    · rw [upd_ne nb] at q
      exact h.fh b o q
  · rcases h.slots j sl q with z | ⟨w, hw, ok⟩
    · exact .inl z
    · exact .inr ⟨w, hw, ok.freeze hF fun m => z3 a (mem_ownedE q m) a mT rfl⟩
  · rcases List.mem_cons.mp hp with rfl | hp
    · exact ⟨a, vs, rfl, upd_same, hr.same sm⟩
    · refine (h.temps p (List.mem_cons_of_mem _ hp)).freeze hF fun m => ?_
      exact (List.nodup_append.mp zT).2.2 a (List.mem_singleton.mpr rfl) a (List.mem_flatMap.mpr ⟨p, hp, m⟩) rfl
  · have nb : b ≠ a := fun z => by
      subst z
      rcases h.s3 b mm with y | y
      · exact n y
      · rw [q] at y
        cases y
    rw [upd_ne nb]
    exact h.s2 b o q n
theorem Holds.unset (h : Holds K e env T F σ H) (i : Nat) : Holds K e (env.set i .un) T F σ H := by
  by_cases hl : i < env.length
  · obtain ⟨A, B, e1, e2⟩ := splitE (List.getElem?_eq_getElem hl)
    have sub : (ownedE (env.set i .un) ++ ownedT T).Sublist (ownedE env ++ ownedT T) := by
      rw [e2, e1]
      exact ((List.Sublist.refl _).append (List.sublist_append_right _ _)).append (List.Sublist.refl _)
    refine ⟨h.fh, by rw [List.length_set]; exact h.len, fun j sl q => ?_, h.temps, h.nd.sublist sub, h.s1, h.s2, fun a ha => h.s3 a (sub.subset ha)⟩
    rw [List.getElem?_set] at q
    split at q
    · cases q
      exact .inl rfl
    · exact h.slots j sl q
  · rw [List.set_eq_of_length_le (by omega)]
    exact h
def Sl.plain : Sl → Prop
  | .al _ _ => False
  | .ar _ _ => False
  | _ => True
theorem Holds.assign {v : V} {sl : Sl} (h : Holds K e env ((v, sl) :: T) F σ H) (i : Nat) (hp : sl.plain) : Holds K e (env.set i sl) T F (σ.set i (some v)) H := by
  by_cases hl : i < env.length
  · obtain ⟨A, B, e1, e2⟩ := splitE (List.getElem?_eq_getElem hl)
    have sub : (A ++ B ++ (sl.owned ++ ownedT T)).Sublist (ownedE env ++ ownedT ((v, sl) :: T)) := by
      rw [e1]
      exact ((List.Sublist.refl _).append (List.sublist_append_right _ _)).append (List.Sublist.refl _)
    have perm : (A ++ B ++ (sl.owned ++ ownedT T)).Perm (ownedE (env.set i sl) ++ ownedT T) := by
      rw [e2, List.append_assoc, List.append_assoc]
      refine List.Perm.append_left A ?_
      rw [List.append_assoc, ← List.append_assoc, ← List.append_assoc]
      exact List.Perm.append_right _ List.perm_append_comm
    refine ⟨h.fh, by rw [List.length_set, List.length_set]; exact h.len, fun j s q => ?_, fun p hp => h.temps p (List.mem_cons_of_mem _ hp), perm.nodup (h.nd.sublist sub), h.s1, h.s2, fun a ha => h.s3 a (sub.subset (perm.mem_iff.mpr ha))⟩
    rw [List.getElem?_set] at q
    rw [List.getElem?_set]
    split at q
    · rename_i ij
      rw [if_pos ij, if_pos (by rw [← h.len]; exact hl)]
      cases q
      exact .inr ⟨v, rfl, h.temps (v, sl) List.mem_cons_self⟩
    · rename_i ij
      rw [if_neg ij]
      exact h.slots j s q
  · rw [List.set_eq_of_length_le (by omega), List.set_eq_of_length_le (by rw [← h.len]; omega)]
    exact h.pop
theorem Holds.take {i : Nat} {sl : Sl} {v : V} (h : Holds K e env T F σ H) (hi : env[i]? = some sl) (hv : σ[i]? = some (some v)) : Holds K e (env.set i .un) ((v, sl) :: T) F σ H := by
  obtain ⟨A, B, e1, e2⟩ := splitE hi
  have perm : (ownedE env ++ ownedT T).Perm (ownedE (env.set i .un) ++ ownedT ((v, sl) :: T)) := by
    rw [e1, e2]
    show (A ++ (sl.owned ++ B) ++ ownedT T).Perm (A ++ ([] ++ B) ++ (sl.owned ++ ownedT T))
    rw [List.append_assoc, List.append_assoc, List.nil_append, List.append_assoc]
    refine List.Perm.append_left A ?_
    rw [← List.append_assoc, ← List.append_assoc]
    exact List.Perm.append_right _ List.perm_append_comm
  refine ⟨h.fh, by rw [List.length_set]; exact h.len, (h.unset i).slots, fun p hp => ?_, perm.nodup h.nd, h.s1, h.s2, fun a ha => h.s3 a (perm.mem_iff.mpr ha)⟩
  rcases List.mem_cons.mp hp with rfl | hp
  · rcases h.slots i sl hi with z | ⟨w, hw, ok⟩
    · subst z
      trivial
    · rw [hv] at hw
      cases hw
      exact ok
  · exact h.temps p hp
theorem Holds.freeze {i : Nat} {a : Addr} {ds : List D} (h : Holds K e env T F σ H) (hi : env[i]? = some (.lst a ds)) : ∃ F1, Same F F1 ∧ Holds K e (env.set i (.ext (.lst ds))) T F1 σ H := by
  rcases h.slots i _ hi with z | ⟨v, hv, ok⟩
  · cases z
  · obtain ⟨F1, sm, h1⟩ := (h.take hi hv).freezeT
    have h2 := h1.assign i trivial
    rw [List.set_set] at h2
    have z : σ.set i (some v) = σ := by
      obtain ⟨hl, e⟩ := List.getElem?_eq_some_iff.mp hv
      rw [← e]
      exact List.set_getElem_self hl
    rw [z] at h2
    exact ⟨F1, sm, h2⟩
theorem Holds.bare (h : Holds K e env T F σ H) : Holds K e env [] F σ H := h.sub (List.nil_sublist _)
end
end HD
namespace HD
open PySem PySem.Spec PyProof.Rows L2
structure FnG (P : Program) (w : World) (K : PySem.W.Frag) (mg : Str → Option Value) (base : Heap) (C : CXT) (k : Nat) (f : Addr) (fd : FuncData) (ps : List Str) (sp : Sp) : Prop where
  fit : ∀ vs H Q E, sp vs H Q E → vs.length = ps.length
  go : ∀ (A : Around) (out : List Env) (t : Shared) (H : Hp) (args : Args) (us : List Value) (vs : List V) (Q : VK) (E : XK), A.guards = some [] → Room k A → Env0 P w K mg base A out t H → BindsTo t fd args (ps.zip us) → Vals vs us → sp vs H Q E →
    codeAny (model P w) A (.call (.ref f) args) (CR C out P w H t Q E) t
section
variable {P : Program} {w : World} {K : PySem.W.Frag} {mg : Str → Option Value} {base : Heap} {C : CXT} {k : Nat} {f : Addr} {fd : FuncData} {N ps : List Str} {sp : Sp} {x qual : Str} {st : Stmt}
theorem fnG_of (hF : Fun K x qual st f fd) (S : FnScope N ps (defScope st)) (fit : ∀ vs H Q E, sp vs H Q E → vs.length = ps.length)
    (body : ∀ (cd : Value) (A : Around) (out : List Env) (t : Shared) (H : Hp) (vs : List V) (Q : VK) (E : XK), A.guards = some [] → Room k (A.deeper (envOfC qual (defScope st) t.heap.objs.size f cd)) → sp vs H Q E →
      ∃ tt, PSs (cxOf C P w K mg base N qual (defScope st) f cd A out t H E) (defBody st) tt ∧ tt { nx := fun _ H' => Q .non H', rt := Q } (L2.start N vs) H) : FnG P w K mg base C (k + 1) f fd ps sp := by
  obtain ⟨oc, od, kV, doc, pm, an, cd, ct, osl, rfl, at_f, code⟩ := hF.ex
  refine ⟨fit, fun A out t H args us vs Q E gd room e0 bnd rel hsp => ?_⟩
  have inK : K.In t.heap := e0.mod.kin.keeps fun b o q => (e0.bs b o q).1
  have noLim : t.heap.NoLimit := e0.mod.nolimit.keeps fun b o q => (e0.bs b o q).1
  refine codeAny_call_function room.depth (inK _ _ at_f) rfl S.co S.gen rfl (PySem.W.codeRec_of inK code) (bnd _ _ _ _ ?_)
  refine wpAny_newFunctionEnv_cells S.kind (fun y hy => ?_) fun env he t1 call => ?_
  · obtain ⟨nm, v⟩ := y
    rcases S.par nm (List.of_mem_zip hy).1 with z | z
    · exact Or.inl z
    · exact Or.inr ⟨z, PySem.W.cellsFrom_some _ _ _ (.inl z)⟩
  · subst he
    refine ⟨noLim.keeps call.toInCall.keep, codeAny_func ?_⟩
    obtain ⟨tt, hb, hq⟩ := body cd A out t H vs Q E gd (room.deeper _) hsp
    have J : L2.Inv (cxOf C P w K mg base N qual (defScope st) f cd A out t H E) [] (L2.start N vs) H t1 := inv_start S room.hd e0 (fit _ _ _ _ hsp) rel call
    refine wpAny_mono (hb.run [] t1 (L2.start N vs) H _ J hq) (fun fl t2 h2 => ?_) fun e t2 h2 => h2
    cases fl with
    | ret u =>
      obtain ⟨v, σ2, H2, J2, rv, q⟩ := h2
      exact ⟨v, H2, J2.os, J2.bare, J2.base, J2.hok, rv, q⟩
    | next =>
      obtain ⟨σ2, H2, J2, q⟩ := h2
      exact ⟨V.non, H2, J2.os, J2.bare, J2.base, J2.hok, rfl, q⟩
    | brk => exact h2.elim fun _ z => z.elim fun _ z => z.2.elim
    | cont => exact h2.elim fun _ z => z.elim fun _ z => z.2.elim
end
section
variable {X : Cx} {C : CXT} {k : Nat} {f : Addr} {fd : FuncData} {ps : List Str} {sp : Sp} {E : L2.St → XK}
theorem runG {pins : List (Addr × Obj)} {σ : L2.St} {H : Hp} {t : Shared} {Q : VK} {us : List Value} {vs : List V} (F : FnG X.prog X.w X.K X.mg X.base C k f fd ps sp) (gd : X.A.guards = some []) (room : Room k X.A) (bnd : Binds X.K fd ps []) (pass : PassesAt C X σ (E σ))
    (J : L2.Inv X pins σ H t) (rel : Vals vs us) (h : sp vs H Q (E σ)) : wpAny (model X.prog X.w) X.A (call (.ref f) us) (EP X pins σ Q) X.xe t := by
  have l1 : us.length = ps.length := by rw [← rel.length]; exact F.fit _ _ _ _ h
  have b := bnd t us J.kIn (by rw [List.append_nil]; exact l1)
  rw [List.append_nil] at b
  refine wpAny_call (codeAny_mono (F.go X.A X.stack t H ⟨us, []⟩ us vs Q (E σ) gd room J.env0 b rel h) fun res t2 hres => ?_)
  cases res with
  | error e => exact pass pins H t e t2 J hres
  | ok fl =>
    cases fl with
    | ret u => exact J.after hres
    | next => exact hres.elim
    | brk => exact hres.elim
    | cont => exact hres.elim
end
theorem law_callG {P : Program} {w : World} {K : PySem.W.Frag} {mg mb : Str → Option Value} {C : CXT} {k : Nat} {fa a : Addr} {fd : FuncData} {x : Str} {sp : Sp} {t1 : Shared} {vs : List Value} {ns : List Int}
    (KX : K.In t1.heap) (hns : t1.heap.Ns mainGlobals mg) (hb : t1.heap.Ns builtinsNs mb) (hbb : ∀ y : Str, y ≠ "__name__" → mb y = bootBuiltins y) (lim : t1.heap.NoLimit) (hg : t1.gens = #[])
    (ha : t1.heap.get? a = some { cls := .type "list", data := .seq vs.toArray }) (hi : IntsAre vs ns) (hl : ns.length ≤ sizeLine) (room : Room k callerA)
    (F : ∀ base : Heap, K.In base → base.Ns mainGlobals mg → FnG P w K mg base C k fa fd [x] sp) (bnd : ∀ (s : Shared) (u : Value), BindsTo s fd ⟨[u], []⟩ [(x, u)])
    (hsp : ∀ H : Hp, L2.Only H → SqL K H a (ns.map V.int) → sp [.ref a] H (fun v _ => v = .bl true) fun _ _ _ => False)
    (noX : ∀ H e s', C [] H t1 (fun _ _ _ => False) e s' → False) :
    codeAny (model P w) callerA (.call (.ref fa) ⟨[.ref a], []⟩) (fun r s' => r = .ok (.ret (.bool true)) ∧ OldK t1.heap s'.heap ∧ s'.os = t1.os ∧ AllBare s'.gens) t1 := by
  have rv := vals_ints hi
  have lenV := hi.length
  have core : ∀ H : Hp, L2.Only H → SqL K H a (ns.map V.int) → HOk P w H t1.heap → (∀ b, H b ≠ none → b = a) → (H a ≠ none → K.lookup a = none) →
      codeAny (model P w) callerA (.call (.ref fa) ⟨[.ref a], []⟩) (fun r s' => r = .ok (.ret (.bool true)) ∧ OldK t1.heap s'.heap ∧ s'.os = t1.os ∧ AllBare s'.gens) t1 := by
    intro H only hS hok hA hK
    have up : ∀ {b : Addr} {o : Obj}, t1.heap.get? b = some o → H b = none → (hidT t1.heap H).get? b = some o := fun e n => hidT_get e n
    have notA : ∀ {b : Addr} {u : HO}, H b = some u → b = a := fun {b u} q => hA b (by rw [q]; simp)
    have dicts : ∀ {b : Addr} {o : Obj} {es : Array DictEntry} {ep : Nat}, t1.heap.get? b = some o → o.data = .dict es ep → H b = none := fun {b o es ep} e d => by
      cases q : H b with
      | none => rfl
      | some u =>
        have e1 := notA q
        subst e1
        rw [ha] at e
        cases e
        cases (show Data.seq vs.toArray _ = Data.dict es ep from d)
    have spaces : ∀ {b : Addr} {m : Str → Option Value}, t1.heap.Ns b m → (hidT t1.heap H).Ns b m := fun {b m} ⟨o, es, ep, e, d, r⟩ => ⟨o, es, ep, up e (dicts e d), d, r⟩
    have inB : K.In (hidT t1.heap H) := fun b o e => up (KX b o e) (by
      cases q : H b with
      | none => rfl
      | some u =>
        have e1 := notA q
        subst e1
        rw [hK (by rw [q]; simp)] at e
        cases e)
    have md : Mod K mg (hidT t1.heap H) := ⟨inB, spaces hns, ⟨mb, spaces hb, hbb⟩, let ⟨mc, h1, h2⟩ := lim; ⟨mc, spaces h1, h2⟩⟩
    have e0 : Env0 P w K mg (hidT t1.heap H) callerA [] t1 H := ⟨rfl, md, fun b o e => of_hidT e, Nat.le_of_eq (hidT_size _ _), True.intro, fun b hb => absurd (show b ∈ ([] : List Addr) from hb) (by simp), hok, .of_eq hg⟩
    refine codeAny_mono ((F _ inB (spaces hns)).go callerA [] t1 H ⟨[.ref a], []⟩ [.ref a] [.ref a] _ _ rfl room e0 (bnd t1 (.ref a)) (.cons rfl .nil) (hsp H only hS)) fun res t2 h => ?_
    cases res with
    | error e => exact (noX H e t2 h).elim
    | ok fl =>
      cases fl with
      | next => exact h.elim
      | brk => exact h.elim
      | cont => exact h.elim
      | ret u =>
        obtain ⟨v, H2, os, bare, un, hok2, r2, q⟩ := h
        cases (show v = .bl true from q)
        cases (show u = Value.bool true from r2)
        refine ⟨rfl, OldK.of_keep fun b o e => ?_, os, bare⟩
        cases q : H b with
        | none => exact un.keep b o e q (by intro z; exact absurd (show b ∈ ([] : List Addr) from z) (by simp)) (by simp)
        | some u =>
          rcases only b with z | ⟨ob, ys, z⟩
          · rw [q] at z; cases z
          · obtain ⟨y1, _⟩ := hok b _ z
            obtain ⟨y2, _⟩ := hok2 b _ (un.frzs b ob _ z)
            rw [e] at y1
            cases y1
            exact y2
  cases hk : K.lookup a with
  | some o =>
    have e := KX a o hk
    rw [ha] at e
    cases e
    exact core (fun _ => none) (fun _ => .inl rfl) (.inr ⟨_, vs.toArray, _, hk, rfl, rfl, rfl, by rw [List.size_toArray, lenV]; exact hl, by simpa using rv⟩) (fun b u z => by cases (show (none : Option HO) = some u from z)) (fun b z => absurd rfl z) fun z => absurd rfl z
  | none =>
    let o0 : Obj := { cls := .type "list", data := .seq vs.toArray }
    refine core (fun b => if b = a then some (.frz o0 (.lst (ns.map V.int))) else none) (fun b => ?_) (.inl (.inr ⟨o0, if_pos rfl⟩)) (fun b u z => ?_) (fun b z => ?_) fun _ => hk
    · by_cases q : b = a
      · exact .inr ⟨_, _, if_pos q⟩
      · exact .inl (if_neg q)
    · by_cases q : b = a
      · cases (if_pos q).symm.trans z
        subst q
        exact ⟨ha, by rw [List.length_map]; exact hl, vs, _, rv, ha⟩
      · cases (if_neg q).symm.trans z
    · by_cases q : b = a
      · exact q
      · exact absurd (if_neg q) z
end HD
namespace HD
open PySem L2
theorem ownedT_perm {T T' : Tmp} (p : T.Perm T') : (ownedT T).Perm (ownedT T') := by
  unfold ownedT
  induction p with
  | nil => exact .refl _
  | cons x _ ih => exact ih.append_left _
  | swap x y l =>
    rw [List.flatMap_cons, List.flatMap_cons, List.flatMap_cons, List.flatMap_cons, ← List.append_assoc, ← List.append_assoc]
    exact List.perm_append_comm.append_right _
  | trans _ _ i1 i2 => exact i1.trans i2
theorem Holds.perm {K : PySem.W.Frag} {e : Ent} {env : Env'} {T T' : Tmp} {F : Hp} {σ : St} {H : Hp} (h : Holds K e env T F σ H) (p : T.Perm T') : Holds K e env T' F σ H :=
  ⟨h.fh, h.len, h.slots, fun x hx => h.temps x (p.mem_iff.mpr hx), ((ownedT_perm p).append_left _).nodup h.nd, h.s1, h.s2, fun a ha => h.s3 a (((ownedT_perm p).append_left _).mem_iff.mpr ha)⟩
abbrev DX := Str → Env' → Prop
abbrev DT := DX → Env' → (Sl → Env' → Prop) → Prop
abbrev DTT := DX → Env' → (Bool → Env' → Prop) → Prop
abbrev DTA := DX → Env' → (List Sl → Env' → Prop) → Prop
def Link (K : PySem.W.Frag) (e : Ent) (W : WX) (Ex : DX) : Prop := ∀ c d env F σ H, Holds K e env [] F σ H → XD F c d → Ex c env → W (clsV K (xk c)) d σ H
def Im (K : PySem.W.Frag) (W : WX) (te : TE) (t : DT) : Prop :=
  ∀ (e : Ent) (Ex : DX), Link K e W Ex → ∀ (env : Env') (T : Tmp) (F : Hp) (σ : St) (H : Hp) (Q : Sl → Env' → Prop) (R : VK),
    Holds K e env T F σ H → t Ex env Q → (∀ v H' F' env' sl, Holds K e env' ((v, sl) :: T) F' σ H' → Q sl env' → R v H') → te σ H R
def ImT (K : PySem.W.Frag) (W : WX) (tt : TT) (t : DTT) : Prop :=
  ∀ (e : Ent) (Ex : DX), Link K e W Ex → ∀ (env : Env') (T : Tmp) (F : Hp) (σ : St) (H : Hp) (Q : Bool → Env' → Prop) (R : Bool → Hp → Prop),
    Holds K e env T F σ H → t Ex env Q → (∀ b H' F' env', Holds K e env' T F' σ H' → Q b env' → R b H') → tt σ H R
def ImA (K : PySem.W.Frag) (W : WX) (ta : TA) (t : DTA) : Prop :=
  ∀ (e : Ent) (Ex : DX), Link K e W Ex → ∀ (env : Env') (T : Tmp) (F : Hp) (σ : St) (H : Hp) (Q : List Sl → Env' → Prop) (R : List V → Hp → Prop),
    Holds K e env T F σ H → t Ex env Q → (∀ vs H' F' env' xs, vs.length = xs.length → Holds K e env' (vs.zip xs ++ T) F' σ H' → Q xs env' → R vs H') → ta σ H R
structure GG where
  P : Program
  w : World
  K : PySem.W.Frag
  mg : Str → Option Value
  base : Heap
structure SC where
  sc : Scope
  own : Str → Bool
  top : Bool
abbrev fnS (sc : Scope) : SC := ⟨sc, fun _ => true, true⟩
def relab (scope sc : Scope) : Scope :=
  { scope with names := scope.names.map fun (n, k) => if (k == .free && sc.kind == .function && sc.names.lookup n == some .cell) then (n, .cell) else (n, k) }
abbrev lcS (scope : Scope) (sc : SC) : SC := ⟨relab scope sc.sc, fun x => scope.names.lookup x == some .cell, false⟩
structure Sit (G : GG) (N : List Str) (sc : SC) (W : WX) (k : Nat) (X : Cx) : Prop where
  prog : X.prog = G.P
  w : X.w = G.w
  K : X.K = G.K
  mg : X.mg = G.mg
  base : X.base = G.base
  nms : X.N = N
  nd : N.Nodup
  scp : X.env.scope = sc.sc
  calm : X.calm = true
  room : Room k X.A
  tk : Takes X W
  fn : ∀ x, sc.own x = true → X.fn x = true
  own : PassesOwn (model X.prog X.w) X.A X.env X.xe
  stk : sc.top = true → X.stack = X.env :: X.outer ∧ X.env.frame = some X.env.locals
  gd : X.A.guards = some []
structure DE (G : GG) (N : List Str) (sc : SC) (k : Nat) (e : Expr) (t : DT) : Prop where
  ex : ∀ W : WX, ∃ te, (∀ X, Sit G N sc W k X → PE X e te) ∧ Im G.K W te t
structure DTe (G : GG) (N : List Str) (sc : SC) (k : Nat) (e : Expr) (t : DTT) : Prop where
  ex : ∀ W : WX, ∃ te, (∀ X, Sit G N sc W k X → PT X e te) ∧ ImT G.K W te t
structure DAs (G : GG) (N : List Str) (sc : SC) (k : Nat) (es : List Expr) (t : DTA) : Prop where
  ex : ∀ W : WX, ∃ te, (∀ X, Sit G N sc W k X → PA X es te) ∧ ImA G.K W te t
section
variable {G : GG} {N : List Str} {sc : SC} {k : Nat}
def dC (d : D) : DT := fun _ env Q => Q (.ext d) env
def dVar (i : Nat) : DT := fun _ env Q => match env[i]? with
  | some (.ext d) => Q (.ext d) env
  | some (.lst a _) => Q (.al i a) env
  | _ => False
theorem im_const {K : PySem.W.Frag} {W : WX} {v : V} {d : D} (h : ∀ F, Rep K F d v) : Im K W (tC v) (dC d) :=
  fun e Ex _ env T F σ H Q R hh ht hR => hR v H F env (.ext d) (hh.pushE (h F)) ht
theorem im_var {K : PySem.W.Frag} {W : WX} (i : Nat) : Im K W (tVar i) (dVar i) := fun e Ex _ env T F σ H Q R hh ht hR => by
  unfold dVar at ht
  split at ht
  · rename_i d q
    rcases hh.slots i _ q with z | ⟨v, hv, ok⟩
    · cases z
    · exact ⟨v, hv, hR v H F env (.ext d) (hh.pushE ok) ht⟩
  · rename_i a ds q
    rcases hh.slots i _ q with z | ⟨v, hv, ok⟩
    · cases z
    · obtain ⟨rfl, _⟩ := ok
      exact ⟨_, hv, hR _ H F env (.al i a) hh.pushA ht⟩
  · exact ht.elim
theorem Sit.vis {W : WX} {X : Cx} {x : Str} (S : Sit G N sc W k X) (h : Vis sc.sc x) : Vis X.env.scope x := by rw [S.scp]; exact h
theorem de_var (i : Nat) {x : Str} {pos : Pos} (hN : N[i]? = some x := by rfl) (hv : Vis sc.sc x := by first | exact Or.inl rfl | exact Or.inr (Or.inl rfl) | exact Or.inr (Or.inr rfl))
    (hd : (x == ("__debug__" : Str)) = false := by decide) (hcd : (x == ("__classdict__" : Str)) = false := by decide) : DE G N sc k (.Name x pos) (dVar i) :=
  ⟨fun W => ⟨tVar i, fun X S => pe_var (by rw [S.nms]; exact hN) (S.vis hv) hd hcd, im_var i⟩⟩
theorem de_int {i j pos} : DE G N sc k (.Constant (.int i) j pos) (dC (.int i)) := ⟨fun _ => ⟨_, fun _ _ => pe_int, im_const fun _ => rfl⟩⟩
theorem de_bl {i j pos} : DE G N sc k (.Constant (.bool i) j pos) (dC (.bl i)) := ⟨fun _ => ⟨_, fun _ _ => pe_bl, im_const fun _ => rfl⟩⟩
theorem de_non {j pos} : DE G N sc k (.Constant .none j pos) (dC .non) := ⟨fun _ => ⟨_, fun _ _ => pe_non, im_const fun _ => rfl⟩⟩
theorem de_str {i j pos} : DE G N sc k (.Constant (.str i) j pos) (dC (.str i)) := ⟨fun _ => ⟨_, fun _ _ => pe_str, im_const fun _ => rfl⟩⟩
def GlS (sc : SC) (x : Str) : Prop := sc.sc.names.lookup x = some .globalImplicit
theorem Sit.gl {W : WX} {X : Cx} {x : Str} (S : Sit G N sc W k X) (h : GlS sc x) : Gl X x := by
  show X.env.scope.names.lookup x = some .globalImplicit
  rw [S.scp]
  exact h
theorem de_glob {x : Str} {v : V} {u : Value} {d : D} {pos : Pos} (hg : GlS sc x) (hm : G.mg x = some u) (r : RelV v u) (hr : ∀ F, Rep G.K F d v) (hd : (x == ("__debug__" : Str)) = false := by decide) : DE G N sc k (.Name x pos) (dC d) :=
  ⟨fun _ => ⟨tC v, fun X S => pe_glob (S.gl hg) (by rw [S.mg]; exact hm) r hd, im_const hr⟩⟩
theorem de_bltn {x : Str} {v : V} {u : Value} {pos : Pos} (hg : GlS sc x) (hm : G.mg x = none) (hv : bootBuiltins x = some u) (r : RelV v u) (hn : x ≠ "__name__" := by decide) (hd : (x == ("__debug__" : Str)) = false := by decide) : DE G N sc k (.Name x pos) (dC (.val v)) :=
  ⟨fun _ => ⟨tC v, fun X S => pe_bltn (S.gl hg) (by rw [S.mg]; exact hm) hv r hn hd, im_const fun _ => rfl⟩⟩
def dNil : DTA := fun _ env Q => Q [] env
def dCons (t : DT) (u : DTA) : DTA := fun Ex env Q => t Ex env fun x env1 => u Ex env1 fun xs env2 => Q (x :: xs) env2
theorem im_nil {K : PySem.W.Frag} {W : WX} : ImA K W tNil dNil := fun e Ex _ env T F σ H Q R hh ht hR => hR [] H F env [] rfl hh ht
theorem im_cons {K : PySem.W.Frag} {W : WX} {te : TE} {ta : TA} {t : DT} {u : DTA} (h1 : Im K W te t) (h2 : ImA K W ta u) : ImA K W (tCons te ta) (dCons t u) := fun e Ex hl env T F σ H Q R hh ht hR => by
  refine h1 e Ex hl env T F σ H _ _ hh ht fun v H1 F1 env1 sl hh1 q1 => ?_
  refine h2 e Ex hl env1 _ F1 σ H1 _ _ hh1 q1 fun vs H2 F2 env2 xs le hh2 q2 => ?_
  exact hR (v :: vs) H2 F2 env2 (sl :: xs) (by rw [List.length_cons, List.length_cons, le]) (hh2.perm List.perm_middle) q2
theorem da_nil : DAs G N sc k [] dNil := ⟨fun _ => ⟨tNil, fun _ _ => pa_nil, im_nil⟩⟩
abbrev NoStar (e : Expr) (es : List Expr) : Prop := ∀ env, starEach (e :: es) env = (false, eval e env) :: starEach es env
theorem da_cons {e : Expr} {es : List Expr} {t : DT} {u : DTA} (h1 : DE G N sc k e t) (h2 : DAs G N sc k es u) (hs : NoStar e es := by intro _; rfl) : DAs G N sc k (e :: es) (dCons t u) :=
  ⟨fun W => by
    obtain ⟨te, p1, i1⟩ := h1.ex W
    obtain ⟨ta, p2, i2⟩ := h2.ex W
    exact ⟨tCons te ta, fun X S => pa_cons (p1 X S) (p2 X S) (hs _), im_cons i1 i2⟩⟩
theorem cellOf_mem : ∀ {cs : List (Addr × OC)} {b : Addr} {oc : OC}, cellOf cs b = some oc → (b, oc) ∈ cs
  | [], _, _, h => nomatch h
  | p :: r, b, oc, h => by
    unfold cellOf at h
    split at h
    · rename_i e
      cases h
      rw [← e]
      exact List.mem_cons_self
    · exact List.mem_cons_of_mem _ (cellOf_mem h)
theorem Holds.cell {K : PySem.W.Frag} {e : Ent} {env : Env'} {T : Tmp} {F : Hp} {σ : St} {H : Hp} {i : Nat} {d : D} {cs : List (Addr × OC)} {b : Addr} {oc : OC} (h : Holds K e env T F σ H) (hi : env[i]? = some (.reg d cs)) (hc : cellOf cs b = some oc) : F b = none ∧ ∃ o, H b = some o ∧ OC.ok K F b oc o := by
  rcases h.slots i _ hi with z | ⟨v, _, _, _, ok⟩
  · cases z
  · exact ok (b, oc) (cellOf_mem hc)
def RepT (K : PySem.W.Frag) (F H : Hp) (d : D) (v : V) : Prop := Rep K F d v ∨ ∃ a ds vs, d = .lst ds ∧ v = .ref a ∧ H a = some (.lst vs) ∧ Reps K F ds vs
def RepTs (K : PySem.W.Frag) (F H : Hp) : List D → List V → Prop
  | [], vs => vs = []
  | d :: ds, vs => ∃ v r, vs = v :: r ∧ RepT K F H d v ∧ RepTs K F H ds r
def wd (env : Env') (sl : Sl) (k : D → Prop) : Prop := match sl with
  | .ext d => k d
  | .lst _ ds => k (.lst ds)
  | .al i a => match env[i]? with
    | some (.lst b ds) => b = a ∧ k (.lst ds)
    | _ => False
  | .un => False
  | .reg _ _ => False
  | .ar i b => match env[i]? with
    | some (.reg _ cs) => match cellOf cs b with
      | some (.lst ds) => k (.lst ds)
      | _ => False
    | _ => False
def wds (env : Env') : List Sl → (List D → Prop) → Prop
  | [], k => k []
  | s :: ss, k => wd env s fun d => wds env ss fun ds => k (d :: ds)
theorem Holds.wd {K : PySem.W.Frag} {e : Ent} {env : Env'} {T : Tmp} {F : Hp} {σ : St} {H : Hp} {v : V} {sl : Sl} {q : D → Prop} (h : Holds K e env T F σ H) (m : (v, sl) ∈ T) (w : HD.wd env sl q) : ∃ d, RepT K F H d v ∧ q d := by
  have ok := h.temps _ m
  cases sl with
  | un => exact w.elim
  | reg _ _ => exact w.elim
  | ar i b =>
    have w' : (match env[i]? with | some (.reg _ cs) => (match cellOf cs b with | some (.lst ds) => q (.lst ds) | _ => False) | _ => False) := w
    split at w'
    · rename_i d cs hb
      split at w'
      · rename_i ds hc
        obtain ⟨_, o, ho, vs, rfl, hr⟩ := h.cell hb hc
        exact ⟨.lst ds, .inr ⟨b, ds, vs, rfl, ok, ho, hr⟩, w'⟩
      · exact w'.elim
    · exact w'.elim
  | ext d => exact ⟨d, .inl ok, w⟩
  | lst a ds =>
    obtain ⟨e1, _, vs, hv, hr⟩ := ok
    exact ⟨.lst ds, .inr ⟨a, ds, vs, rfl, e1, hv, hr⟩, w⟩
  | al i a =>
    have w' : (match env[i]? with | some (.lst b ds) => b = a ∧ q (.lst ds) | _ => False) := w
    split at w'
    · rename_i b ds hb
      obtain ⟨rfl, w'⟩ := w'
      rcases h.slots i _ hb with z | ⟨u, hu, e1, _, vs, hv, hr⟩
      · cases z
      · exact ⟨.lst ds, .inr ⟨b, ds, vs, rfl, ok, hv, hr⟩, w'⟩
    · exact w'.elim
theorem Holds.wds {K : PySem.W.Frag} {e : Ent} {env : Env'} {T : Tmp} {F : Hp} {σ : St} {H : Hp} (h : Holds K e env T F σ H) : ∀ {vs : List V} {xs : List Sl} {q : List D → Prop}, vs.length = xs.length → (∀ p ∈ vs.zip xs, p ∈ T) → HD.wds env xs q → ∃ ds, RepTs K F H ds vs ∧ q ds
  | [], [], q, _, _, w => ⟨[], rfl, w⟩
  | [], _ :: _, _, e, _, _ => by cases e
  | _ :: _, [], _, e, _, _ => by cases e
  | v :: vs, x :: xs, q, e, m, w => by
    obtain ⟨d, r1, w1⟩ := h.wd (m (v, x) List.mem_cons_self) w
    obtain ⟨ds, r2, w2⟩ := Holds.wds h (by simpa using e) (fun p hp => m p (List.mem_cons_of_mem _ hp)) w1
    exact ⟨d :: ds, ⟨v, vs, rfl, r1, r2⟩, w2⟩
section
variable {K : PySem.W.Frag} {F H : Hp} {v : V}
theorem RepT.int {i : Int} (h : RepT K F H (.int i) v) : v = .int i := by
  rcases h with h | ⟨_, _, _, z, _⟩
  · exact h
  · cases z
theorem RepT.str {x : Str} (h : RepT K F H (.str x) v) : v = .str x := by
  rcases h with h | ⟨_, _, _, z, _⟩
  · exact h
  · cases z
theorem RepT.bl {x : Bool} (h : RepT K F H (.bl x) v) : v = .bl x := by
  rcases h with h | ⟨_, _, _, z, _⟩
  · exact h
  · cases z
theorem RepT.non (h : RepT K F H .non v) : v = .non := by
  rcases h with h | ⟨_, _, _, z, _⟩
  · exact h
  · cases z
theorem RepT.val {x : V} (h : RepT K F H (.val x) v) : v = x := by
  rcases h with h | ⟨_, _, _, z, _⟩
  · exact h
  · cases z
theorem RepT.tup {ds : List D} (fh : Same F H) (h : RepT K F H (.tup ds) v) : ∃ a vs, v = .ref a ∧ SqT K H a vs ∧ TupD K F a vs ∧ Reps K F ds vs := by
  rcases h with ⟨a, vs, e, hs, hr⟩ | ⟨_, _, _, z, _⟩
  · exact ⟨a, vs, e, SqT.same fh hs.sq, hs, hr⟩
  · cases z
theorem RepT.tk {ds : List D} (fh : Same F H) (h : RepT K F H (.tk ds) v) : ∃ a vs, v = .ref a ∧ SqT K H a vs ∧ SqT K F a vs ∧ Reps K F ds vs := by
  rcases h with ⟨a, vs, e, hs, hr⟩ | ⟨_, _, _, z, _⟩
  · exact ⟨a, vs, e, SqT.same fh hs, hs, hr⟩
  · cases z
theorem RepT.lst {ds : List D} (fh : Same F H) (h : RepT K F H (.lst ds) v) : ∃ a vs, v = .ref a ∧ H a = some (.lst vs) ∧ Reps K F ds vs := by
  rcases h with ⟨a, vs, e, hs, hr⟩ | ⟨a, ds', vs, z, e, hs, hr⟩
  · exact ⟨a, vs, e, fh _ _ hs, hr⟩
  · cases z
    exact ⟨a, vs, e, hs, hr⟩
theorem RepT.fz {ds : List D} (fh : Same F H) (h : RepT K F H (.fz ds) v) : ∃ a vs, v = .ref a ∧ SqL K H a vs ∧ Reps K F ds vs := by
  rcases h with ⟨a, vs, e, hs, hr⟩ | ⟨a, ds', vs, z, e, hs, hr⟩
  · exact ⟨a, vs, e, fh.seq hs, hr⟩
  · cases z
theorem RepT.rep {d : D} (fh : Same F H) (h : RepT K F H d v) : Rep K H d v := by
  rcases h with h | ⟨a, ds, vs, rfl, rfl, hs, hr⟩
  · exact Rep.same fh h
  · exact ⟨a, vs, rfl, hs, hr.same fh⟩
theorem RepTs.one {d : D} {vs : List V} (h : RepTs K F H [d] vs) : ∃ v, vs = [v] ∧ RepT K F H d v := by
  obtain ⟨v, r, rfl, h1, h2⟩ := h
  have z : r = [] := h2
  exact ⟨v, by rw [z], h1⟩
theorem RepTs.two {d d' : D} {vs : List V} (h : RepTs K F H [d, d'] vs) : ∃ v v', vs = [v, v'] ∧ RepT K F H d v ∧ RepT K F H d' v' := by
  obtain ⟨v, r, rfl, h1, h2⟩ := h
  obtain ⟨v', e, h3⟩ := RepTs.one h2
  exact ⟨v, v', by rw [e], h1, h3⟩
end
def After (K : PySem.W.Frag) (F H : Hp) (Q : Sl → Prop) (R : VK) : Prop :=
  ∀ v F1 H1 sl, Grow F H F1 H1 → SlOk K F1 H1 v sl → (∀ a ∈ sl.owned, H a = none) → Q sl → R v H1
def Pr (K : PySem.W.Frag) (r : List V → Hp → VK → Prop) (f : List D → (Sl → Prop) → Prop) : Prop :=
  ∀ F H vs ds (Q : Sl → Prop) (R : VK), Same F H → RepTs K F H ds vs → f ds Q → After K F H Q R → r vs H R
def Pr2 (K : PySem.W.Frag) (r : R2) (f : D → D → (Sl → Prop) → Prop) : Prop :=
  ∀ F H v u d d' (Q : Sl → Prop) (R : VK), Same F H → RepT K F H d v → RepT K F H d' u → f d d' Q → After K F H Q R → r v u H R
section
variable {K : PySem.W.Frag} {F H : Hp} {Q : Sl → Prop} {R : VK}
theorem After.ext (h : After K F H Q R) (fh : Same F H) {v : V} {d : D} (r : Rep K F d v) (q : Q (.ext d)) : R v H := h v F H (.ext d) (Grow.refl fh) r (fun _ z => nomatch z) q
theorem After.int (h : After K F H Q R) (fh : Same F H) {i : Int} (q : Q (.ext (.int i))) : R (.int i) H := h.ext (d := .int i) fh rfl q
theorem After.bl (h : After K F H Q R) (fh : Same F H) {i : Bool} (q : Q (.ext (.bl i))) : R (.bl i) H := h.ext (d := .bl i) fh rfl q
theorem After.str (h : After K F H Q R) (fh : Same F H) {i : Str} (q : Q (.ext (.str i))) : R (.str i) H := h.ext (d := .str i) fh rfl q
theorem After.lst (h : After K F H Q R) (fh : Same F H) {p : Addr} {ds : List D} {vs : List V} (n : H p = none) (r : Reps K F ds vs) (q : Q (.lst p ds)) : R (.ref p) (upd H p (.lst vs)) :=
  h _ F _ (.lst p ds) (Grow.loose fh n) ⟨rfl, fh.free n, vs, upd_same, r⟩ (fun a z => by rw [List.mem_singleton.mp z]; exact n) q
theorem After.tup (h : After K F H Q R) (fh : Same F H) {ds : List D} {vs : List V} (r : Reps K F ds vs) (q : Q (.ext (.tup ds))) : newT H vs R := fun p o n d =>
  h _ (upd F p (.frz o (.tup vs))) _ (.ext (.tup ds)) (Grow.frozen fh n) ⟨p, vs, rfl, .inl ⟨o, upd_same, d⟩, r.same (Grow.frozen fh n).ff⟩ (fun _ z => nomatch z) q
end
theorem Holds.done {K : PySem.W.Frag} {e : Ent} {env : Env'} {T : Tmp} {F : Hp} {σ : St} {H : Hp} {Q : Sl → Env' → Prop} {R : VK} (h : Holds K e env T F σ H) (hR : ∀ v H' F' env' sl, Holds K e env' ((v, sl) :: T) F' σ H' → Q sl env' → R v H') : After K F H (fun sl => Q sl env) R :=
  fun v F1 H1 sl g ok own q => hR v H1 F1 env sl (h.push g ok own) q
def dOp (f : D → D → (Sl → Prop) → Prop) (ta tb : DT) : DT := fun Ex env Q => ta Ex env fun x env1 => tb Ex env1 fun y env2 => wd env2 x fun d => wd env2 y fun d' => f d d' fun sl => Q sl env2
theorem im_op {K : PySem.W.Frag} {W : WX} {r : R2} {f : D → D → (Sl → Prop) → Prop} {ta tb : TE} {sa sb : DT} (hr : Pr2 K r f) (ha : Im K W ta sa) (hb : Im K W tb sb) : Im K W (tOp r ta tb) (dOp f sa sb) := fun e Ex hl env T F σ H Q R hh ht hR => by
  refine ha e Ex hl env T F σ H _ _ hh ht fun v H1 F1 env1 x hh1 q1 => ?_
  refine hb e Ex hl env1 _ F1 σ H1 _ _ hh1 q1 fun u H2 F2 env2 y hh2 q2 => ?_
  obtain ⟨d, rd, q3⟩ := hh2.wd (v := v) (sl := x) (List.mem_cons_of_mem _ List.mem_cons_self) q2
  obtain ⟨d', rd', q4⟩ := hh2.wd (v := u) (sl := y) List.mem_cons_self q3
  exact hr F2 H2 v u d d' _ R hh2.fh rd rd' q4 (hh2.pop.pop.done hR)
theorem Sit.units {W : WX} {X : Cx} (S : Sit G N sc W k X) : X.A.units + 64 < cLine := S.room.units
end
end HD
namespace HD
open PySem L2
def fAdd : D → D → (Sl → Prop) → Prop
  | .int i, .int j, Q => Q (.ext (.int (i + j)))
  | .str x, .str y, Q => x.length + y.length ≤ sizeLine ∧ Q (.ext (.str (x ++ y)))
  | .lst xs, .lst ys, Q => xs.length + ys.length ≤ sizeLine ∧ ∀ a, Q (.lst a (xs ++ ys))
  | .tup xs, .tup ys, Q => xs.length + ys.length ≤ sizeLine ∧ Q (.ext (.tup (xs ++ ys)))
  | _, _, _ => False
def rAddD (K : PySem.W.Frag) : R2 := fun x y H Q => (rI0 fun i j => .int (i + j)) x y H Q ∨ (∃ i j, x = .str i ∧ y = .str j ∧ i.length + j.length ≤ sizeLine ∧ Q (.str (i ++ j)) H) ∨ rCat x y H Q ∨ rCatF K x y H Q
theorem op_addD {X : Cx} : OpR X (binaryOp .Add) (rAddD X.K) := op_add.or (op_add_str.or (op_cat.or op_catF))
theorem pr_add {K : PySem.W.Frag} : Pr2 K (rAddD K) fAdd := fun F H v u d d' Q R fh h1 h2 hf ha => by
  unfold fAdd at hf
  split at hf
  · exact .inl ⟨_, _, h1.int, h2.int, ha.int fh hf⟩
  · exact .inr (.inl ⟨_, _, h1.str, h2.str, hf.1, ha.str fh hf.2⟩)
  · obtain ⟨a, vs, rfl, e1, r1⟩ := h1.lst fh
    obtain ⟨b, us, rfl, e2, r2⟩ := h2.lst fh
    exact .inr (.inr (.inl ⟨a, b, vs, us, rfl, rfl, e1, e2, by rw [← r1.length, ← r2.length]; exact hf.1, fun p n => ha.lst fh n (r1.append r2) (hf.2 p)⟩))
  · obtain ⟨a, vs, rfl, e1, e1', r1⟩ := h1.tup fh
    obtain ⟨b, us, rfl, e2, e2', r2⟩ := h2.tup fh
    refine .inr (.inr (.inr ⟨a, b, vs, us, rfl, rfl, e1, e2, by rw [← r1.length, ← r2.length]; exact hf.1, fun z => ?_, fun _ z => ?_, fun _ _ => ha.tup fh (r1.append r2) hf.2⟩))
    · refine ha.ext (d := .tup _) fh ⟨b, us, rfl, e2', ?_⟩ hf.2
      have q := r1.append r2
      rw [z] at q
      exact q
    · refine ha.ext (d := .tup _) fh ⟨a, vs, rfl, e1', ?_⟩ hf.2
      have q := r1.append r2
      rw [z, List.append_nil] at q
      exact q
  · exact hf.elim
def fSub : D → D → (Sl → Prop) → Prop
  | .int i, .int j, Q => Q (.ext (.int (i - j)))
  | _, _, _ => False
theorem pr_sub {K : PySem.W.Frag} : Pr2 K (rI0 fun i j => .int (i - j)) fSub := fun F H v u d d' Q R fh h1 h2 hf ha => by
  unfold fSub at hf
  split at hf
  · exact ⟨_, _, h1.int, h2.int, ha.int fh hf⟩
  · exact hf.elim
def fMul : D → D → (Sl → Prop) → Prop
  | .int i, .int j, Q => CMulW i j ∧ Q (.ext (.int (i * j)))
  | .lst xs, .int k, Q => k < 2 ^ 63 ∧ 0 ≤ k ∧ xs.length * k.toNat ≤ sizeLine ∧ ∀ a, Q (.lst a (List.replicate k.toNat xs).flatten)
  | _, _, _ => False
theorem Reps.rep {K : PySem.W.Frag} {F : Hp} {ds : List D} {vs : List V} (h : Reps K F ds vs) : ∀ k : Nat, Reps K F (List.replicate k ds).flatten (List.replicate k vs).flatten
  | 0 => rfl
  | k + 1 => by
    rw [List.replicate_succ, List.replicate_succ, List.flatten_cons, List.flatten_cons]
    exact h.append (Reps.rep h k)
theorem pr_mul {K : PySem.W.Frag} : Pr2 K (fun x y H Q => (rI CMulW fun i j => .int (i * j)) x y H Q ∨ rRep x y H Q) fMul := fun F H v u d d' Q R fh h1 h2 hf ha => by
  unfold fMul at hf
  split at hf
  · exact .inl ⟨_, _, h1.int, h2.int, hf.1, ha.int fh hf.2⟩
  · obtain ⟨a, vs, rfl, e1, r1⟩ := h1.lst fh
    obtain ⟨hf1, hf0, hf2, hf3⟩ := hf
    exact .inr ⟨a, _, vs, rfl, h2.int, e1, Int.le_trans (by decide) hf0, hf1, by rw [← r1.length]; exact hf2, fun p n => ha.lst fh n (r1.rep _) (hf3 p)⟩
  · exact hf.elim
theorem op_mulD {X : Cx} : OpR X (binaryOp .Mult) (fun x y H Q => (rI CMulW fun i j => .int (i * j)) x y H Q ∨ rRep x y H Q) := op_mulW.or op_rep
def fDiv : D → D → (Sl → Prop) → Prop
  | .int i, .int j, Q => CDivW i j ∧ Q (.ext (.int (i / j)))
  | _, _, _ => False
theorem pr_div {K : PySem.W.Frag} : Pr2 K (rI CDivW fun i j => .int (i / j)) fDiv := fun F H v u d d' Q R fh h1 h2 hf ha => by
  unfold fDiv at hf
  split at hf
  · exact ⟨_, _, h1.int, h2.int, hf.1, ha.int fh hf.2⟩
  · exact hf.elim
def fMod : D → D → (Sl → Prop) → Prop
  | .int i, .int j, Q => 0 < j ∧ Q (.ext (.int (i % j)))
  | _, _, _ => False
theorem pr_mod {K : PySem.W.Frag} : Pr2 K (rI (fun _ j => 0 < j) fun i j => .int (i % j)) fMod := fun F H v u d d' Q R fh h1 h2 hf ha => by
  unfold fMod at hf
  split at hf
  · exact ⟨_, _, h1.int, h2.int, hf.1, ha.int fh hf.2⟩
  · exact hf.elim
def fPow : D → D → (Sl → Prop) → Prop
  | .int i, .int j, Q => CPow i j ∧ Q (.ext (.int (i ^ j.toNat)))
  | _, _, _ => False
theorem pr_pow {K : PySem.W.Frag} : Pr2 K (rI CPow fun i j => .int (i ^ j.toNat)) fPow := fun F H v u d d' Q R fh h1 h2 hf ha => by
  unfold fPow at hf
  split at hf
  · exact ⟨_, _, h1.int, h2.int, hf.1, ha.int fh hf.2⟩
  · exact hf.elim
section
variable {G : GG} {N : List Str} {sc : SC} {k : Nat} {a b : Expr} {ta tb : DT} {pos : Pos}
theorem de_bin {op : Operator} {r : PySem.W.Frag → R2} {f : D → D → (Sl → Prop) → Prop} (hr : ∀ K, Pr2 K (r K) f) (ho : ∀ X : Cx, OpR X (binaryOp op) (r X.K)) (ha : DE G N sc k a ta) (hb : DE G N sc k b tb) : DE G N sc k (.BinOp a op b pos) (dOp f ta tb) :=
  ⟨fun W => by
    obtain ⟨te, p1, i1⟩ := ha.ex W
    obtain ⟨tf, p2, i2⟩ := hb.ex W
    exact ⟨tOp (r G.K) te tf, fun X S => pe_op (by rw [← S.K]; exact ho X) (p1 X S) (p2 X S), im_op (hr _) i1 i2⟩⟩
theorem de_add (ha : DE G N sc k a ta) (hb : DE G N sc k b tb) : DE G N sc k (.BinOp a .Add b pos) (dOp fAdd ta tb) := de_bin (r := rAddD) (fun _ => pr_add) (fun _ => op_addD) ha hb
theorem de_sub (ha : DE G N sc k a ta) (hb : DE G N sc k b tb) : DE G N sc k (.BinOp a .Sub b pos) (dOp fSub ta tb) := de_bin (r := fun _ => _) (fun _ => pr_sub) (fun _ => op_sub) ha hb
theorem de_mul (ha : DE G N sc k a ta) (hb : DE G N sc k b tb) : DE G N sc k (.BinOp a .Mult b pos) (dOp fMul ta tb) := de_bin (r := fun _ => _) (fun _ => pr_mul) (fun _ => op_mulD) ha hb
theorem de_div (ha : DE G N sc k a ta) (hb : DE G N sc k b tb) : DE G N sc k (.BinOp a .FloorDiv b pos) (dOp fDiv ta tb) := de_bin (r := fun _ => _) (fun _ => pr_div) (fun _ => op_fdivW) ha hb
theorem de_mod (ha : DE G N sc k a ta) (hb : DE G N sc k b tb) : DE G N sc k (.BinOp a .Mod b pos) (dOp fMod ta tb) := de_bin (r := fun _ => _) (fun _ => pr_mod) (fun _ => op_mod) ha hb
theorem de_pow (ha : DE G N sc k a ta) (hb : DE G N sc k b tb) : DE G N sc k (.BinOp a .Pow b pos) (dOp fPow ta tb) := de_bin (r := fun _ => _) (fun _ => pr_pow) (fun _ => op_pow) ha hb
end
def dNeg (ta : DT) : DT := fun Ex env Q => ta Ex env fun x env1 => wd env1 x fun d => match d with
  | .int i => Q (.ext (.int (-i))) env1
  | _ => False
theorem de_neg {G : GG} {N : List Str} {sc : SC} {k : Nat} {a : Expr} {ta : DT} {pos : Pos} (ha : DE G N sc k a ta) : DE G N sc k (.UnaryOp .USub a pos) (dNeg ta) :=
  ⟨fun W => by
    obtain ⟨te, p1, i1⟩ := ha.ex W
    refine ⟨tUn (rU fun i => .int (-i)) te, fun X S => pe_un un_neg (p1 X S), fun e Ex hl env T F σ H Q R hh ht hR => ?_⟩
    refine i1 e Ex hl env T F σ H _ _ hh ht fun v H1 F1 env1 x hh1 q1 => ?_
    obtain ⟨d, rd, q3⟩ := hh1.wd (v := v) (sl := x) List.mem_cons_self q1
    cases d <;> first
      | exact q3.elim
      | exact ⟨_, rd.int, (hh1.pop.done hR).int hh1.fh q3⟩⟩
mutual
def D.py : D → PyData
  | .non => .none
  | .bl b => .bool b
  | .int i => .int i
  | .str x => .str x
  | .val _ => .none
  | .lst ds => .list (D.pys ds)
  | .fz ds => .list (D.pys ds)
  | .tup ds => .tuple (D.pys ds)
  | .tk ds => .tuple (D.pys ds)
  | .exc _ => .none
  | .glo _ => .none
  | .dk _ _ => .none
  | .dt _ _ => .none
def D.pys : List D → List PyData
  | [] => []
  | d :: ds => D.py d :: D.pys ds
end
mutual
def D.noVal : D → Bool
  | .val _ => false
  | .exc _ => false
  | .glo _ => false
  | .dk _ _ => false
  | .dt _ _ => false
  | .lst ds => D.noVals ds
  | .fz ds => D.noVals ds
  | .tup ds => D.noVals ds
  | .tk ds => D.noVals ds
  | _ => true
def D.noVals : List D → Bool
  | [] => true
  | d :: ds => D.noVal d && D.noVals ds
end
section
variable {K : PySem.W.Frag} {H : Hp}
mutual
theorem Rep.dp : ∀ {d : D} {v : V}, d.noVal = true → Rep K H d v → Dp K H v d.py
  | .non, _, _, h => by
    have e : _ = V.non := h
    rw [e]
    exact .non
  | .bl b, _, _, h => by
    have e : _ = V.bl b := h
    rw [e]
    exact .bl b
  | .int b, _, _, h => by
    have e : _ = V.int b := h
    rw [e]
    exact .int b
  | .str b, _, _, h => by
    have e : _ = V.str b := h
    rw [e]
    exact .str b
  | .val _, _, n, _ => nomatch n
  | .exc _, _, n, _ => nomatch n
  | .glo _, _, n, _ => nomatch n
  | .dk _ _, _, n, _ => nomatch n
  | .dt _ _, _, n, _ => nomatch n
  | .lst ds, _, n, h => by
    obtain ⟨a, xs, rfl, hs, hr⟩ := h
    exact .lst (SqL.of hs) (Reps.dp n hr)
  | .fz ds, _, n, h => by
    obtain ⟨a, xs, rfl, hs, hr⟩ := h
    exact .lst hs (Reps.dp n hr)
  | .tup ds, _, n, h => by
    obtain ⟨a, xs, rfl, hs, hr⟩ := h
    exact .tup hs.sq (Reps.dp n hr)
  | .tk ds, _, n, h => by
    obtain ⟨a, xs, rfl, hs, hr⟩ := h
    exact .tup hs (Reps.dp n hr)
theorem Reps.dp : ∀ {ds : List D} {vs : List V}, D.noVals ds = true → Reps K H ds vs → DpAll K H vs (D.pys ds)
  | [], _, _, h => by
    have e : _ = [] := h
    rw [e]
    exact .nil
  | d :: ds, _, n, h => by
    obtain ⟨v, r, rfl, h1, h2⟩ := h
    have n' : (D.noVal d && D.noVals ds) = true := n
    rw [Bool.and_eq_true] at n'
    exact .cons (Rep.dp n'.1 h1) (Reps.dp n'.2 h2)
end
end
def D.cmp (d : D) : Prop := d.noVal = true ∧ SeqAt.shaped d.py = true
def D.eqv (d e : D) : Bool := PyData.eqv d.py e.py
def fEq : D → D → (Sl → Prop) → Prop
  | .int i, .int j, Q => Q (.ext (.bl (i == j)))
  | .str i, .str j, Q => Q (.ext (.bl (i == j)))
  | .bl i, .bl j, Q => Q (.ext (.bl (i == j)))
  | d, e, Q => d.cmp ∧ e.cmp ∧ Q (.ext (.bl (d.eqv e)))
def fNe : D → D → (Sl → Prop) → Prop
  | .int i, .int j, Q => Q (.ext (.bl (!(i == j))))
  | .str i, .str j, Q => Q (.ext (.bl (!(i == j))))
  | .bl i, .bl j, Q => Q (.ext (.bl (!(i == j))))
  | d, e, Q => d.cmp ∧ e.cmp ∧ Q (.ext (.bl (!d.eqv e)))
def rEqA (K : PySem.W.Frag) : R2 := fun x y H Q => rEq x y H Q ∨ rEqD K x y H Q
def rNeA (K : PySem.W.Frag) : R2 := fun x y H Q => rNe x y H Q ∨ rNeD K x y H Q
theorem pr_eq {K : PySem.W.Frag} : Pr2 K (rEqA K) fEq := fun F H v u d d' Q R fh h1 h2 hf ha => by
  unfold fEq at hf
  split at hf
  · rw [h1.int, h2.int]
    exact .inl ⟨rfl, by rw [dec_int]; exact ha.bl fh hf⟩
  · rw [h1.str, h2.str]
    exact .inl ⟨rfl, by rw [dec_str]; exact ha.bl fh hf⟩
  · rw [h1.bl, h2.bl]
    exact .inl ⟨rfl, by rw [dec_bl]; exact ha.bl fh hf⟩
  · obtain ⟨c1, c2, q⟩ := hf
    exact .inr ⟨d.py, d'.py, Rep.dp c1.1 (h1.rep fh), Rep.dp c2.1 (h2.rep fh), c1.2, c2.2, ha.bl fh q⟩
theorem pr_ne {K : PySem.W.Frag} : Pr2 K (rNeA K) fNe := fun F H v u d d' Q R fh h1 h2 hf ha => by
  unfold fNe at hf
  split at hf
  · rw [h1.int, h2.int]
    exact .inl ⟨rfl, by rw [dec_int]; exact ha.bl fh hf⟩
  · rw [h1.str, h2.str]
    exact .inl ⟨rfl, by rw [dec_str]; exact ha.bl fh hf⟩
  · rw [h1.bl, h2.bl]
    exact .inl ⟨rfl, by rw [dec_bl]; exact ha.bl fh hf⟩
  · obtain ⟨c1, c2, q⟩ := hf
    exact .inr ⟨d.py, d'.py, Rep.dp c1.1 (h1.rep fh), Rep.dp c2.1 (h2.rep fh), c1.2, c2.2, ha.bl fh q⟩
def fCmp (p : Int → Int → Bool) : D → D → (Sl → Prop) → Prop
  | .int i, .int j, Q => Q (.ext (.bl (p i j)))
  | _, _, _ => False
theorem pr_cmp {K : PySem.W.Frag} {p : Int → Int → Bool} : Pr2 K (rI0 fun i j => .bl (p i j)) (fCmp p) := fun F H v u d d' Q R fh h1 h2 hf ha => by
  unfold fCmp at hf
  split at hf
  · exact ⟨_, _, h1.int, h2.int, ha.bl fh hf⟩
  · exact hf.elim
def D.flat : D → Bool
  | .non => true
  | .bl _ => true
  | .int _ => true
  | .str _ => true
  | _ => false
def D.toV : D → V
  | .non => .non
  | .bl b => .bl b
  | .int i => .int i
  | .str x => .str x
  | .val v => v
  | _ => .non
def D.isIn (x : D) (xs : List D) : Bool := inV x.toV (xs.map D.toV)
def fIn (neg : Bool) : D → D → (Sl → Prop) → Prop
  | d, .lst ds, Q => d.flat = true ∧ ds.all D.flat = true ∧ Q (.ext (.bl (if neg then !d.isIn ds else d.isIn ds)))
  | d, .tup ds, Q => d.flat = true ∧ ds.all D.flat = true ∧ Q (.ext (.bl (if neg then !d.isIn ds else d.isIn ds)))
  | _, _, _ => False
theorem flat_rep {K : PySem.W.Frag} {F : Hp} {d : D} {v : V} (h : Rep K F d v) (f : d.flat = true) : v = d.toV ∧ flatV v = true := by
  cases d with
  | non =>
    have e : v = .non := h
    rw [e]
    exact ⟨rfl, rfl⟩
  | bl b =>
    have e : v = .bl b := h
    rw [e]
    exact ⟨rfl, rfl⟩
  | int b =>
    have e : v = .int b := h
    rw [e]
    exact ⟨rfl, rfl⟩
  | str b =>
    have e : v = .str b := h
    rw [e]
    exact ⟨rfl, rfl⟩
  | val u => exact nomatch f
  | lst ds => exact nomatch f
  | fz ds => exact nomatch f
  | tup ds => exact nomatch f
  | tk ds => exact nomatch f
  | exc c => exact nomatch f
  | glo c => exact nomatch f
  | dk _ _ => exact nomatch f
  | dt _ _ => exact nomatch f
theorem flat_reps {K : PySem.W.Frag} {F : Hp} : ∀ {ds : List D} {vs : List V}, Reps K F ds vs → ds.all D.flat = true → vs = ds.map D.toV ∧ vs.all flatV = true
  | [], _, h, _ => by
    have e : _ = [] := h
    rw [e]
    exact ⟨rfl, rfl⟩
  | d :: ds, _, h, f => by
    obtain ⟨v, r, rfl, h1, h2⟩ := h
    rw [List.all_cons, Bool.and_eq_true] at f
    obtain ⟨e1, f1⟩ := flat_rep h1 f.1
    obtain ⟨e2, f2⟩ := flat_reps h2 f.2
    rw [List.all_cons, f1, f2, List.map_cons, ← e1, ← e2]
    exact ⟨rfl, rfl⟩
section
variable {G : GG} {N : List Str} {sc : SC} {k : Nat} {a b c : Expr} {ta tb tc : DT} {pos : Pos}
def CmpR (op : CmpOp) (f : D → D → (Sl → Prop) → Prop) : Prop := ∃ r : PySem.W.Frag → R2, (∀ K, Pr2 K (r K) f) ∧ ∀ X : Cx, X.A.units + 64 < cLine → OpR X (compareOp op) (r X.K)
theorem c_eq : CmpR .Eq fEq := ⟨rEqA, fun _ => pr_eq, fun _ h => op_eq.or (op_eqD h)⟩
theorem c_ne : CmpR .NotEq fNe := ⟨rNeA, fun _ => pr_ne, fun _ h => op_ne.or (op_neD h)⟩
theorem c_lt : CmpR .Lt (fCmp fun i j => decide (i < j)) := ⟨fun _ => _, fun _ => pr_cmp, fun _ _ => op_lt⟩
theorem c_le : CmpR .LtE (fCmp fun i j => decide (i ≤ j)) := ⟨fun _ => _, fun _ => pr_cmp, fun _ _ => op_le⟩
theorem c_gt : CmpR .Gt (fCmp fun i j => decide (j < i)) := ⟨fun _ => _, fun _ => pr_cmp, fun _ _ => op_gt⟩
theorem c_ge : CmpR .GtE (fCmp fun i j => decide (j ≤ i)) := ⟨fun _ => _, fun _ => pr_cmp, fun _ _ => op_ge⟩
def D.knN : D → Bool
  | .val _ => false
  | _ => true
def D.isNon : D → Bool
  | .non => true
  | _ => false
def fIsN : D → D → (Sl → Prop) → Prop
  | d, .non, Q => d.knN = true ∧ Q (.ext (.bl d.isNon))
  | _, _, _ => False
theorem isN_dec {K : PySem.W.Frag} {F : Hp} {d : D} {v : V} (n : d.knN = true) (h : Rep K F d v) : decide (v = .non) = d.isNon := by
  cases d with
  | non =>
    have e : v = .non := h
    rw [e]
    rfl
  | val u => cases n
  | bl b =>
    have e : v = .bl b := h
    rw [e]
    rfl
  | int b =>
    have e : v = .int b := h
    rw [e]
    rfl
  | str b =>
    have e : v = .str b := h
    rw [e]
    exact decide_eq_false fun z => nomatch z
  | lst ds =>
    obtain ⟨a, xs, rfl, _⟩ := h
    rfl
  | fz ds =>
    obtain ⟨a, xs, rfl, _⟩ := h
    rfl
  | tup ds =>
    obtain ⟨a, xs, rfl, _⟩ := h
    rfl
  | tk ds =>
    obtain ⟨a, xs, rfl, _⟩ := h
    rfl
  | exc c =>
    obtain ⟨a, oe, rfl, _⟩ := h
    rfl
  | dk _ _ =>
    obtain ⟨a, _, _, rfl, _⟩ := h
    rfl
  | dt _ _ =>
    obtain ⟨a, _, _, rfl, _⟩ := h
    rfl
  | glo c =>
    have e : v = .ref _ := h
    rw [e]
    rfl
theorem c_is : CmpR .Is fIsN := ⟨fun _ => _, fun K F H v u d d' Q R fh h1 h2 hf ha => by
    unfold fIsN at hf
    split at hf
    · refine ⟨h2.non, ?_⟩
      rw [isN_dec hf.1 (h1.rep fh)]
      exact ha.bl fh hf.2
    · exact hf.elim, fun _ _ => op_isN⟩
def fNotN : D → D → (Sl → Prop) → Prop
  | d, .non, Q => d.knN = true ∧ Q (.ext (.bl (!d.isNon)))
  | _, _, _ => False
theorem c_isnot : CmpR .IsNot fNotN := ⟨fun _ => _, fun K F H v u d d' Q R fh h1 h2 hf ha => by
    unfold fNotN at hf
    split at hf
    · refine ⟨h2.non, ?_⟩
      rw [isN_dec hf.1 (h1.rep fh)]
      exact ha.bl fh hf.2
    · exact hf.elim, fun _ _ => op_notN⟩
theorem de_cmp {op : CmpOp} {f : D → D → (Sl → Prop) → Prop} (hr : CmpR op f) (ha : DE G N sc k a ta) (hb : DE G N sc k b tb) (hm : behindInMarks op b = false := by first | exact nomark _ | rfl) : DE G N sc k (.Compare a [op] [b] pos) (dOp f ta tb) :=
  ⟨fun W => by
    obtain ⟨r, h1, h2⟩ := hr
    obtain ⟨te, p1, i1⟩ := ha.ex W
    obtain ⟨tf, p2, i2⟩ := hb.ex W
    exact ⟨tOp (r G.K) te tf, fun X S => pe_cmpR (by rw [← S.K]; exact h2 X S.units) (p1 X S) (p2 X S) hm, im_op (h1 _) i1 i2⟩⟩
def dTest (t : DT) : DTT := fun Ex env Q => t Ex env fun x env1 => match x with
  | .ext (.bl b) => Q b env1
  | _ => False
theorem imT_of {K : PySem.W.Frag} {W : WX} {te : TE} {t : DT} {tt : TT} (h : Im K W te t) (hs : ∀ σ H Q, te σ H (fun x H1 => ∃ c, x = .bl c ∧ Q c H1) → tt σ H Q) : ImT K W tt (dTest t) := fun e Ex hl env T F σ H Q R hh ht hR => by
  refine hs _ _ _ (h e Ex hl env T F σ H _ _ hh ht fun v H1 F1 env1 x hh1 q1 => ?_)
  cases x with
  | ext d =>
    cases d with
    | bl b => exact ⟨b, hh1.temps (v, .ext (.bl b)) List.mem_cons_self, hR b H1 F1 env1 hh1.pop q1⟩
    | _ => exact q1.elim
  | _ => exact q1.elim
theorem dt_cmp {op : CmpOp} {f : D → D → (Sl → Prop) → Prop} (hr : CmpR op f) (ha : DE G N sc k a ta) (hb : DE G N sc k b tb) (hm : behindInMarks op b = false := by first | exact nomark _ | rfl) : DTe G N sc k (.Compare a [op] [b] pos) (dTest (dOp f ta tb)) :=
  ⟨fun W => by
    obtain ⟨r, h1, h2⟩ := hr
    obtain ⟨te, p1, i1⟩ := ha.ex W
    obtain ⟨tf, p2, i2⟩ := hb.ex W
    exact ⟨tTest (tOp (r G.K) te tf), fun X S => pt_cmpR (by rw [← S.K]; exact h2 X S.units) (p1 X S) (p2 X S) hm, imT_of (im_op (h1 _) i1 i2) fun _ _ _ h => h⟩⟩
theorem dt_val {e : Expr} {t : DT} (h : DE G N sc k e t) (he : ∀ env whole, isTrue e env whole = (do let v ← whole; standAt e.pos; holding [v] (truthy v)) := by intro _ _; rfl) : DTe G N sc k e (dTest t) :=
  ⟨fun W => by
    obtain ⟨te, p1, i1⟩ := h.ex W
    exact ⟨tB te, fun X S => pt_val (p1 X S) (he _), imT_of i1 fun _ _ _ h => h⟩⟩
def dChain (f f' : D → D → (Sl → Prop) → Prop) (ta tb tc : DT) : DT := fun Ex env Q => ta Ex env fun x env1 => tb Ex env1 fun y env2 => wd env2 x fun d => wd env2 y fun d' => f d d' fun z => match z with
  | .ext (.bl true) => tc Ex env2 fun w env3 => wd env3 y fun d1 => wd env3 w fun d2 => f' d1 d2 fun sl => Q sl env3
  | .ext (.bl false) => Q (.ext (.bl false)) env2
  | _ => False
theorem dt_chain {op op' : CmpOp} {f f' : D → D → (Sl → Prop) → Prop} (hr : CmpR op f) (hr' : CmpR op' f') (ha : DE G N sc k a ta) (hb : DE G N sc k b tb) (hc : DE G N sc k c tc)
    (hm : lastMarks [op, op'] [b, c] = false := by with_unfolding_all rfl) : DTe G N sc k (.Compare a [op, op'] [b, c] pos) (dTest (dChain f f' ta tb tc)) :=
  ⟨fun W => by
    obtain ⟨r, h1, h2⟩ := hr
    obtain ⟨r', h1', h2'⟩ := hr'
    obtain ⟨te, p1, i1⟩ := ha.ex W
    obtain ⟨tf, p2, i2⟩ := hb.ex W
    obtain ⟨tg, p3, i3⟩ := hc.ex W
    refine ⟨tTest (tChain (r G.K) (r' G.K) te tf tg), fun X S => pt_chain (by rw [← S.K]; exact h2 X S.units) (by rw [← S.K]; exact h2' X S.units) (p1 X S) (p2 X S) (p3 X S) hm, imT_of (te := tChain (r G.K) (r' G.K) te tf tg) (fun e Ex hl env T F σ H Q R hh ht hR => ?_) fun _ _ _ h => h⟩
    refine i1 e Ex hl env T F σ H _ _ hh ht fun v H1 F1 env1 x hh1 q1 => ?_
    refine i2 e Ex hl env1 _ F1 σ H1 _ _ hh1 q1 fun u H2 F2 env2 y hh2 q2 => ?_
    obtain ⟨d, rd, q3⟩ := hh2.wd (v := v) (sl := x) (List.mem_cons_of_mem _ List.mem_cons_self) q2
    obtain ⟨d', rd', q4⟩ := hh2.wd (v := u) (sl := y) List.mem_cons_self q3
    refine h1 _ F2 H2 v u d d' _ _ hh2.fh rd rd' q4 fun z F3 H3 sl g ok own q5 => ?_
    have hh3 := hh2.push g ok own
    cases sl with
    | ext dz =>
      cases dz with
      | bl bb =>
        refine ⟨bb, hh3.temps (z, .ext (.bl bb)) List.mem_cons_self, ?_⟩
        cases bb with
        | true =>
          rw [if_pos rfl]
          refine i3 e Ex hl env2 _ F3 σ H3 _ _ hh3.pop q5 fun w H4 F4 env4 x4 hh4 q6 => ?_
          obtain ⟨d1, rd1, q7⟩ := hh4.wd (v := u) (sl := y) (List.mem_cons_of_mem _ List.mem_cons_self) q6
          obtain ⟨d2, rd2, q8⟩ := hh4.wd (v := w) (sl := x4) List.mem_cons_self q7
          exact h1' _ F4 H4 u w d1 d2 _ R hh4.fh rd1 rd2 q8 (hh4.pop.pop.pop.done hR)
        | false =>
          rw [if_neg Bool.false_ne_true]
          exact hR (.bl false) H3 F3 env2 (.ext (.bl false)) (hh3.pop.pop.pop.pushE rfl) q5
      | _ => exact q5.elim
    | _ => exact q5.elim⟩
def dAnd (t u : DTT) : DTT := fun Ex env Q => t Ex env fun b env1 => if b = true then u Ex env1 Q else Q false env1
def dOr (t u : DTT) : DTT := fun Ex env Q => t Ex env fun b env1 => if b = true then Q true env1 else u Ex env1 Q
def dNot (t : DTT) : DTT := fun Ex env Q => t Ex env fun b env1 => Q (!b) env1
structure DWe (G : GG) (N : List Str) (sc : SC) (k : Nat) (e : Expr) (t : DTT) : Prop where
  ex : ∀ W : WX, ∃ te, (∀ X, Sit G N sc W k X → PW X e te) ∧ ImT G.K W te t
variable {rest : List Expr} {t u : DTT}
theorem imT_and {K : PySem.W.Frag} {W : WX} {te tf : TT} (h : ImT K W te t) (g : ImT K W tf u) : ImT K W (tAnd te tf) (dAnd t u) := fun e Ex hl env T F σ H Q R hh ht hR => by
  refine h e Ex hl env T F σ H _ _ hh ht fun b H1 F1 env1 hh1 q1 => ?_
  cases b with
  | true =>
    rw [if_pos rfl] at q1 ⊢
    exact g e Ex hl env1 T F1 σ H1 _ _ hh1 q1 hR
  | false =>
    rw [if_neg Bool.false_ne_true] at q1 ⊢
    exact hR false H1 F1 env1 hh1 q1
theorem imT_or {K : PySem.W.Frag} {W : WX} {te tf : TT} (h : ImT K W te t) (g : ImT K W tf u) : ImT K W (tOr te tf) (dOr t u) := fun e Ex hl env T F σ H Q R hh ht hR => by
  refine h e Ex hl env T F σ H _ _ hh ht fun b H1 F1 env1 hh1 q1 => ?_
  cases b with
  | true =>
    rw [if_pos rfl] at q1 ⊢
    exact hR true H1 F1 env1 hh1 q1
  | false =>
    rw [if_neg Bool.false_ne_true] at q1 ⊢
    exact g e Ex hl env1 T F1 σ H1 _ _ hh1 q1 hR
theorem dw_and1 (h : DTe G N sc k a t) : DWe G N sc k (.BoolOp .And [a] pos) t := ⟨fun W => by
  obtain ⟨te, p1, i1⟩ := h.ex W
  exact ⟨te, fun X S => pw_and1 (p1 X S), i1⟩⟩
theorem dw_or1 (h : DTe G N sc k a t) : DWe G N sc k (.BoolOp .Or [a] pos) t := ⟨fun W => by
  obtain ⟨te, p1, i1⟩ := h.ex W
  exact ⟨te, fun X S => pw_or1 (p1 X S), i1⟩⟩
theorem dw_and (h : DTe G N sc k a t) (g : DWe G N sc k (.BoolOp .And (b :: rest) pos) u) : DWe G N sc k (.BoolOp .And (a :: b :: rest) pos) (dAnd t u) := ⟨fun W => by
  obtain ⟨te, p1, i1⟩ := h.ex W
  obtain ⟨tf, p2, i2⟩ := g.ex W
  exact ⟨tAnd te tf, fun X S => pw_and (p1 X S) (p2 X S), imT_and i1 i2⟩⟩
theorem dw_or (h : DTe G N sc k a t) (g : DWe G N sc k (.BoolOp .Or (b :: rest) pos) u) : DWe G N sc k (.BoolOp .Or (a :: b :: rest) pos) (dOr t u) := ⟨fun W => by
  obtain ⟨te, p1, i1⟩ := h.ex W
  obtain ⟨tf, p2, i2⟩ := g.ex W
  exact ⟨tOr te tf, fun X S => pw_or (p1 X S) (p2 X S), imT_or i1 i2⟩⟩
theorem DWe.te {e : Expr} (h : DWe G N sc k e t) : DTe G N sc k e t := ⟨fun W => by
  obtain ⟨te, p1, i1⟩ := h.ex W
  exact ⟨te, fun X S => (p1 X S).pt, i1⟩⟩
theorem dt_not (h : DTe G N sc k a t) : DTe G N sc k (.UnaryOp .Not a pos) (dNot t) := ⟨fun W => by
  obtain ⟨te, p1, i1⟩ := h.ex W
  exact ⟨tNot te, fun X S => pt_not (p1 X S), fun e Ex hl env T F σ H Q R hh ht hR => i1 e Ex hl env T F σ H _ _ hh ht fun b H1 F1 env1 hh1 q1 => hR (!b) H1 F1 env1 hh1 q1⟩⟩
def dAndV (ta tb : DT) : DT := fun Ex env Q => ta Ex env fun x env1 => match x with
  | .ext (.bl true) => tb Ex env1 Q
  | .ext (.bl false) => Q (.ext (.bl false)) env1
  | _ => False
def dOrV (ta tb : DT) : DT := fun Ex env Q => ta Ex env fun x env1 => match x with
  | .ext (.bl false) => tb Ex env1 Q
  | .ext (.bl true) => Q (.ext (.bl true)) env1
  | _ => False
def dNotV (ta : DT) : DT := fun Ex env Q => ta Ex env fun x env1 => match x with
  | .ext (.bl b) => Q (.ext (.bl (!b))) env1
  | _ => False
theorem de_one {op} {t : DT} (h : DE G N sc k a t) : DE G N sc k (.BoolOp op [a] pos) t := ⟨fun W => by
  obtain ⟨te, p1, i1⟩ := h.ex W
  exact ⟨te, fun X S => pe_one (p1 X S), i1⟩⟩
theorem de_and (h : DE G N sc k a ta) (g : DE G N sc k (.BoolOp .And (b :: rest) pos) tb) : DE G N sc k (.BoolOp .And (a :: b :: rest) pos) (dAndV ta tb) := ⟨fun W => by
  obtain ⟨te, p1, i1⟩ := h.ex W
  obtain ⟨tf, p2, i2⟩ := g.ex W
  refine ⟨tAndV te tf, fun X S => pe_and (p1 X S) (p2 X S), fun e Ex hl env T F σ H Q R hh ht hR => ?_⟩
  refine i1 e Ex hl env T F σ H _ _ hh ht fun v H1 F1 env1 x hh1 q1 => ?_
  cases x with
  | ext d =>
    cases d with
    | bl bb =>
      refine ⟨bb, hh1.temps (v, .ext (.bl bb)) List.mem_cons_self, ?_⟩
      cases bb with
      | true =>
        rw [if_pos rfl]
        exact i2 e Ex hl env1 T F1 σ H1 _ _ hh1.pop q1 hR
      | false =>
        rw [if_neg Bool.false_ne_true]
        exact hR (.bl false) H1 F1 env1 (.ext (.bl false)) (hh1.pop.pushE rfl) q1
    | _ => exact q1.elim
  | _ => exact q1.elim⟩
theorem de_or (h : DE G N sc k a ta) (g : DE G N sc k (.BoolOp .Or (b :: rest) pos) tb) : DE G N sc k (.BoolOp .Or (a :: b :: rest) pos) (dOrV ta tb) := ⟨fun W => by
  obtain ⟨te, p1, i1⟩ := h.ex W
  obtain ⟨tf, p2, i2⟩ := g.ex W
  refine ⟨tOrV te tf, fun X S => pe_or (p1 X S) (p2 X S), fun e Ex hl env T F σ H Q R hh ht hR => ?_⟩
  refine i1 e Ex hl env T F σ H _ _ hh ht fun v H1 F1 env1 x hh1 q1 => ?_
  cases x with
  | ext d =>
    cases d with
    | bl bb =>
      refine ⟨bb, hh1.temps (v, .ext (.bl bb)) List.mem_cons_self, ?_⟩
      cases bb with
      | false =>
        rw [if_neg Bool.false_ne_true]
        exact i2 e Ex hl env1 T F1 σ H1 _ _ hh1.pop q1 hR
      | true =>
        rw [if_pos rfl]
        exact hR (.bl true) H1 F1 env1 (.ext (.bl true)) (hh1.pop.pushE rfl) q1
    | _ => exact q1.elim
  | _ => exact q1.elim⟩
def dIf (t : DTT) (ta tb : DT) : DT := fun Ex env Q => t Ex env fun b env1 => if b = true then ta Ex env1 Q else tb Ex env1 Q
theorem de_if {t : DTT} (hc : DTe G N sc k c t) (ha : DE G N sc k a ta) (hb : DE G N sc k b tb) : DE G N sc k (.IfExp c a b pos) (dIf t ta tb) := ⟨fun W => by
  obtain ⟨tc, p0, i0⟩ := hc.ex W
  obtain ⟨te, p1, i1⟩ := ha.ex W
  obtain ⟨tf, p2, i2⟩ := hb.ex W
  refine ⟨tIf tc te tf, fun X S => pe_ifExp (p0 X S) (p1 X S) (p2 X S), fun e Ex hl env T F σ H Q R hh ht hR => ?_⟩
  refine i0 e Ex hl env T F σ H _ _ hh ht fun bb H1 F1 env1 hh1 q1 => ?_
  cases bb with
  | true =>
    rw [if_pos rfl] at q1 ⊢
    exact i1 e Ex hl env1 T F1 σ H1 _ _ hh1 q1 hR
  | false =>
    rw [if_neg Bool.false_ne_true] at q1 ⊢
    exact i2 e Ex hl env1 T F1 σ H1 _ _ hh1 q1 hR⟩
def froz (env : Env') : Sl → (D → Prop) → Prop
  | .ext d, q => q d
  | .lst _ ds, q => q (.lst ds)
  | _, _ => False
def frozs (env : Env') : List Sl → (List D → Prop) → Prop
  | [], q => q []
  | s :: ss, q => froz env s fun d => frozs env ss fun ds => q (d :: ds)
theorem Holds.froz1 {K : PySem.W.Frag} {e : Ent} {env : Env'} {T : Tmp} {F : Hp} {σ : St} {H : Hp} {v : V} {sl : Sl} {q : D → Prop} (h : Holds K e env ((v, sl) :: T) F σ H) (w : froz env sl q) : ∃ d F1, Same F F1 ∧ Holds K e env T F1 σ H ∧ Rep K F1 d v ∧ q d := by
  cases sl with
  | un => exact w.elim
  | reg _ _ => exact w.elim
  | ar _ _ => exact w.elim
  | al i a => exact w.elim
  | ext d => exact ⟨d, F, Same.refl _, h.pop, h.temps (v, .ext d) List.mem_cons_self, w⟩
  | lst a ds =>
    obtain ⟨F1, sm, h1⟩ := h.freezeT
    exact ⟨.lst ds, F1, sm, h1.pop, h1.temps (v, .ext (.lst ds)) List.mem_cons_self, w⟩
theorem Holds.frozs {K : PySem.W.Frag} {e : Ent} {env : Env'} {T : Tmp} {σ : St} {H : Hp} : ∀ {vs : List V} {xs : List Sl} {q : List D → Prop} {F : Hp}, vs.length = xs.length → Holds K e env (vs.zip xs ++ T) F σ H → HD.frozs env xs q → ∃ ds F1, Same F F1 ∧ Holds K e env T F1 σ H ∧ Reps K F1 ds vs ∧ q ds
  | [], [], q, F, _, h, w => ⟨[], F, Same.refl _, h, rfl, w⟩
  | [], _ :: _, _, _, e, _, _ => by cases e
  | _ :: _, [], _, _, e, _, _ => by cases e
  | v :: vs, x :: xs, q, F, le, h, w => by
    obtain ⟨d, F1, sm, h1, r1, w1⟩ := h.froz1 w
    obtain ⟨ds, F2, sm2, h2, r2, w2⟩ := Holds.frozs (vs := vs) (xs := xs) (by simpa using le) h1 w1
    exact ⟨d :: ds, F2, sm.trans sm2, h2, ⟨v, vs, rfl, Rep.same sm2 r1, r2⟩, w2⟩
def frzD (env : Env') : Sl → (D → Env' → Prop) → Prop
  | .ext d, q => q d env
  | .lst _ ds, q => q (.lst ds) env
  | .al i a, q => match env[i]? with
    | some (.lst b ds) => b = a ∧ q (.lst ds) (env.set i (.ext (.lst ds)))
    | some (.ext (.lst ds)) => False
    | _ => False
  | .un, _ => False
  | .reg _ _, _ => False
  | .ar _ _, _ => False
def frzDs (env : Env') : List Sl → (List D → Env' → Prop) → Prop
  | [], q => q [] env
  | s :: ss, q => frzD env s fun d env1 => frzDs env1 ss fun ds env2 => q (d :: ds) env2
theorem Holds.frz1 {K : PySem.W.Frag} {e : Ent} {env : Env'} {T : Tmp} {F : Hp} {σ : St} {H : Hp} {v : V} {sl : Sl} {q : D → Env' → Prop} (h : Holds K e env ((v, sl) :: T) F σ H) (w : frzD env sl q) : ∃ d F1 env', Same F F1 ∧ Holds K e env' T F1 σ H ∧ Rep K F1 d v ∧ q d env' := by
  cases sl with
  | un => exact w.elim
  | reg _ _ => exact w.elim
  | ar _ _ => exact w.elim
  | ext d => exact ⟨d, F, env, Same.refl _, h.pop, h.temps (v, .ext d) List.mem_cons_self, w⟩
  | lst a ds =>
    obtain ⟨F1, sm, h1⟩ := h.freezeT
    exact ⟨.lst ds, F1, env, sm, h1.pop, h1.temps (v, .ext (.lst ds)) List.mem_cons_self, w⟩
  | al i a =>
    have ev : v = .ref a := h.temps (v, .al i a) List.mem_cons_self
    have w' : (match env[i]? with | some (.lst b ds) => b = a ∧ q (.lst ds) (env.set i (.ext (.lst ds))) | some (.ext (.lst ds)) => False | _ => False) := w
    split at w'
    · rename_i b ds hb
      obtain ⟨rfl, w'⟩ := w'
      obtain ⟨F1, sm, h1⟩ := h.pop.freeze hb
      refine ⟨.lst ds, F1, _, sm, h1, ?_, w'⟩
      have hi : i < env.length := (List.getElem?_eq_some_iff.mp hb).1
      rcases h.slots i _ hb with z | ⟨u, hu, e1, _⟩
      · cases z
      · rcases h1.slots i (.ext (.lst ds)) (by rw [List.getElem?_set, if_pos rfl, if_pos hi]) with z | ⟨u', hu', ok⟩
        · cases z
        · rw [hu] at hu'
          cases hu'
          rw [ev, ← e1]
          exact ok
    · exact w'.elim
    · exact w'.elim
theorem Holds.frzs {K : PySem.W.Frag} {e : Ent} {T : Tmp} {σ : St} {H : Hp} : ∀ {vs : List V} {xs : List Sl} {q : List D → Env' → Prop} {F : Hp} {env : Env'}, vs.length = xs.length → Holds K e env (vs.zip xs ++ T) F σ H → HD.frzDs env xs q → ∃ ds F1 env', Same F F1 ∧ Holds K e env' T F1 σ H ∧ Reps K F1 ds vs ∧ q ds env'
  | [], [], q, F, env, _, h, w => ⟨[], F, env, Same.refl _, h, rfl, w⟩
  | [], _ :: _, _, _, _, e, _, _ => by cases e
  | _ :: _, [], _, _, _, e, _, _ => by cases e
  | v :: vs, x :: xs, q, F, env, le, h, w => by
    obtain ⟨d, F1, env1, sm, h1, r1, w1⟩ := h.frz1 w
    obtain ⟨ds, F2, env2, sm2, h2, r2, w2⟩ := Holds.frzs (vs := vs) (xs := xs) (by simpa using le) h1 w1
    exact ⟨d :: ds, F2, env2, sm.trans sm2, h2, ⟨v, vs, rfl, Rep.same sm2 r1, r2⟩, w2⟩
def dTup (t : DTA) : DT := fun Ex env Q => t Ex env fun xs env1 => xs.length ≤ sizeLine ∧ frzDs env1 xs fun ds env2 => Q (.ext (.tup ds)) env2
def dLst (t : DTA) : DT := fun Ex env Q => t Ex env fun xs env1 => xs.length ≤ sizeLine ∧ frzDs env1 xs fun ds env2 => ∀ a, Q (.lst a ds) env2
variable {es : List Expr} {tA : DTA}
theorem de_tup {x1} (h : DAs G N sc k es tA) : DE G N sc k (.Tuple es x1 pos) (dTup tA) := ⟨fun W => by
  obtain ⟨te, p1, i1⟩ := h.ex W
  refine ⟨tTupF te, fun X S => pe_tupF (p1 X S), fun e Ex hl env T F σ H Q R hh ht hR => ?_⟩
  refine i1 e Ex hl env T F σ H _ _ hh ht fun vs H1 F1 env1 xs le hh1 q1 => ⟨by rw [le]; exact q1.1, ?_⟩
  obtain ⟨ds, F2, env2, sm, hh2, r2, q2⟩ := hh1.frzs le q1.2
  exact (hh2.done hR).tup hh2.fh r2 q2⟩
theorem de_lst (h : DAs G N sc k es tA) : DE G N sc k (.List es pos) (dLst tA) := ⟨fun W => by
  obtain ⟨te, p1, i1⟩ := h.ex W
  refine ⟨tLst te, fun X S => pe_lst (p1 X S), fun e Ex hl env T F σ H Q R hh ht hR => ?_⟩
  refine i1 e Ex hl env T F σ H _ _ hh ht fun vs H1 F1 env1 xs le hh1 q1 => ⟨by rw [le]; exact q1.1, fun p n => ?_⟩
  obtain ⟨ds, F2, env2, sm, hh2, r2, q2⟩ := hh1.frzs le q1.2
  exact (hh2.done hR).lst hh2.fh n r2 (q2 p)⟩
def fIx : D → D → (Sl → Prop) → Prop
  | .lst ds, .int i, Q => ∃ d, atI ds i = some d ∧ Q (.ext d)
  | .tup ds, .int i, Q => ∃ d, atI ds i = some d ∧ Q (.ext d)
  | .tk ds, .int i, Q => ∃ d, atI ds i = some d ∧ Q (.ext d)
  | .fz ds, .int i, Q => ∃ d, atI ds i = some d ∧ Q (.ext d)
  | .str z, .int i, Q => z.length ≤ sizeLine ∧ ∃ c, atI z.cps.toList i = some c ∧ Q (.ext (.str ⟨#[c]⟩))
  | _, _, _ => False
theorem Reps.atI {K : PySem.W.Frag} {F : Hp} {ds : List D} {vs : List V} {i : Int} {d : D} (h : Reps K F ds vs) (e : L2.atI ds i = some d) : ∃ v, L2.atI vs i = some v ∧ Rep K F d v := by
  unfold L2.atI at e ⊢
  rw [← h.length]
  cases q : ixN ds.length i with
  | none =>
    rw [q] at e
    cases e
  | some j =>
    rw [q] at e
    exact h.get e
theorem pr_ix {K : PySem.W.Frag} : Pr2 K (rIx K) fIx := fun F H v u d d' Q R fh h1 h2 hf ha => by
  unfold fIx at hf
  split at hf
  · obtain ⟨a, vs, rfl, e1, r1⟩ := h1.lst fh
    obtain ⟨d, e, q⟩ := hf
    obtain ⟨w, e', r⟩ := r1.atI e
    exact .inl ⟨a, vs, _, w, rfl, h2.int, SqL.of e1, e', ha.ext fh r q⟩
  · obtain ⟨a, vs, rfl, e1, _, r1⟩ := h1.tup fh
    obtain ⟨d, e, q⟩ := hf
    obtain ⟨w, e', r⟩ := r1.atI e
    exact .inr (.inl ⟨a, vs, _, w, rfl, h2.int, e1, e', ha.ext fh r q⟩)
  · obtain ⟨a, vs, rfl, e1, _, r1⟩ := h1.tk fh
    obtain ⟨d, e, q⟩ := hf
    obtain ⟨w, e', r⟩ := r1.atI e
    exact .inr (.inl ⟨a, vs, _, w, rfl, h2.int, e1, e', ha.ext fh r q⟩)
  · obtain ⟨a, vs, rfl, e1, r1⟩ := h1.fz fh
    obtain ⟨d, e, q⟩ := hf
    obtain ⟨w, e', r⟩ := r1.atI e
    exact .inl ⟨a, vs, _, w, rfl, h2.int, e1, e', ha.ext fh r q⟩
  · obtain ⟨hz, c, e, q⟩ := hf
    exact .inr (.inr ⟨_, _, c, h1.str, h2.int, hz, e, ha.str fh q⟩)
  · exact hf.elim
theorem de_ix (ha : DE G N sc k a ta) (hb : DE G N sc k b tb) (hs : PlainIx b := by intro _ _; rfl) : DE G N sc k (.Subscript a b pos) (dOp fIx ta tb) := ⟨fun W => by
  obtain ⟨te, p1, i1⟩ := ha.ex W
  obtain ⟨tf, p2, i2⟩ := hb.ex W
  exact ⟨tOp (rIx G.K) te tf, fun X S => pe_ix (by rw [← S.K]; exact ix_seq) (p1 X S) (p2 X S) hs, im_op pr_ix i1 i2⟩⟩
abbrev DTO := DX → Env' → (Option Int → Env' → Prop) → Prop
def ImO (K : PySem.W.Frag) (W : WX) (to : TO) (t : DTO) : Prop :=
  ∀ (e : Ent) (Ex : DX), Link K e W Ex → ∀ (env : Env') (T : Tmp) (F : Hp) (σ : St) (H : Hp) (Q : Option Int → Env' → Prop) (R : Option Int → Hp → Prop),
    Holds K e env T F σ H → t Ex env Q → (∀ o H' F' env', Holds K e env' T F' σ H' → Q o env' → R o H') → to σ H R
structure DO' (G : GG) (N : List Str) (sc : SC) (k : Nat) (e : Option Expr) (t : DTO) : Prop where
  ex : ∀ W : WX, ∃ te, (∀ X, Sit G N sc W k X → PO X e te) ∧ ImO G.K W te t
def dNoPart : DTO := fun _ env Q => Q none env
def dPart (t : DT) : DTO := fun Ex env Q => t Ex env fun x env1 => match x with
  | .ext (.int i) => Q (some i) env1
  | _ => False
theorem do_none : DO' G N sc k none dNoPart := ⟨fun W => ⟨tNoPart, fun X S => po_none, fun e Ex hl env T F σ H Q R hh ht hR => hR none H F env hh ht⟩⟩
theorem do_some (h : DE G N sc k a ta) : DO' G N sc k (some a) (dPart ta) := ⟨fun W => by
  obtain ⟨te, p1, i1⟩ := h.ex W
  refine ⟨tPart te, fun X S => po_some (p1 X S), fun e Ex hl env T F σ H Q R hh ht hR => ?_⟩
  refine i1 e Ex hl env T F σ H _ _ hh ht fun v H1 F1 env1 x hh1 q1 => ?_
  cases x with
  | ext d =>
    cases d with
    | int i => exact ⟨i, hh1.temps (v, .ext (.int i)) List.mem_cons_self, hR (some i) H1 F1 env1 hh1.pop q1⟩
    | _ => exact q1.elim
  | _ => exact q1.elim⟩
def cutD (xs : List D) (lo hi : Option Int) : List D := (xs.drop (HT.sIx xs.length 0 lo)).take (HT.sIx xs.length xs.length hi - HT.sIx xs.length 0 lo)
theorem Reps.cut {K : PySem.W.Frag} {F : Hp} {ds : List D} {vs : List V} (h : Reps K F ds vs) (lo hi : Option Int) : Reps K F (cutD ds lo hi) (cutV vs lo hi) := by
  unfold cutD cutV
  rw [h.length]
  exact (h.drop _).take _
def fSl (d : D) (lo hi : Option Int) (Q : Sl → Prop) : Prop := match d with
  | .lst ds => ∀ a, Q (.lst a (cutD ds lo hi))
  | .fz ds => ∀ a, Q (.lst a (cutD ds lo hi))
  | .tup ds => Q (.ext (.tup (cutD ds lo hi)))
  | _ => False
def dSl (ta : DT) (tl th : DTO) : DT := fun Ex env Q => ta Ex env fun x env1 => tl Ex env1 fun lo env2 => th Ex env2 fun hi env3 => wd env3 x fun d => fSl d lo hi fun sl => Q sl env3
theorem cut_whole {α : Type} {xs : List α} {lo hi : Option Int} (h : HT.sIx xs.length 0 lo = 0 ∧ HT.sIx xs.length xs.length hi = xs.length) : (xs.drop (HT.sIx xs.length 0 lo)).take (HT.sIx xs.length xs.length hi - HT.sIx xs.length 0 lo) = xs := by
  rw [h.1, h.2, List.drop_zero, Nat.sub_zero, List.take_length]
theorem de_slice {lo hi : Option Expr} {tl th : DTO} {p2 : Pos} (h : DE G N sc k a ta) (hl : DO' G N sc k lo tl) (hh : DO' G N sc k hi th) : DE G N sc k (.Subscript a (.Slice lo hi none p2) pos) (dSl ta tl th) := ⟨fun W => by
  obtain ⟨te, p1, i1⟩ := h.ex W
  obtain ⟨tl', p2', i2⟩ := hl.ex W
  obtain ⟨th', p3, i3⟩ := hh.ex W
  refine ⟨tSl (fun x lo hi H Q => rSlL G.K x lo hi H Q ∨ rSlF G.K x lo hi H Q) te tl' th', fun X S => pe_slice (by rw [← S.K]; exact sl_list.or sl_tupF) (p1 X S) (p2' X S) (p3 X S), fun e Ex hl env T F σ H Q R hh ht hR => ?_⟩
  refine i1 e Ex hl env T F σ H _ _ hh ht fun v H1 F1 env1 x hh1 q1 => ?_
  refine i2 e Ex hl env1 _ F1 σ H1 _ _ hh1 q1 fun lo' H2 F2 env2 hh2 q2 => ?_
  refine i3 e Ex hl env2 _ F2 σ H2 _ _ hh2 q2 fun hi' H3 F3 env3 hh3 q3 => ?_
  obtain ⟨d, rd, q4⟩ := hh3.wd (v := v) (sl := x) List.mem_cons_self q3
  have dn := hh3.pop.done hR
  cases d with
  | lst ds =>
    obtain ⟨b, vs, rfl, e1, r1⟩ := rd.lst hh3.fh
    exact .inl ⟨b, vs, rfl, SqL.of e1, fun p n => dn.lst hh3.fh n (r1.cut lo' hi') (q4 p)⟩
  | fz ds =>
    obtain ⟨b, vs, rfl, e1, r1⟩ := rd.fz hh3.fh
    exact .inl ⟨b, vs, rfl, e1, fun p n => dn.lst hh3.fh n (r1.cut lo' hi') (q4 p)⟩
  | tup ds =>
    obtain ⟨b, vs, rfl, e1, e2, r1⟩ := rd.tup hh3.fh
    refine .inr ⟨b, vs, rfl, e1, fun z => ?_, fun _ => dn.tup hh3.fh (r1.cut lo' hi') q4⟩
    refine dn.ext (d := .tup (cutD ds lo' hi')) hh3.fh ⟨b, vs, rfl, e2, ?_⟩ q4
    have q := r1.cut lo' hi'
    unfold cutV at q
    rw [cut_whole z] at q
    exact q
  | _ => exact q4.elim⟩
end
end HD
namespace HD
open PySem L2
abbrev DSpec := List Sl → (Sl → List Sl → Prop) → (Str → List Sl → Prop) → Prop
abbrev entOf (F H : Hp) (args : Env') : Ent := ⟨F, H, ownedE args⟩
def toSp (K : PySem.W.Frag) (n : Nat) (spec : DSpec) : Sp := fun vs H Q E => ∃ (F : Hp) (args : Env') (Qd : Sl → List Sl → Prop) (Xd : Str → List Sl → Prop),
  vs.length = n ∧ Holds K (entOf F H args) args [] F (vs.map some) H ∧ spec args Qd Xd ∧
  (∀ v H' F' r fin, Holds K (entOf F H args) fin [(v, r)] F' (vs.map some) H' → Qd r fin → Q v H') ∧
  (∀ c d H' F' fin, Holds K (entOf F H args) fin [] F' (vs.map some) H' → XD F' c d → Xd c fin → E (clsV K (xk c)) d H')
def rootOf : D → Option Addr
  | .val (.ref a) => some a
  | _ => none
theorem rootOf_some {d : D} {a : Addr} (h : rootOf d = some a) : d = .val (.ref a) := by
  unfold rootOf at h
  split at h
  · cases h; rfl
  · cases h
theorem rootOf_eq {d d' : D} (h : (rootOf d).isSome = true ∧ rootOf d = rootOf d') : d = d' := by
  obtain ⟨h1, h2⟩ := h
  cases e : rootOf d with
  | none => rw [e] at h1; cases h1
  | some a =>
    have e2 : rootOf d' = some a := by rw [← h2]; exact e
    rw [rootOf_some e, rootOf_some e2]
def fin1 : Sl → Option Sl → Sl
  | .ext d, _ => .ext d
  | .lst a _, some (.lst b ds) => if a = b then .lst a ds else .un
  | .reg d _, some (.reg d' cs) => if (rootOf d).isSome = true ∧ rootOf d = rootOf d' then .reg d cs else .un
  | _, _ => .un
def finals (args env : Env') : Env' := (List.range args.length).map fun i => fin1 (args.getD i .un) env[i]?
theorem finals_get {args env : Env'} {i : Nat} {sl : Sl} (h : (finals args env)[i]? = some sl) : ∃ s, args[i]? = some s ∧ sl = fin1 s env[i]? := by
  unfold finals at h
  rw [List.getElem?_map] at h
  by_cases hi : i < args.length
  · rw [List.getElem?_range hi] at h
    have e := Option.some.inj h
    refine ⟨args[i], List.getElem?_eq_getElem hi, ?_⟩
    rw [← e]
    show fin1 (args.getD i .un) _ = _
    rw [List.getD_eq_getElem?_getD, List.getElem?_eq_getElem hi]
    rfl
  · rw [List.getElem?_eq_none (by rw [List.length_range]; omega)] at h
    cases h
theorem fin1_owned (s : Sl) (o : Option Sl) : (fin1 s o).owned.Sublist ((o.getD .un).owned) := by
  cases s with
  | un => exact List.nil_sublist _
  | ext d => exact List.nil_sublist _
  | al i a => exact List.nil_sublist _
  | ar i a => exact List.nil_sublist _
  | reg d cs =>
    cases o with
    | none => exact List.nil_sublist _
    | some s' =>
      cases s' with
      | reg d' cs' =>
        show (if (rootOf d).isSome = true ∧ rootOf d = rootOf d' then Sl.reg d cs' else .un).owned.Sublist (cs'.map (·.1))
        split
        · exact List.Sublist.refl _
        · exact List.nil_sublist _
      | _ => exact List.nil_sublist _
  | lst a ds =>
    cases o with
    | none => exact List.nil_sublist _
    | some s' =>
      cases s' with
      | lst b es =>
        show (if a = b then Sl.lst a es else .un).owned.Sublist [b]
        split
        · rename_i e
          subst e
          exact List.Sublist.refl _
        · exact List.nil_sublist _
      | _ => exact List.nil_sublist _
theorem finals_owned (args env : Env') : (ownedE (finals args env)).Sublist (ownedE env) := by
  have key : ∀ (n : Nat), (ownedE ((List.range n).map fun i => fin1 (args.getD i .un) env[i]?)).Sublist (ownedE (env.take n)) := by
    intro n
    induction n with
    | zero => exact List.nil_sublist _
    | succ n ih =>
      rw [List.range_succ, List.map_append]
      unfold ownedE at ih ⊢
      rw [List.flatMap_append, List.take_add_one, List.flatMap_append]
      refine ih.append ?_
      rw [List.map_cons, List.map_nil, List.flatMap_cons, List.flatMap_nil, List.append_nil]
      refine (fin1_owned _ _).trans ?_
      cases env[n]? with
      | none => exact List.Sublist.refl _
      | some s =>
        show s.owned.Sublist ([s].flatMap Sl.owned)
        rw [List.flatMap_cons, List.flatMap_nil, List.append_nil]
        exact List.Sublist.refl _
  refine (key args.length).trans ?_
  unfold ownedE
  have z := congrArg (List.flatMap Sl.owned) (List.take_append_drop args.length env)
  rw [List.flatMap_append] at z
  rw [← z]
  exact List.sublist_append_left _ _
theorem Holds.finals {K : PySem.W.Frag} {F H F' H' : Hp} {args env : Env'} {T : Tmp} {σ' : St} {vs : List V} (h0 : Holds K (entOf F H args) args [] F (vs.map some) H) (h : Holds K (entOf F H args) env T F' σ' H') : Holds K (entOf F H args) (HD.finals args env) T F' (vs.map some) H' := by
  have sub : (ownedE (HD.finals args env) ++ ownedT T).Sublist (ownedE env ++ ownedT T) := (finals_owned args env).append (List.Sublist.refl _)
  refine ⟨h.fh, ?_, fun i sl q => ?_, h.temps, h.nd.sublist sub, h.s1, h.s2, fun a ha => h.s3 a (sub.subset ha)⟩
  · rw [← h0.len]
    unfold HD.finals
    rw [List.length_map, List.length_range]
  · obtain ⟨s, hs, rfl⟩ := finals_get q
    rcases h0.slots i s hs with z | ⟨v, hv, ok⟩
    · subst z
      exact .inl rfl
    · cases s with
      | un => exact .inl rfl
      | al j a => exact .inl rfl
      | ar j a => exact .inl rfl
      | reg d cs =>
        cases e : env[i]? with
        | none => exact .inl rfl
        | some s' =>
          cases s' with
          | reg d' cs' =>
            show (if (rootOf d).isSome = true ∧ rootOf d = rootOf d' then Sl.reg d cs' else .un) = .un ∨ ∃ v, _ ∧ SlOk K F' H' v (if (rootOf d).isSome = true ∧ rootOf d = rootOf d' then Sl.reg d cs' else .un)
            split
            · rename_i dd
              have ed := rootOf_eq dd
              subst ed
              rcases h.slots i _ e with z | ⟨w, _, ok'⟩
              · cases z
              · exact .inr ⟨v, hv, Rep.same h.s1 ok.1, ok'.2⟩
            · exact .inl rfl
          | _ => exact .inl rfl
      | ext d => exact .inr ⟨v, hv, Rep.same h.s1 ok⟩
      | lst a ds =>
        obtain ⟨rfl, _⟩ := ok
        cases e : env[i]? with
        | none => exact .inl rfl
        | some s' =>
          cases s' with
          | lst b es =>
            show (if a = b then Sl.lst a es else .un) = .un ∨ ∃ v, _ ∧ SlOk K F' H' v (if a = b then Sl.lst a es else .un)
            split
            · rename_i ab
              subst ab
              rcases h.slots i _ e with z | ⟨w, _, ok'⟩
              · cases z
              · obtain ⟨rfl, r⟩ := ok'
                exact .inr ⟨_, hv, rfl, r⟩
            · exact .inl rfl
          | _ => exact .inl rfl
mutual
def D.imm : D → Bool
  | .lst _ => false
  | .exc _ => false
  | .fz _ => false
  | .dk _ _ => false
  | .dt _ _ => false
  | .tup ds => D.imms ds
  | .tk ds => D.imms ds
  | _ => true
def D.imms : List D → Bool
  | [] => true
  | d :: ds => D.imm d && D.imms ds
end
mutual
theorem Rep.ofT {K : PySem.W.Frag} {F F' : Hp} (t : ∀ a xs, SqT K F a xs → SqT K F' a xs) (t2 : ∀ a xs, TupD K F a xs → TupD K F' a xs) : ∀ {d : D} {v : V}, d.imm = true → Rep K F d v → Rep K F' d v
  | .non, _, _, h => h
  | .bl _, _, _, h => h
  | .int _, _, _, h => h
  | .str _, _, _, h => h
  | .val _, _, _, h => h
  | .lst _, _, n, _ => nomatch n
  | .fz _, _, n, _ => nomatch n
  | .exc _, _, n, _ => nomatch n
  | .dk _ _, _, n, _ => nomatch n
  | .dt _ _, _, n, _ => nomatch n
  | .glo _, _, _, h => h
  | .tup _, _, n, h => by
    obtain ⟨a, xs, rfl, hs, hr⟩ := h
    exact ⟨a, xs, rfl, t2 _ _ hs, Reps.ofT t t2 n hr⟩
  | .tk _, _, n, h => by
    obtain ⟨a, xs, rfl, hs, hr⟩ := h
    exact ⟨a, xs, rfl, t _ _ hs, Reps.ofT t t2 n hr⟩
theorem Reps.ofT {K : PySem.W.Frag} {F F' : Hp} (t : ∀ a xs, SqT K F a xs → SqT K F' a xs) (t2 : ∀ a xs, TupD K F a xs → TupD K F' a xs) : ∀ {ds : List D} {vs : List V}, D.imms ds = true → Reps K F ds vs → Reps K F' ds vs
  | [], _, _, h => h
  | d :: ds, _, n, h => by
    obtain ⟨v, r, rfl, h1, h2⟩ := h
    have n' : (D.imm d && D.imms ds) = true := n
    rw [Bool.and_eq_true] at n'
    exact ⟨v, r, rfl, Rep.ofT t t2 n'.1 h1, Reps.ofT t t2 n'.2 h2⟩
end
def Sl.imm : Sl → Bool
  | .ext d => d.imm
  | .lst _ ds => D.imms ds
  | _ => false
section
variable {K : PySem.W.Frag} {e : Ent} {env : Env'} {T : Tmp} {F : Hp} {σ : St} {H : Hp}
structure Left (A : List Addr) (F H F' H' : Hp) : Prop where
  ff : Same F F'
  fh : Same F' H'
  out : ∀ b o, H b = some o → b ∉ A → H' b = some o ∧ (F b = none → F' b = none)
theorem SlOk.left {A : List Addr} {F' H' : Hp} {v : V} {sl : Sl} (l : Left A F H F' H') (n : ∀ a ∈ sl.owned, a ∉ A) (h : SlOk K F H v sl) : SlOk K F' H' v sl := by
  cases sl with
  | un => trivial
  | ext d => exact Rep.same l.ff h
  | al i b => exact h
  | lst b ds =>
    obtain ⟨rfl, q, us, hv, hr⟩ := h
    obtain ⟨q1, q2⟩ := l.out b _ hv (n b (List.mem_singleton.mpr rfl))
    exact ⟨rfl, q2 q, us, q1, hr.same l.ff⟩
  | ar i b => exact h
  | reg b cs =>
    obtain ⟨rd, nd, hc⟩ := h
    refine ⟨Rep.same l.ff rd, nd, fun p hp => ?_⟩
    obtain ⟨q, o', ho, ok⟩ := hc p hp
    obtain ⟨q1, q2⟩ := l.out p.1 _ ho (n p.1 (List.mem_map.mpr ⟨p, hp, rfl⟩))
    exact ⟨q2 q, o', q1, ok.same l.ff⟩
theorem Holds.left0 {F' H' : Hp} {v : V} {r : Sl} (h : Holds K e env T F σ H) (l : Left [] F H F' H') (ok : SlOk K F' H' v r) (own : ∀ a ∈ r.owned, H a = none) : Holds K e env ((v, r) :: T) F' σ H' := by
  have h1 : Holds K e env T F' σ H' := by
    refine ⟨l.fh, h.len, fun i sl q => ?_, fun p hp => (h.temps p hp).left l (fun _ _ z => nomatch z), h.nd, h.s1.trans l.ff, fun a o q n => ?_, h.s3⟩
    · rcases h.slots i sl q with z | ⟨w, hw, ok⟩
      · exact .inl z
      · exact .inr ⟨w, hw, ok.left l fun _ _ z => nomatch z⟩
    · obtain ⟨q1, q2⟩ := h.s2 a o q n
      obtain ⟨r1, r2⟩ := l.out a o q1 (fun z => nomatch z)
      exact ⟨r1, fun z => r2 (q2 z)⟩
  have old := h.ownedH
  have ndo : r.owned.Nodup := ok.ndo
  have dis : ∀ a ∈ r.owned, a ∉ ownedE env ++ ownedT T := fun a ha hb => by
    obtain ⟨_, vs, q⟩ := old a hb
    rw [own a ha] at q
    cases q
  refine ⟨h1.fh, h1.len, h1.slots, fun p hp => ?_, ?_, h1.s1, h1.s2, fun a ha => ?_⟩
  · rcases List.mem_cons.mp hp with rfl | hp
    · exact ok
    · exact h1.temps p hp
  · show (ownedE env ++ (r.owned ++ ownedT T)).Nodup
    have z := h.nd
    rw [List.nodup_append] at z ⊢
    obtain ⟨z1, z2, z3⟩ := z
    refine ⟨z1, ?_, fun a ha b hb => ?_⟩
    · rw [List.nodup_append]
      exact ⟨ndo, z2, fun a ha b hb e => dis a ha (by rw [e]; exact List.mem_append_right _ hb)⟩
    · rcases List.mem_append.mp hb with hb | hb
      · exact fun e => dis b hb (by rw [← e]; exact List.mem_append_left _ ha)
      · exact z3 a ha b hb
  · have ha' : a ∈ ownedE env ++ (r.owned ++ ownedT T) := ha
    rcases List.mem_append.mp ha' with hb | hb
    · exact h.s3 a (List.mem_append_left _ hb)
    · rcases List.mem_append.mp hb with hb | hb
      · have hn := own a hb
        cases q : e.H0 a with
        | none => exact .inr rfl
        | some o =>
          by_cases hA : a ∈ e.A0
          · exact .inl hA
          · rw [(h.s2 a o q hA).1] at hn
            cases hn
      · exact h.s3 a (List.mem_append_right _ hb)
theorem Holds.left1 {F' H' : Hp} {v : V} {r s' : Sl} {i : Nat} {a : Addr} {ds : List D} (h : Holds K e env T F σ H) (hi : env[i]? = some (.lst a ds)) (l : Left [a] F H F' H') (ok : SlOk K F' H' v r) (ok' : SlOk K F' H' (.ref a) s')
    (own : ∀ b ∈ s'.owned ++ r.owned, b = a ∨ H b = none) (nd : (s'.owned ++ r.owned).Nodup) (hp : s'.plain) : Holds K e (env.set i s') ((v, r) :: T) F' σ H' := by
  obtain ⟨hv0, hF0⟩ : (∃ w, σ[i]? = some (some w) ∧ w = .ref a) ∧ F a = none := by
    rcases h.slots i _ hi with z | ⟨w, hw, e1, e2, _⟩
    · cases z
    · exact ⟨⟨w, hw, e1⟩, e2⟩
  obtain ⟨w, hw, rfl⟩ := hv0
  -- the slot's object as a temp, then dropped: the others
  have h0 := (h.take hi hw).pop
  have hx := h.take hi hw
  have na : ∀ b ∈ ownedE (env.set i .un) ++ ownedT T, b ≠ a := fun b hb z => by
    subst z
    have nd := hx.nd
    have perm : (ownedE (env.set i .un) ++ (([b] : List Addr) ++ ownedT T)).Perm ([b] ++ (ownedE (env.set i .un) ++ ownedT T)) := by
      rw [← List.append_assoc, ← List.append_assoc]
      exact List.Perm.append_right _ List.perm_append_comm
    have nd' : ([b] ++ (ownedE (env.set i .un) ++ ownedT T)).Nodup := perm.nodup nd
    exact (List.nodup_append.mp nd').2.2 b (List.mem_singleton.mpr rfl) b hb rfl
  have h1 : Holds K e (env.set i .un) T F' σ H' := by
    refine ⟨l.fh, h0.len, fun j sl q => ?_, fun p hp => (h0.temps p hp).left l (fun b hb z => ?_), h0.nd, h0.s1.trans l.ff, fun b o q n => ?_, h0.s3⟩
    · rcases h0.slots j sl q with z | ⟨w, hw, ok⟩
      · exact .inl z
      · refine .inr ⟨w, hw, ok.left l fun b hb z => ?_⟩
        exact na b (List.mem_append_left _ (mem_ownedE q hb)) (List.mem_singleton.mp z)
    · exact na b (List.mem_append_right _ (List.mem_flatMap.mpr ⟨p, hp, hb⟩)) (List.mem_singleton.mp z)
    · obtain ⟨q1, q2⟩ := h0.s2 b o q n
      have nb : b ∉ [a] := fun z => by
        rw [List.mem_singleton.mp z] at q n
        have mm : a ∈ ownedE env ++ ownedT T := List.mem_append_left _ (mem_ownedE hi (List.mem_singleton.mpr rfl))
        rcases h.s3 a mm with y | y
        · exact n y
        · rw [q] at y
          cases y
      obtain ⟨r1, r2⟩ := l.out b o q1 nb
      exact ⟨r1, fun z => r2 (q2 z)⟩
  have old := h0.ownedH
  have dis : ∀ b ∈ s'.owned ++ r.owned, b ∉ ownedE (env.set i .un) ++ ownedT T := fun b hb hc => by
    rcases own b hb with z | z
    · exact na b hc z
    · obtain ⟨_, vs, q⟩ := old b hc
      rw [z] at q
      cases q
  have fin3 : ∀ b ∈ s'.owned ++ r.owned, b ∈ e.A0 ∨ e.H0 b = none := fun b hb => by
    rcases own b hb with z | z
    · subst z
      exact h.s3 b (List.mem_append_left _ (mem_ownedE hi (List.mem_singleton.mpr rfl)))
    · cases q : e.H0 b with
      | none => exact .inr rfl
      | some o =>
        by_cases hA : b ∈ e.A0
        · exact .inl hA
        · rw [(h.s2 b o q hA).1] at z
          cases z
  -- both come in as temps, then the slot is set
  have h2 : Holds K e (env.set i .un) ((.ref a, s') :: (v, r) :: T) F' σ H' := by
    refine ⟨h1.fh, h1.len, h1.slots, fun p hp => ?_, ?_, h1.s1, h1.s2, fun b hb => ?_⟩
    · rcases List.mem_cons.mp hp with rfl | hp
      · exact ok'
      · rcases List.mem_cons.mp hp with rfl | hp
        · exact ok
        · exact h1.temps p hp
    · show (ownedE (env.set i .un) ++ (s'.owned ++ (r.owned ++ ownedT T))).Nodup
      have z := h0.nd
      rw [← List.append_assoc s'.owned]
      rw [List.nodup_append] at z ⊢
      obtain ⟨z1, z2, z3⟩ := z
      refine ⟨z1, ?_, fun b hb c hc => ?_⟩
      · rw [List.nodup_append]
        exact ⟨nd, z2, fun b hb c hc e => dis b hb (by rw [e]; exact List.mem_append_right _ hc)⟩
      · rcases List.mem_append.mp hc with hc | hc
        · exact fun e => dis c hc (by rw [← e]; exact List.mem_append_left _ hb)
        · exact z3 b hb c hc
    · have hb' : b ∈ ownedE (env.set i .un) ++ (s'.owned ++ (r.owned ++ ownedT T)) := hb
      rw [← List.append_assoc s'.owned] at hb'
      rcases List.mem_append.mp hb' with hc | hc
      · exact h0.s3 b (List.mem_append_left _ hc)
      · rcases List.mem_append.mp hc with hc | hc
        · exact fin3 b hc
        · exact h0.s3 b (List.mem_append_right _ hc)
  have h3 := h2.assign i hp
  rw [List.set_set] at h3
  have z : σ.set i (some (.ref a)) = σ := by
    obtain ⟨hl, q⟩ := List.getElem?_eq_some_iff.mp hw
    rw [← q]
    exact List.set_getElem_self hl
  rw [z] at h3
  exact h3
end
def anyAl : List Sl → Bool
  | [] => false
  | .al _ _ :: _ => true
  | .ar _ _ :: _ => true
  | _ :: r => anyAl r
section
variable {K : PySem.W.Frag} {e : Ent} {env : Env'} {T : Tmp} {σ : St} {H : Hp}
theorem Holds.lend : ∀ {vs : List V} {xs : List Sl} {q : List D → Prop} {F : Hp}, vs.length = xs.length → Holds K e env (vs.zip xs ++ T) F σ H → HD.wds env xs q →
    ∃ ds F1 Fc, q ds ∧ Holds K e env T F1 σ H ∧ Same F F1 ∧ Same F1 Fc ∧ Reps K Fc ds vs ∧ Same Fc H ∧ (∀ b, Fc b ≠ none → F1 b ≠ none ∨ b ∈ ownedE env) ∧ (anyAl xs = false → Fc = F1)
  | [], [], q, F, _, h, w => ⟨[], F, F, w, h, Same.refl _, Same.refl _, rfl, h.fh, fun _ z => .inl z, fun _ => rfl⟩
  | [], _ :: _, _, _, le, _, _ => by cases le
  | _ :: _, [], _, _, le, _, _ => by cases le
  | v :: vs, x :: xs, q, F, le, h, w => by
    have le' : vs.length = xs.length := by simpa using le
    cases x with
    | un => exact w.elim
    | reg _ _ => exact w.elim
    | ar i b =>
      have ev : v = .ref b := h.temps (v, .ar i b) List.mem_cons_self
      have h' : Holds K e env (vs.zip xs ++ T) F σ H := h.pop
      have w' : (match env[i]? with | some (.reg _ cs) => (match cellOf cs b with | some (.lst ds) => HD.wds env xs (fun es => q (.lst ds :: es)) | _ => False) | _ => False) := w
      split at w'
      · rename_i dr cs hb
        split at w'
        · rename_i es hc
          obtain ⟨ds, F1, Fc, w1, h1, s1, s2, r, fh, nw, na⟩ := Holds.lend (q := fun ds => q (.lst es :: ds)) le' h' w'
          obtain ⟨e2, o, hv, us, rfl, hr⟩ := h1.cell hb hc
          have s3 : Same Fc (upd Fc b (.lst us)) := fun c o qc => by
            by_cases nc : c = b
            · rw [nc] at qc ⊢
              have := fh _ _ qc
              rw [hv] at this
              rw [upd_same]
              exact this
            · rw [upd_ne nc]
              exact qc
          refine ⟨.lst es :: ds, F1, upd Fc b (.lst us), w1, h1, s1, s2.trans s3, ⟨v, vs, rfl, ⟨b, us, ev, upd_same, hr.same (s2.trans s3)⟩, r.same s3⟩, fun c o qc => ?_, fun c nc => ?_, fun z => nomatch z⟩
          · by_cases ec : c = b
            · rw [ec, upd_same] at qc
              rw [ec, hv]
              exact qc
            · rw [upd_ne ec] at qc
              exact fh _ _ qc
          · by_cases ec : c = b
            · rw [ec]
              exact .inr (mem_ownedE hb (List.mem_map.mpr ⟨(b, .lst es), cellOf_mem hc, rfl⟩))
            · rw [upd_ne ec] at nc
              exact nw c nc
        · exact w'.elim
      · exact w'.elim
    | ext d =>
      have rd : Rep K F d v := h.temps (v, .ext d) List.mem_cons_self
      have h' : Holds K e env (vs.zip xs ++ T) F σ H := h.pop
      obtain ⟨ds, F1, Fc, w1, h1, s1, s2, r, fh, nw, na⟩ := Holds.lend (q := fun ds => q (d :: ds)) le' h' w
      exact ⟨d :: ds, F1, Fc, w1, h1, s1, s2, ⟨v, vs, rfl, Rep.same (s1.trans s2) rd, r⟩, fh, nw, na⟩
    | lst a es =>
      obtain ⟨F0, s0, h0⟩ := h.freezeT
      have rd : Rep K F0 (.lst es) v := h0.temps (v, .ext (.lst es)) List.mem_cons_self
      have h' : Holds K e env (vs.zip xs ++ T) F0 σ H := h0.pop
      obtain ⟨ds, F1, Fc, w1, h1, s1, s2, r, fh, nw, na⟩ := Holds.lend (q := fun ds => q (.lst es :: ds)) le' h' w
      exact ⟨.lst es :: ds, F1, Fc, w1, h1, s0.trans s1, s2, ⟨v, vs, rfl, Rep.same (s1.trans s2) rd, r⟩, fh, nw, na⟩
    | al i a =>
      have ev : v = .ref a := h.temps (v, .al i a) List.mem_cons_self
      have h' : Holds K e env (vs.zip xs ++ T) F σ H := h.pop
      have w' : (match env[i]? with | some (.lst b ds) => b = a ∧ HD.wds env xs (fun es => q (.lst ds :: es)) | _ => False) := w
      split at w'
      · rename_i b es hb
        obtain ⟨rfl, w'⟩ := w'
        obtain ⟨ds, F1, Fc, w1, h1, s1, s2, r, fh, nw, na⟩ := Holds.lend (q := fun ds => q (.lst es :: ds)) le' h' w'
        rcases h1.slots i _ hb with z | ⟨u, hu, e1, e2, us, hv, hr⟩
        · cases z
        · have s3 : Same Fc (upd Fc b (.lst us)) := fun c o qc => by
            by_cases nc : c = b
            · rw [nc] at qc ⊢
              have := fh _ _ qc
              rw [hv] at this
              rw [upd_same]
              exact this
            · rw [upd_ne nc]
              exact qc
          refine ⟨.lst es :: ds, F1, upd Fc b (.lst us), w1, h1, s1, s2.trans s3, ⟨v, vs, rfl, ⟨b, us, ev, upd_same, hr.same (s2.trans s3)⟩, r.same s3⟩, fun c o qc => ?_, fun c nc => ?_, fun z => nomatch z⟩
          · by_cases ec : c = b
            · rw [ec, upd_same] at qc
              rw [ec, hv]
              exact qc
            · rw [upd_ne ec] at qc
              exact fh _ _ qc
          · by_cases ec : c = b
            · rw [ec]
              exact .inr (mem_ownedE hb (List.mem_singleton.mpr rfl))
            · rw [upd_ne ec] at nc
              exact nw c nc
      · exact w'.elim
theorem Holds.thaw {F1 Fc F' H' : Hp} (h : Holds K e env T F1 σ H) (s2 : Same F1 Fc) (nw : ∀ b, Fc b ≠ none → F1 b ≠ none ∨ b ∈ ownedE env) (l : Left [] Fc H F' H') :
    ∃ F2, Left [] F1 H F2 H' ∧ (∀ (d : D) (v : V), d.imm = true → Rep K F' d v → Rep K F2 d v) ∧ (∀ (ds : List D) (vs : List V), D.imms ds = true → Reps K F' ds vs → Reps K F2 ds vs) ∧ (∀ b, F' b = none → F2 b = none) ∧ ∀ c d, XD F' c d → XD F2 c d := by
  have old := h.ownedL
  have sT : ∀ a xs, SqT K F' a xs → SqT K (fun b => if b ∈ ownedE env then none else F' b) a xs := fun a xs hs => by
    have out : ∀ o, F' a = some o → a ∈ ownedE env → Loose o := fun o q m => by
      obtain ⟨_, us, hu, lo⟩ := old a (List.mem_append_left _ m)
      have z := (l.out a _ hu (fun z => nomatch z)).1
      rw [l.fh _ _ q] at z
      rw [Option.some.inj z]
      exact lo
    rcases hs with (hs | ⟨o, hs⟩) | hs
    · refine .inl (.inl ?_)
      have n : a ∉ ownedE env := fun m => by
        obtain ⟨z1, z2, _⟩ := out _ hs m
        first | exact z1 _ rfl | exact z2 _ _ rfl
      show (if a ∈ ownedE env then none else F' a) = _
      rw [if_neg n]
      exact hs
    · refine .inl (.inr ⟨o, ?_⟩)
      have n : a ∉ ownedE env := fun m => by
        obtain ⟨z1, z2, _⟩ := out _ hs m
        first | exact z1 _ rfl | exact z2 _ _ rfl
      show (if a ∈ ownedE env then none else F' a) = _
      rw [if_neg n]
      exact hs
    · exact .inr hs
  have sD : ∀ a xs, TupD K F' a xs → TupD K (fun b => if b ∈ ownedE env then none else F' b) a xs := fun a xs hs => by
    rcases hs with ⟨o, hs, d⟩ | hs
    · refine .inl ⟨o, ?_, d⟩
      have n : a ∉ ownedE env := fun m => by
        obtain ⟨_, us, hu, lo⟩ := old a (List.mem_append_left _ m)
        have z := (l.out a _ hu (fun z => nomatch z)).1
        rw [l.fh _ _ hs] at z
        cases z
        obtain ⟨z1, z2, _⟩ := lo
        first | exact z1 _ rfl | exact z2 _ _ rfl
      show (if a ∈ ownedE env then none else F' a) = _
      rw [if_neg n]
      exact hs
    · exact .inr hs
  refine ⟨fun b => if b ∈ ownedE env then none else F' b, ⟨fun b o q => ?_, fun b o q => ?_, fun b o q n => ?_⟩, fun d v n r => Rep.ofT sT sD n r, fun ds vs n r => Reps.ofT sT sD n r, fun b q => ?_, fun c d x => ?_⟩
  · have n : b ∉ ownedE env := fun m => by
      rw [(old b (List.mem_append_left _ m)).1] at q
      cases q
    show (if b ∈ ownedE env then none else F' b) = _
    rw [if_neg n]
    exact l.ff _ _ (s2 _ _ q)
  · have q' : (if b ∈ ownedE env then none else F' b) = some o := q
    split at q'
    · cases q'
    · exact l.fh _ _ q'
  · obtain ⟨r1, r2⟩ := l.out b o q n
    refine ⟨r1, fun z => ?_⟩
    show (if b ∈ ownedE env then none else F' b) = none
    by_cases m : b ∈ ownedE env
    · rw [if_pos m]
    · rw [if_neg m]
      refine r2 ?_
      cases y : Fc b with
      | none => rfl
      | some o' =>
        rcases nw b (by rw [y]; simp) with t | t
        · exact absurd z t
        · exact absurd t m
  · show (if b ∈ ownedE env then none else F' b) = none
    split
    · rfl
    · exact q
  · rcases x with x | ⟨n, dd, fs, h1, h2, h3, h4⟩
    · exact .inl x
    · refine .inr ⟨n, dd, fs, h1, h2, ?_, h4⟩
      have m : dd ∉ ownedE env := fun m => by
        obtain ⟨_, us, hu, lo⟩ := old dd (List.mem_append_left _ m)
        have z := (l.out dd _ hu (fun z => nomatch z)).1
        rw [l.fh _ _ h3] at z
        cases z
        exact lo.2.2 _ rfl
      show (if dd ∈ ownedE env then none else F' dd) = _
      rw [if_neg m]
      exact h3
theorem ownedE_ext (ds : List D) : ownedE (ds.map Sl.ext) = [] := by
  unfold ownedE
  rw [List.flatMap_eq_nil_iff]
  intro x hx
  obtain ⟨d, _, rfl⟩ := List.mem_map.mp hx
  rfl
theorem argsE {F : Hp} {ds : List D} {vs : List V} (fh : Same F H) (r : Reps K F ds vs) : Holds K (entOf F H (ds.map .ext)) (ds.map .ext) [] F (vs.map some) H := by
  have own := ownedE_ext ds
  refine ⟨fh, by rw [List.length_map, List.length_map, r.length], fun i sl q => ?_, (fun p hp => nomatch hp), by rw [own]; exact List.nodup_nil, Same.refl _, fun a o q _ => ⟨q, fun z => z⟩, fun a ha => ?_⟩
  · rw [List.getElem?_map] at q
    cases z : ds[i]? with
    | none =>
      rw [z] at q
      cases q
    | some d =>
      rw [z] at q
      have e := Option.some.inj q
      subst e
      obtain ⟨v, hv, rd⟩ := r.get z
      exact .inr ⟨v, by rw [List.getElem?_map, hv]; rfl, rd⟩
  · rw [own] at ha
    cases ha
end
def dCall (spec : DSpec) (ta : DTA) : DT := fun Ex env Q => ta Ex env fun xs env1 => wds env1 xs fun ds =>
  spec (ds.map .ext) (fun r _ => (anyAl xs = false ∨ r.imm = true) ∧ r.plain ∧ Q r env1) (fun c _ => Ex c env1)
theorem im_call {K : PySem.W.Frag} {W : WX} {spec : DSpec} {n : Nat} {ta : TA} {t : DTA} (h : ImA K W ta t) (hn : ∀ ds Q X, spec ds Q X → ds.length = n) : Im K W (tCallS (toSp K n spec) (WE W) ta) (dCall spec t) := fun e Ex hl env T F σ H Q R hh ht hR => by
  refine h e Ex hl env T F σ H _ _ hh ht fun vs H1 F1 env1 xs le hh1 q1 => ?_
  obtain ⟨ds, F2, Fc, q2, hh2, sm1, sm2, rr, fh, nw, na⟩ := hh1.lend le q1
  have back : ∀ (H' F' : Hp), Same Fc F' → Same F' H' → (∀ a o, H1 a = some o → a ∉ ownedE (ds.map Sl.ext) → H' a = some o ∧ (Fc a = none → F' a = none)) → Left [] Fc H1 F' H' := fun H' F' a b c => ⟨a, b, fun x o q _ => c x o q (by rw [ownedE_ext]; exact fun z => nomatch z)⟩
  refine ⟨Fc, ds.map .ext, _, _, ?_, argsE fh rr, q2, fun v H' F' r fin hf hq => ?_, fun c dx H' F' fin hf hx hq => ?_⟩
  · rw [← hn _ _ _ q2, List.length_map, rr.length]
  · obtain ⟨qi, qp, q3⟩ := hq
    have l := back H' F' hf.s1 hf.fh hf.s2
    have own : ∀ a ∈ r.owned, H1 a = none := fun a ha => by
      have m : a ∈ ownedE fin ++ ownedT [(v, r)] := List.mem_append_right _ (by
        show a ∈ r.owned ++ []
        rw [List.append_nil]
        exact ha)
      rcases hf.s3 a m with z | z
      · have z' : a ∈ ownedE (ds.map Sl.ext) := z
        rw [ownedE_ext] at z'
        cases z'
      · exact z
    have ok := hf.temps (v, r) List.mem_cons_self
    by_cases al : anyAl xs = false
    · have ec := na al
      subst ec
      exact hR v H' F' env1 r (hh2.left0 l ok own) q3
    · have im : r.imm = true := by
        rcases qi with z | z
        · exact absurd z al
        · exact z
      obtain ⟨F3, l3, t1, t2, t3, _⟩ := hh2.thaw sm2 nw l
      refine hR v H' F3 env1 r (hh2.left0 l3 ?_ own) q3
      cases r with
      | un => exact nomatch im
      | al i a => exact nomatch im
      | reg _ _ => exact nomatch im
      | ar _ _ => exact nomatch im
      | ext d => exact t1 d v im ok
      | lst a es =>
        obtain ⟨e1, e2, us, hu, hr⟩ := ok
        exact ⟨e1, t3 _ e2, us, hu, t2 es us im hr⟩
  · have l := back H' F' hf.s1 hf.fh hf.s2
    obtain ⟨F3, l3, _, _, _, t4⟩ := hh2.thaw sm2 nw l
    have h4 := hh2.left0 (v := .non) (r := .ext .non) l3 rfl (fun a z => nomatch z)
    exact hl c dx env1 F3 σ H' h4.bare (t4 _ _ hx) hq
def dCallJ (spec : DSpec) (i : Nat) (ta : DTA) : DT := fun Ex env Q => match env[i]? with
  | some (.lst a _) => ta Ex env fun xs env1 => match env1[i]? with
    | some (.lst b ds) => b = a ∧ frozs env1 xs fun es => spec (.lst a ds :: es.map .ext)
        (fun r fin => match fin with | s' :: _ => s'.plain ∧ r.plain ∧ Q r (env1.set i s') | [] => False) (fun c fin => match fin with | s' :: _ => s'.plain ∧ Ex c (env1.set i s') | [] => False)
    | _ => False
  | _ => False
theorem im_callJ {K : PySem.W.Frag} {W : WX} {spec : DSpec} {n i : Nat} {ta : TA} {t : DTA} (h : ImA K W ta t) (hn : ∀ ds Q X, spec ds Q X → ds.length = n) : Im K W (tCallS (toSp K n spec) (WE W) (tCons (tVar i) ta)) (dCallJ spec i t) := fun e Ex hl env T F σ H Q R hh ht hR => by
  unfold dCallJ at ht
  split at ht
  · rename_i a ds0 hi0
    rcases hh.slots i _ hi0 with z | ⟨v0, hv0, e0, _⟩
    · cases z
    · subst e0
      refine ⟨_, hv0, ?_⟩
      refine h e Ex hl env T F σ H _ _ hh ht fun vs H1 F1 env1 xs le hh1 q1 => ?_
      split at q1
      · rename_i b ds hi
        obtain ⟨rfl, q1⟩ := q1
        obtain ⟨es, F2, sm, hh2, rr, q2⟩ := hh1.frozs le q1
        have own0 : ownedE (Sl.lst b ds :: es.map Sl.ext) = [b] := by
          show [b] ++ ownedE (es.map Sl.ext) = [b]
          rw [ownedE_ext, List.append_nil]
        have hs := hh2.slots i _ hi
        have okJ : SlOk K F2 H1 (.ref b) (.lst b ds) := by
          rcases hs with z | ⟨w, _, e1, r⟩
          · cases z
          · exact ⟨rfl, r⟩
        have hE := argsE (K := K) hh2.fh rr
        have hA : Holds K (entOf F2 H1 (Sl.lst b ds :: es.map Sl.ext)) (Sl.lst b ds :: es.map Sl.ext) [] F2 ((V.ref b :: vs).map some) H1 := by
          refine ⟨hh2.fh, ?_, fun j sl q => ?_, (fun p hp => nomatch hp), ?_, Same.refl _, fun a o q _ => ⟨q, fun z => z⟩, fun a ha => ?_⟩
          · have z := hE.len
            show (es.map Sl.ext).length + 1 = (vs.map some).length + 1
            rw [z]
          · cases j with
            | zero =>
              have z := Option.some.inj q
              subst z
              exact .inr ⟨.ref b, rfl, okJ⟩
            | succ j => exact hE.slots j sl q
          · rw [own0]
            show ([b] ++ ([] : List Addr)).Nodup
            simp
          · rw [show ownedT ([] : Tmp) = [] from rfl, List.append_nil] at ha
            exact .inl ha
        have back : ∀ (H' F' : Hp) (fin : Env') (U : Tmp), Holds K (entOf F2 H1 (Sl.lst b ds :: es.map Sl.ext)) fin U F' ((V.ref b :: vs).map some) H' → Left [b] F2 H1 F' H' := fun H' F' fin U hf =>
          ⟨hf.s1, hf.fh, fun x o q nx => hf.s2 x o q (by
            show x ∉ ownedE (Sl.lst b ds :: es.map Sl.ext)
            rw [own0]
            exact nx)⟩
        have ownF : ∀ (H' F' : Hp) (fin : Env') (U : Tmp), Holds K (entOf F2 H1 (Sl.lst b ds :: es.map Sl.ext)) fin U F' ((V.ref b :: vs).map some) H' → ∀ x ∈ ownedE fin ++ ownedT U, x = b ∨ H1 x = none := fun H' F' fin U hf x hx => by
          rcases hf.s3 x hx with z | z
          · have z' : x ∈ ownedE (Sl.lst b ds :: es.map Sl.ext) := z
            rw [own0] at z'
            exact .inl (List.mem_singleton.mp z')
          · exact .inr z
        refine ⟨F2, Sl.lst b ds :: es.map Sl.ext, _, _, ?_, hA, q2, fun v H' F' r fin hf hq => ?_, fun c dx H' F' fin hf hx hq => ?_⟩
        · rw [← hn _ _ _ q2]
          show vs.length + 1 = (es.map Sl.ext).length + 1
          rw [List.length_map, rr.length]
        · cases fin with
          | nil => exact hq.elim
          | cons s' fr =>
            obtain ⟨qs, qr, q3⟩ := hq
            have ok' : SlOk K F' H' (.ref b) s' := by
              rcases hf.slots 0 s' rfl with z | ⟨w, hw, ok⟩
              · subst z
                trivial
              · have z := Option.some.inj (Option.some.inj hw)
                subst z
                exact ok
            have sub : (s'.owned ++ r.owned).Sublist (ownedE (s' :: fr) ++ ownedT [(v, r)]) := by
              show (s'.owned ++ r.owned).Sublist ((s'.owned ++ ownedE fr) ++ (r.owned ++ []))
              rw [List.append_nil]
              exact (List.sublist_append_left _ _).append (List.Sublist.refl _)
            exact hR v H' F' _ r (hh2.left1 hi (back H' F' _ _ hf) (hf.temps (v, r) List.mem_cons_self) ok' (fun x hx => ownF H' F' _ _ hf x (sub.subset hx)) (hf.nd.sublist sub) qs) q3
        · cases fin with
          | nil => exact hq.elim
          | cons s' fr =>
            obtain ⟨qs, q3⟩ := hq
            have ok' : SlOk K F' H' (.ref b) s' := by
              rcases hf.slots 0 s' rfl with z | ⟨w, hw, ok⟩
              · subst z
                trivial
              · have z := Option.some.inj (Option.some.inj hw)
                subst z
                exact ok
            have sub : (s'.owned ++ (Sl.ext .non).owned).Sublist (ownedE (s' :: fr) ++ ownedT []) := by
              show (s'.owned ++ []).Sublist ((s'.owned ++ ownedE fr) ++ [])
              rw [List.append_nil, List.append_nil]
              exact List.sublist_append_left _ _
            have h5 := hh2.left1 (v := .non) (r := .ext .non) hi (back H' F' _ _ hf) rfl ok' (fun x hx => ownF H' F' _ _ hf x (sub.subset hx)) (hf.nd.sublist sub) qs
            exact hl c dx _ F' σ H' h5.bare hx q3
      · exact q1.elim
  · exact ht.elim
structure Def (G : GG) (kf : Nat) (x : Str) (n : Nat) (spec : DSpec) : Prop where
  ex : ∃ f fd ps, FnG G.P G.w G.K G.mg G.base (L2.CX G.P G.w) kf f fd ps (toSp G.K n spec) ∧ G.mg x = some (.ref f) ∧ PySem.W.keepIn G.K (.ref f) = true ∧ Binds G.K fd ps []
  len : ∀ ds Q X, spec ds Q X → ds.length = n
section
variable {G : GG} {N : List Str} {sc : SC} {k kf n : Nat} {x : Str} {spec : DSpec} {e : Expr} {es : List Expr} {p pos : Pos}
theorem Def.pe {W : WX} {X : Cx} {ta : TA} (d : Def G kf x n spec) (S : Sit G N sc W k X) (hk : kf ≤ k) (hg : GlS sc x) (ha : PA X (e :: es) ta) (hdb : (x == ("__debug__" : Str)) = false) (he : NoStar e es) (hpl : ∀ env, (backTo pos (starEach es env)).any (·.1) = false) :
    PE X (.Call (.Name x p) (e :: es) [] pos) (tCallS (toSp G.K n spec) (WE W) ta) := by
  obtain ⟨f, fd, ps, h1, h2, h3, h4⟩ := d.ex
  have pass : ∀ σ, PassesAt (L2.CX X.prog X.w) X σ (WE W σ) := fun σ => passAt S.tk σ
  rw [← S.prog, ← S.w, ← S.K, ← S.mg, ← S.base] at h1
  rw [← S.K] at h3 h4 ⊢
  rw [← S.mg] at h2
  refine ⟨fun pins s σ H Q I h => ?_⟩
  refine wpAny_Call_Name_kw (ld_glob I (S.gl hg) h2 ?_ hdb)
  refine PySem.W.callWith_K (h₀ := X.base) I.ok.mod.kin h3 (thn (ha.run pos pins s σ H _ I h) fun us s1 ⟨vs, H1, I1, r, q⟩ => ⟨I1.kIn, ?_⟩) (he _) (hpl _)
  exact runG h1 S.gd (S.room.mono hk) h4 (pass σ) I1 r q
theorem de_call {ta : DTA} (d : Def G kf x n spec) (ha : DAs G N sc k (e :: es) ta) (hk : kf ≤ k := by decide) (hg : GlS sc x := by rfl) (hdb : (x == ("__debug__" : Str)) = false := by decide) (he : NoStar e es := by intro _; rfl) (hpl : ∀ env, (backTo pos (starEach es env)).any (·.1) = false := by intro _; rfl) :
    DE G N sc k (.Call (.Name x p) (e :: es) [] pos) (dCall spec ta) := ⟨fun W => by
  obtain ⟨te, p1, i1⟩ := ha.ex W
  exact ⟨tCallS (toSp G.K n spec) (WE W) te, fun X S => d.pe S hk hg (p1 X S) hdb he hpl, im_call i1 d.len⟩⟩
theorem de_callJ {ta : DTA} {y : Str} {py : Pos} (i : Nat) (d : Def G kf x n spec) (ha : DAs G N sc k es ta) (hk : kf ≤ k := by decide) (hg : GlS sc x := by rfl) (hN : N[i]? = some y := by rfl)
    (hv : Vis sc.sc y := by first | exact Or.inl rfl | exact Or.inr (Or.inl rfl) | exact Or.inr (Or.inr rfl)) (hdb : (x == ("__debug__" : Str)) = false := by decide) (hdy : (y == ("__debug__" : Str)) = false := by decide) (hcy : (y == ("__classdict__" : Str)) = false := by decide)
    (he : NoStar (.Name y py) es := by intro _; rfl) (hpl : ∀ env, (backTo pos (starEach es env)).any (·.1) = false := by intro _; rfl) :
    DE G N sc k (.Call (.Name x p) (.Name y py :: es) [] pos) (dCallJ spec i ta) := ⟨fun W => by
  obtain ⟨te, p1, i1⟩ := ha.ex W
  refine ⟨tCallS (toSp G.K n spec) (WE W) (tCons (tVar i) te), fun X S => d.pe S hk hg (pa_cons (pe_var (by rw [S.nms]; exact hN) (S.vis hv) hdy hcy) (p1 X S) (he _)) hdb he hpl, im_callJ i1 d.len⟩⟩
end
end HD
namespace HD
open PySem L2
structure DEnds where
  nx : Env' → Prop
  rt : Sl → Env' → Prop
  bk : Env' → Prop := fun _ => False
  ct : Env' → Prop := fun _ => False
abbrev DTS := DX → DEnds → Env' → Prop
structure EndsOk (K : PySem.W.Frag) (e : Ent) (E : DEnds) (Dn : Ends) : Prop where
  nx : ∀ env F σ H, Holds K e env [] F σ H → E.nx env → Dn.nx σ H
  rt : ∀ env F σ H v r, Holds K e env [(v, r)] F σ H → E.rt r env → Dn.rt v H
  bk : ∀ env F σ H, Holds K e env [] F σ H → E.bk env → Dn.bk σ H
  ct : ∀ env F σ H, Holds K e env [] F σ H → E.ct env → Dn.ct σ H
def ImS (K : PySem.W.Frag) (W : WX) (ts : TS) (t : DTS) : Prop :=
  ∀ (e : Ent) (Ex : DX), Link K e W Ex → ∀ (env : Env') (F : Hp) (σ : St) (H : Hp) (E : DEnds) (Dn : Ends), Holds K e env [] F σ H → t Ex E env → EndsOk K e E Dn → ts Dn σ H
structure DS (G : GG) (N : List Str) (sc : SC) (k : Nat) (st : Stmt) (t : DTS) : Prop where
  ex : ∀ W : WX, ∃ ts, (∀ X, Sit G N sc W k X → PS X st ts) ∧ ImS G.K W ts t
structure DSs (G : GG) (N : List Str) (sc : SC) (k : Nat) (st : List Stmt) (t : DTS) : Prop where
  ex : ∀ W : WX, ∃ ts, (∀ X, Sit G N sc W k X → PSs X st ts) ∧ ImS G.K W ts t
section
variable {G : GG} {N : List Str} {sc : SC} {k : Nat} {st : Stmt} {rest : List Stmt} {t u : DTS} {a : Expr} {ta : DT} {pos : Pos}
def sNext : DTS := fun _ E env => E.nx env
def sSeq (t u : DTS) : DTS := fun Ex E env => t Ex { E with nx := fun env1 => u Ex E env1 } env
theorem dss_nil : DSs G N sc k [] sNext := ⟨fun W => ⟨tNext, fun X S => pss_nil, fun e Ex hl env F σ H E Dn hh ht ok => ok.nx env F σ H hh ht⟩⟩
theorem dss_cons (h1 : DS G N sc k st t) (h2 : DSs G N sc k rest u) : DSs G N sc k (st :: rest) (sSeq t u) := ⟨fun W => by
  obtain ⟨ts, p1, i1⟩ := h1.ex W
  obtain ⟨us, p2, i2⟩ := h2.ex W
  refine ⟨tSeq ts us, fun X S => pss_cons (p1 X S) (p2 X S), fun e Ex hl env F σ H E Dn hh ht ok => ?_⟩
  exact i1 e Ex hl env F σ H _ _ hh ht ⟨fun env1 F1 σ1 H1 hh1 q1 => i2 e Ex hl env1 F1 σ1 H1 E Dn hh1 q1 ok, ok.rt, ok.bk, ok.ct⟩⟩
theorem dss_one (h1 : DS G N sc k st t) : DSs G N sc k [st] t := ⟨fun W => by
  obtain ⟨ts, p1, i1⟩ := h1.ex W
  exact ⟨ts, fun X S => pss_one (p1 X S), i1⟩⟩
def sBreak : DTS := fun _ E env => E.bk env
def sCont : DTS := fun _ E env => E.ct env
def sDrop (t : DT) : DTS := fun Ex E env => t Ex env fun _ env1 => E.nx env1
theorem ds_expr (h : DE G N sc k a ta) (hs : ∀ env, swapsWith a none pos.line env = pure false := by intro _; rfl) : DS G N sc k (.Expr a pos) (sDrop ta) := ⟨fun W => by
  obtain ⟨te, p1, i1⟩ := h.ex W
  refine ⟨tDrop te, fun X S => ps_expr (p1 X S) (hs _), fun e Ex hl env F σ H E Dn hh ht ok => ?_⟩
  exact i1 e Ex hl env [] F σ H _ _ hh ht fun v H1 F1 env1 x hh1 q1 => ok.nx env1 F1 σ H1 hh1.pop q1⟩
def retD (env : Env') (x : Sl) (q : Sl → Env' → Prop) : Prop := match x with
  | .al i a => match env[i]? with
    | some (.lst b ds) => b = a ∧ q (.lst a ds) (env.set i .un)
    | _ => False
  | .un => False
  | .ext d => q (.ext d) env
  | .lst a ds => q (.lst a ds) env
  | .reg a cs => q (.reg a cs) env
  | .ar _ _ => False
def sRet (t : DT) : DTS := fun Ex E env => t Ex env fun x env1 => retD env1 x E.rt
theorem Holds.ret {K : PySem.W.Frag} {e : Ent} {env : Env'} {T : Tmp} {F : Hp} {σ : St} {H : Hp} {v : V} {x : Sl} {q : Sl → Env' → Prop} (h : Holds K e env ((v, x) :: T) F σ H) (w : retD env x q) : ∃ r env', Holds K e env' ((v, r) :: T) F σ H ∧ r.plain ∧ q r env' := by
  cases x with
  | un => exact w.elim
  | ext d => exact ⟨_, _, h, trivial, w⟩
  | lst a ds => exact ⟨_, _, h, trivial, w⟩
  | reg a ds => exact ⟨_, _, h, trivial, w⟩
  | ar _ _ => exact w.elim
  | al i a =>
    have ev : v = .ref a := h.temps (v, .al i a) List.mem_cons_self
    have w' : (match env[i]? with | some (.lst b ds) => b = a ∧ q (.lst a ds) (env.set i .un) | _ => False) := w
    split at w'
    · rename_i b ds hb
      obtain ⟨rfl, w'⟩ := w'
      rcases h.slots i _ hb with z | ⟨u, hu, e1, _⟩
      · cases z
      · subst e1
        subst ev
        exact ⟨_, _, h.pop.take hb hu, trivial, w'⟩
    · exact w'.elim
theorem ds_ret (h : DE G N sc k a ta) : DS G N sc k (.Return (some a) pos) (sRet ta) := ⟨fun W => by
  obtain ⟨te, p1, i1⟩ := h.ex W
  refine ⟨tRet te, fun X S => ps_ret (p1 X S), fun e Ex hl env F σ H E Dn hh ht ok => ?_⟩
  refine i1 e Ex hl env [] F σ H _ _ hh ht fun v H1 F1 env1 x hh1 q1 => ?_
  obtain ⟨r, env2, hh2, _, q2⟩ := hh1.ret q1
  exact ok.rt env2 F1 σ H1 v r hh2 q2⟩
def sRetN : DTS := fun _ E env => E.rt (.ext .non) env
def sIf (c : DTT) (t u : DTS) : DTS := fun Ex E env => c Ex env fun b env1 => if b = true then t Ex E env1 else u Ex E env1
theorem ds_if {c : Expr} {x y : List Stmt} {tc : DTT} (hc : DTe G N sc k c tc) (h1 : DSs G N sc k x t) (h2 : DSs G N sc k y u) : DS G N sc k (.If c x y pos) (sIf tc t u) := ⟨fun W => by
  obtain ⟨tt, p0, i0⟩ := hc.ex W
  obtain ⟨ts, p1, i1⟩ := h1.ex W
  obtain ⟨us, p2, i2⟩ := h2.ex W
  refine ⟨tIfS tt ts us, fun X S => ps_if (p0 X S) (p1 X S) (p2 X S), fun e Ex hl env F σ H E Dn hh ht ok => ?_⟩
  refine i0 e Ex hl env [] F σ H _ _ hh ht fun b H1 F1 env1 hh1 q1 => ?_
  cases b with
  | true =>
    rw [if_pos rfl] at q1 ⊢
    exact i1 e Ex hl env1 F1 σ H1 E Dn hh1 q1 ok
  | false =>
    rw [if_neg Bool.false_ne_true] at q1 ⊢
    exact i2 e Ex hl env1 F1 σ H1 E Dn hh1 q1 ok⟩
def sFz (i : Nat) (t : DTS) : DTS := fun Ex E env => match env[i]? with
  | some (.lst _ ds) => t Ex E (env.set i (.ext (.lst ds)))
  | _ => t Ex E env
abbrev DTG := D → Env' → (Env' → Prop) → Prop
def Only (vs : List Nat) (σ σ' : St) : Prop := (∀ i, i ∉ vs → σ'[i]? = σ[i]?) ∧ σ'.length = σ.length
def ImG (K : PySem.W.Frag) (vs : List Nat) (g : TG) (t : DTG) : Prop := ∀ (e : Ent) (env : Env') (T : Tmp) (F : Hp) (σ : St) (H : Hp) (v : V) (d : D) (Q : Env' → Prop) (R : St → Hp → Prop),
  Holds K e env T F σ H → Rep K F d v → t d env Q → (∀ env' σ', Holds K e env' T F σ' H → Only vs σ σ' → Q env' → R σ' H) → g v σ H R
structure DG (G : GG) (N : List Str) (sc : SC) (tg : Expr) (vs : List Nat) (t : DTG) : Prop where
  ex : ∃ g, (∀ W k X, Sit G N sc W k X → PG X tg g) ∧ ImG G.K vs g t
def LocS (sc : SC) (x : Str) : Prop := sc.sc.names.lookup x = some .local ∨ (sc.sc.names.lookup x = some .cell ∧ sc.own x = true)
theorem Sit.loc {W : WX} {X : Cx} {x : Str} (S : Sit G N sc W k X) (h : LocS sc x) : Loc X.env.scope x ∧ (X.fn x = true ∨ X.env.scope.names.lookup x = some .local) := by
  rcases h with h | h
  · exact ⟨.inl (by rw [S.scp]; exact h), .inr (by rw [S.scp]; exact h)⟩
  · exact ⟨.inr (by rw [S.scp]; exact h.1), .inl (S.fn x h.2)⟩
def gSet (i : Nat) : DTG := fun d env Q => Q (env.set i (.ext d))
theorem dg_name {x : Str} (i : Nat) (hi : N[i]? = some x := by rfl) (hx : LocS sc x := by first | exact Or.inl rfl | exact Or.inr ⟨rfl, rfl⟩) : DG G N sc (.Name x pos) [i] (gSet i) :=
  ⟨gName i, fun W k X S => pg_name (by rw [S.nms]; exact S.nd) (by rw [S.nms]; exact hi) (S.loc hx).1 (S.loc hx).2,
    fun e env T F σ H v d Q R hh rd ht hR => hR _ _ ((hh.pushE rd).assign i trivial) ⟨fun j hj => List.getElem?_set_ne (fun z => hj (by rw [← z]; exact List.mem_singleton.mpr rfl)), List.length_set⟩ ht⟩
abbrev DTGs := List D → Env' → (Env' → Prop) → Prop
def ImGs (K : PySem.W.Frag) (us : List Nat) (g : TGs) (t : DTGs) : Prop := ∀ (e : Ent) (env : Env') (T : Tmp) (F : Hp) (σ : St) (H : Hp) (vs : List V) (ds : List D) (Q : Env' → Prop) (R : St → Hp → Prop),
  Holds K e env T F σ H → Reps K F ds vs → t ds env Q → (∀ env' σ', Holds K e env' T F σ' H → Only us σ σ' → Q env' → R σ' H) → g vs σ H R
structure DGs (G : GG) (N : List Str) (sc : SC) (tgs : List Expr) (vs : List Nat) (t : DTGs) : Prop where
  ex : ∃ g, (∀ W k X, Sit G N sc W k X → PGs X tgs g) ∧ ImGs G.K vs g t
def gsNil : DTGs := fun ds env Q => ds = [] ∧ Q env
def gsCons (t : DTG) (u : DTGs) : DTGs := fun ds env Q => match ds with
  | d :: r => t d env fun env1 => u r env1 Q
  | [] => False
theorem dgs_nil : DGs G N sc [] [] gsNil := ⟨gNil, fun W k X S => pgs_nil, fun e env T F σ H vs ds Q R hh rd ht hR => by
    obtain ⟨rfl, ht⟩ := ht
    exact ⟨rd, hR env σ hh ⟨fun _ _ => rfl, rfl⟩ ht⟩⟩
theorem dgs_cons {e : Expr} {es : List Expr} {vs us : List Nat} {t : DTG} {u : DTGs} (h1 : DG G N sc e vs t) (h2 : DGs G N sc es us u)
    (hs : ∀ env, (assignEach (e :: es) env).map (·.2) = assign e env :: (assignEach es env).map (·.2) := by intro _; rfl) : DGs G N sc (e :: es) (vs ++ us) (gsCons t u) := by
  obtain ⟨g, p1, i1⟩ := h1.ex
  obtain ⟨gs, p2, i2⟩ := h2.ex
  refine ⟨gCons g gs, fun W k X S => pgs_cons (p1 W k X S) (p2 W k X S) (hs _), fun en env T F σ H xs ds Q R hh rd ht hR => ?_⟩
  cases ds with
  | nil => exact ht.elim
  | cons d r =>
    obtain ⟨v, vr, rfl, r1, r2⟩ := rd
    refine ⟨v, vr, rfl, i1 en env T F σ H v d _ _ hh r1 ht fun env1 σ1 hh1 o1 q1 => ?_⟩
    exact i2 en env1 T F σ1 H vr r Q R hh1 r2 q1 fun env2 σ2 hh2 o2 q2 => hR env2 σ2 hh2 ⟨fun i hi => (o2.1 i fun z => hi (List.mem_append_right _ z)).trans (o1.1 i fun z => hi (List.mem_append_left _ z)), o2.2.trans o1.2⟩ q2
def gTupD (n : Nat) (t : DTGs) : DTG := fun d env Q => match d with
  | .tup ds => ds.length = n ∧ t ds env Q
  | .tk ds => ds.length = n ∧ t ds env Q
  | _ => False
theorem dg_tup {es : List Expr} {kk : Nat} {vs : List Nat} {t : DTGs} {n : Nat} (h : DGs G N sc es vs t) (hn : ∀ env, (assignEach es env).length = n := by intro _; rfl) (hst : ∀ env, (assignEach es env).findIdx? (·.1) = none := by intro _; rfl) : DG G N sc (.Tuple es kk pos) vs (gTupD n t) := by
  obtain ⟨g, p1, i1⟩ := h.ex
  refine ⟨gTup G.K n g, fun W k X S => ?_, fun en env T F σ H v d Q R hh rd ht hR => ?_⟩
  · rw [← S.K]
    exact pg_tup S.calm (p1 W k X S) (hn _) (hst _)
  · cases d with
    | tup ds =>
      obtain ⟨a, xs, rfl, hs, hr⟩ := rd
      obtain ⟨hl, ht⟩ := ht
      exact ⟨a, xs, rfl, SqT.same hh.fh hs.sq, by rw [← hr.length]; exact hl, i1 en env T F σ H xs ds Q R hh hr ht hR⟩
    | tk ds =>
      obtain ⟨a, xs, rfl, hs, hr⟩ := rd
      obtain ⟨hl, ht⟩ := ht
      exact ⟨a, xs, rfl, SqT.same hh.fh hs, by rw [← hr.length]; exact hl, i1 en env T F σ H xs ds Q R hh hr ht hR⟩
    | _ => exact ht.elim
def sSet (i : Nat) (t : DT) : DTS := fun Ex E env => t Ex env fun x env1 => retD env1 x fun r env2 => E.nx (env2.set i r)
theorem imS_set {K : PySem.W.Frag} {W : WX} {te : TE} {t : DT} (i : Nat) (h : Im K W te t) : ImS K W (tAsg te (gName i)) (sSet i t) := fun e Ex hl env F σ H E Dn hh ht ok => by
  refine h e Ex hl env [] F σ H _ _ hh ht fun v H1 F1 env1 x hh1 q1 => ?_
  obtain ⟨r, env2, hh2, hp, q2⟩ := hh1.ret q1
  exact ok.nx _ F1 _ H1 (hh2.assign i hp) q2
theorem ds_set {x : Str} {pos' : Pos} (i : Nat) (h : DE G N sc k a ta) (hi : N[i]? = some x := by rfl) (hx : LocS sc x := by first | exact Or.inl rfl | exact Or.inr ⟨rfl, rfl⟩) (hs : ∀ env, env.scope = sc.sc → swapsWith a (some (.Name x pos')) pos.line env = pure false := by intro _ _; rfl) : DS G N sc k (.Assign [.Name x pos'] a pos) (sSet i ta) := ⟨fun W => by
  obtain ⟨te, p1, i1⟩ := h.ex W
  exact ⟨tAsg te (gName i), fun X S => ps_set (by rw [S.nms]; exact S.nd) (by rw [S.nms]; exact hi) (S.loc hx).1 (p1 X S) (hs _ S.scp) (S.loc hx).2, imS_set i i1⟩⟩
def sSetE (i : Nat) (t : DT) : DTS := fun Ex E env => t Ex env fun x env1 => frzD env1 x fun d env2 => E.nx (env2.set i (.ext d))
theorem imS_setE {K : PySem.W.Frag} {W : WX} {te : TE} {t : DT} (i : Nat) (h : Im K W te t) : ImS K W (tAsg te (gName i)) (sSetE i t) := fun e Ex hl env F σ H E Dn hh ht ok => by
  refine h e Ex hl env [] F σ H _ _ hh ht fun v H1 F1 env1 x hh1 q1 => ?_
  obtain ⟨d, F2, env2, _, hh2, rd, q2⟩ := hh1.frz1 q1
  exact ok.nx _ F2 _ H1 ((hh2.pushE rd).assign i trivial) q2
theorem ds_setE {x : Str} {pos' : Pos} (i : Nat) (h : DE G N sc k a ta) (hi : N[i]? = some x := by rfl) (hx : LocS sc x := by first | exact Or.inl rfl | exact Or.inr ⟨rfl, rfl⟩) (hs : ∀ env, env.scope = sc.sc → swapsWith a (some (.Name x pos')) pos.line env = pure false := by intro _ _; rfl) : DS G N sc k (.Assign [.Name x pos'] a pos) (sSetE i ta) := ⟨fun W => by
  obtain ⟨te, p1, i1⟩ := h.ex W
  exact ⟨tAsg te (gName i), fun X S => ps_set (by rw [S.nms]; exact S.nd) (by rw [S.nms]; exact hi) (S.loc hx).1 (p1 X S) (hs _ S.scp) (S.loc hx).2, imS_setE i i1⟩⟩
def sAsg (t : DT) (g : DTG) : DTS := fun Ex E env => t Ex env fun x env1 => frzD env1 x fun d env2 => g d env2 E.nx
theorem ds_asg {tg : Expr} {vs : List Nat} {g : DTG} (h : DE G N sc k a ta) (hg : DG G N sc tg vs g) (hs : ∀ env, swapsWithSole [tg] a pos.line env = pure false := by intro _; rfl) (hw : ∀ env, swappedStores [tg] a env = pure none := by intro _; rfl)
    (h1 : ∀ env, (assignEach [tg] env).map (·.2) = [assign tg env] := by intro _; rfl) : DS G N sc k (.Assign [tg] a pos) (sAsg ta g) := ⟨fun W => by
  obtain ⟨te, p1, i1⟩ := h.ex W
  obtain ⟨gg, p2, i2⟩ := hg.ex
  refine ⟨tAsg te gg, fun X S => ps_asg (p1 X S) (p2 W k X S) (hs _) (hw _) (h1 _), fun e Ex hl env F σ H E Dn hh ht ok => ?_⟩
  refine i1 e Ex hl env [] F σ H _ _ hh ht fun v H1 F1 env1 x hh1 q1 => ?_
  obtain ⟨d, F2, env2, _, hh2, rd, q2⟩ := hh1.frz1 q1
  exact i2 e env2 [] F2 σ H1 v d E.nx Dn.nx hh2 rd q2 fun env3 σ3 hh3 _ q3 => ok.nx env3 F2 σ3 H1 hh3 q3⟩
def Src (K : PySem.W.Frag) (J : It) (items : List D) (keep : Env' → Prop) (F0 : Hp) : Prop :=
  ∀ (e : Ent) (env : Env') (T : Tmp) (F : Hp) (σ : St) (H : Hp) (i : Nat), Holds K e env T F σ H → Same F0 F → keep env →
    (items.length = i → J.stop i H) ∧ ∀ d, items[i]? = some d → J.go i H ∧ ∀ x H2, J.yld i H x H2 → ∃ F2, Grow F H F2 H2 ∧ Rep K F2 d x
abbrev DTI := DX → Env' → (List D → (Env' → Prop) → Env' → Prop) → Prop
def ImI (K : PySem.W.Frag) (W : WX) (wi : TI) (t : DTI) : Prop := ∀ (e : Ent) (Ex : DX), Link K e W Ex → ∀ (env : Env') (T : Tmp) (F : Hp) (σ : St) (H : Hp) (Q : List D → (Env' → Prop) → Env' → Prop) (R : It → Hp → Prop),
  Holds K e env T F σ H → t Ex env Q → (∀ J H' F' env' items keep, Holds K e env' T F' σ H' → Src K J items keep F' → Q items keep env' → R J H') → wi σ H R
structure DI (G : GG) (N : List Str) (sc : SC) (k : Nat) (tg iter : Expr) (t : DTI) : Prop where
  ex : ∀ W : WX, ∃ wi, (∀ X, Sit G N sc W k X → PI X tg iter wi) ∧ ImI G.K W wi t
def atC (i : Nat) (b : Addr) (ds : List D) (env : Env') : Prop := ∃ d cs, env[i]? = some (.reg d cs) ∧ cellOf cs b = some (.lst ds)
def iterD (env : Env') (x : Sl) (q : List D → (Env' → Prop) → Prop) : Prop := match x with
  | .ext (.lst ds) => q ds fun _ => True
  | .lst _ ds => q ds fun _ => True
  | .al i a => match env[i]? with
    | some (.lst b ds) => b = a ∧ q ds fun env' => env'[i]? = some (.lst a ds)
    | _ => False
  | .ar i b => match env[i]? with
    | some (.reg _ cs) => match cellOf cs b with
      | some (.lst ds) => q ds (atC i b ds)
      | _ => False
    | _ => False
  | _ => False
def dIterT (t : DT) : DTI := fun Ex env Q => t Ex env fun x env1 => match x with
  | .ext (.tup ds) => Q ds (fun _ => True) env1
  | _ => False
def rgD (lo hi : Int) : List D := (List.range (hi - lo).toNat).map fun i => D.int (lo + (i : Nat))
theorem src_range {K : PySem.W.Frag} {F0 : Hp} {lo hi : Int} : Src K (Itr lo (hi - lo).toNat) (rgD lo hi) (fun _ => True) F0 := fun e env T F σ H i hh sm _ => by
  have hl : (rgD lo hi).length = (hi - lo).toNat := by
    unfold rgD
    rw [List.length_map, List.length_range]
  refine ⟨fun h => by rw [hl] at h; exact Nat.le_of_eq h, fun d hd => ?_⟩
  have hi' : i < (hi - lo).toNat := by
    rw [← hl]
    exact (List.getElem?_eq_some_iff.mp hd).1
  unfold rgD at hd
  rw [List.getElem?_map, List.getElem?_range hi'] at hd
  have ed := Option.some.inj hd
  refine ⟨hi', fun x H2 hy => ?_⟩
  obtain ⟨rfl, ex⟩ := hy
  refine ⟨F, Grow.refl hh.fh, ?_⟩
  rw [ex, ← ed]
  exact rfl
def small62 (i : Int) : Prop := -(2 ^ 62) ≤ i ∧ i < 2 ^ 62
def dRange1 (t : DTA) : DTI := fun Ex env Q => t Ex env fun xs env1 => match xs with
  | [.ext (.int j)] => small62 j ∧ Q (rgD 0 j) (fun _ => True) env1
  | _ => False
def dRange2 (t : DTA) : DTI := fun Ex env Q => t Ex env fun xs env1 => match xs with
  | [.ext (.int i), .ext (.int j)] => small62 i ∧ small62 j ∧ Q (rgD i j) (fun _ => True) env1
  | _ => False
theorem di_range1 {tg : Expr} {t : DTA} {p : Pos} (h : DAs G N sc k [a] t) (hm : G.mg "range" = none) (hg : GlS sc "range" := by rfl) (hs : ∀ env, starEach [a] env = [(false, eval a env)] := by intro _; rfl) : DI G N sc k tg (.Call (.Name "range" p) [a] [] pos) (dRange1 t) := ⟨fun W => by
  obtain ⟨te, p1, i1⟩ := h.ex W
  refine ⟨iRng1 te, fun X S => pi_range1 (S.gl hg) (by rw [S.mg]; exact hm) (p1 X S) (hs _), fun e Ex hl env T F σ H Q R hh ht hR => ?_⟩
  refine i1 e Ex hl env T F σ H _ _ hh ht fun vs H1 F1 env1 xs le hh1 q1 => ?_
  split at q1
  · rename_i j
    match vs, le, hh1 with
    | [v], _, hh1 =>
      have ev : v = .int j := hh1.temps (v, .ext (.int j)) List.mem_cons_self
      have z := src_range (K := G.K) (F0 := F1) (lo := 0) (hi := j)
      rw [Int.sub_zero] at z
      exact ⟨j, by rw [ev], q1.1.1, q1.1.2, hR _ H1 F1 env1 _ _ hh1.pop z q1.2⟩
  · exact q1.elim⟩
abbrev Ent.at (e : Ent) (F1 : Hp) : Ent := ⟨F1, e.H0, e.A0⟩
section
variable {K : PySem.W.Frag} {e : Ent} {env env1 : Env'} {T T1 : Tmp} {F F1 : Hp} {σ σ1 : St} {H H1 : Hp}
theorem Holds.on (h1 : Holds K e env1 T1 F1 σ1 H1) (h : Holds K e env T F σ H) (sm : Same F1 F) : Holds K (e.at F1) env T F σ H :=
  ⟨h.fh, h.len, h.slots, h.temps, h.nd, sm, fun a o q n => ⟨(h.s2 a o q n).1, fun z => (h.s2 a o q n).2 (h1.s1.free z)⟩, h.s3⟩
theorem Holds.off (h1 : Holds K e env1 T1 F1 σ1 H1) (h : Holds K (e.at F1) env T F σ H) : Holds K e env T F σ H :=
  ⟨h.fh, h.len, h.slots, h.temps, h.nd, h1.s1.trans h.s1, fun a o q n => ⟨(h.s2 a o q n).1, fun z => (h.s2 a o q n).2 ((h1.s2 a o q n).2 z)⟩, h.s3⟩
theorem Link.on {W : WX} {Ex : DX} (h1 : Holds K e env1 T1 F1 σ1 H1) (hl : Link K e W Ex) : Link K (e.at F1) W Ex := fun c d env F σ H h hx q => hl c d env F σ H (h1.off h) hx q
theorem EndsOk.on {E : DEnds} {Dn : Ends} (h1 : Holds K e env1 T1 F1 σ1 H1) (ok : EndsOk K e E Dn) : EndsOk K (e.at F1) E Dn :=
  ⟨fun env F σ H h q => ok.nx env F σ H (h1.off h) q, fun env F σ H v r h q => ok.rt env F σ H v r (h1.off h) q, fun env F σ H h q => ok.bk env F σ H (h1.off h) q, fun env F σ H h q => ok.ct env F σ H (h1.off h) q⟩
end
def forD (g : DTG) (body : DTS) (keep : Env' → Prop) (Ex : DX) (E : DEnds) : List D → Env' → Prop
  | [], env => keep env ∧ E.nx env
  | d :: ds, env => keep env ∧ g d env fun env1 => body Ex { E with nx := forD g body keep Ex E ds, ct := forD g body keep Ex E ds, bk := E.nx } env1
def sFor (ti : DTI) (g : DTG) (body : DTS) : DTS := fun Ex E env => ti Ex env fun items keep env1 => forD g body keep Ex E items env1
theorem forD_keep {g : DTG} {body : DTS} {keep : Env' → Prop} {Ex : DX} {E : DEnds} : ∀ {ds : List D} {env : Env'}, forD g body keep Ex E ds env → keep env
  | [], _, h => h.1
  | _ :: _, _, h => h.1
theorem ds_for {tg iter : Expr} {body : List Stmt} {ti : DTI} {vs : List Nat} {g : DTG} {tb : DTS} (hi : DI G N sc k tg iter ti) (hg : DG G N sc tg vs g) (hb : DSs G N sc k body tb) (hs : ∀ env x, foldedSetIterable iter env x = pure x := by intro _ _; rfl) : DS G N sc k (.For tg iter body [] pos) (sFor ti g tb) := ⟨fun W => by
  obtain ⟨wi, p1, i1⟩ := hi.ex W
  obtain ⟨gg, p2, i2⟩ := hg.ex
  obtain ⟨ts, p3, i3⟩ := hb.ex W
  refine ⟨tFor wi gg ts, fun X S => ps_for S.own S.calm (p1 X S) (p2 W k X S) (p3 X S) (hs _), fun e Ex hl env F σ H E Dn hh ht ok => ?_⟩
  refine i1 e Ex hl env [] F σ H _ _ hh ht fun J H1 F1 env1 items keep hh1 src q1 => ?_
  have ok' := ok.on hh1
  refine ⟨fun i m σ' H' => ∃ env' F', Holds G.K (e.at F1) env' [] F' σ' H' ∧ i + m = items.length ∧ forD g tb keep Ex E (items.drop i) env', ⟨items.length, env1, F1, hh1.on hh1 (Same.refl _), by omega, q1⟩, ?_⟩
  rintro i m σ2 H2 ⟨env2, F2, hh2, em, q2⟩
  obtain ⟨s1, s2⟩ := src (e.at F1) env2 [] F2 σ2 H2 i hh2 hh2.s1 (forD_keep q2)
  cases hd : items[i]? with
  | none =>
    have hi : items.length ≤ i := List.getElem?_eq_none_iff.mp hd
    rw [List.drop_eq_nil_of_le hi] at q2
    exact .inl ⟨s1 (by omega), ok'.nx env2 F2 σ2 H2 hh2 q2.2⟩
  | some d =>
    obtain ⟨hi, ed⟩ := List.getElem?_eq_some_iff.mp hd
    rw [List.drop_eq_getElem_cons hi, ed] at q2
    obtain ⟨_, q2⟩ := q2
    obtain ⟨go, yl⟩ := s2 d hd
    refine .inr ⟨go, fun σ' H' => ∃ env' F', Holds G.K (e.at F1) env' [] F' σ' H' ∧ forD g tb keep Ex E (items.drop (i + 1)) env', fun σ' H' ⟨env', F', a1, a3⟩ => ⟨m - 1, by omega, env', F', a1, by omega, a3⟩, fun x H3 hy => ?_⟩
    obtain ⟨F3, gr, rd⟩ := yl x H3 hy
    refine i2 (e.at F1) env2 [] F3 σ2 H3 x d _ _ (hh2.grow gr) rd q2 fun env4 σ4 hh4 _ q4 => ?_
    exact i3 (e.at F1) Ex (hl.on hh1) env4 F3 σ4 H3 _ _ hh4 q4 ⟨fun env5 F5 σ5 H5 hh5 q5 => ⟨env5, F5, hh5, q5⟩, ok'.rt, fun env5 F5 σ5 H5 hh5 q5 => ok'.nx env5 F5 σ5 H5 hh5 q5, fun env5 F5 σ5 H5 hh5 q5 => ⟨env5, F5, hh5, q5⟩⟩⟩
end
end HD
namespace HD
open PySem L2
def wipeE (env : Env') : List Nat → Env'
  | [] => env
  | v :: vs => (wipeE env vs).set v .un
section
variable {K : PySem.W.Frag} {e : Ent} {env : Env'} {T : Tmp} {F : Hp} {σ : St} {H : Hp}
theorem Holds.wipe1 (h : Holds K e env T F σ H) (i : Nat) : Holds K e (env.set i .un) T F (σ.set i none) H := by
  have h1 := h.unset i
  refine ⟨h1.fh, by rw [List.length_set, List.length_set]; exact h.len, fun j sl q => ?_, h1.temps, h1.nd, h1.s1, h1.s2, h1.s3⟩
  by_cases ij : i = j
  · subst ij
    rw [List.getElem?_set] at q
    rw [if_pos rfl] at q
    split at q
    · cases q
      exact .inl rfl
    · cases q
  · rcases h1.slots j sl q with z | ⟨v, hv, ok⟩
    · exact .inl z
    · exact .inr ⟨v, by rw [List.getElem?_set_ne ij]; exact hv, ok⟩
theorem Holds.wipe (h : Holds K e env T F σ H) : ∀ vs : List Nat, Holds K e (wipeE env vs) T F (wipe σ vs) H
  | [] => h
  | v :: vs => (Holds.wipe h vs).wipe1 v
theorem Holds.unwipe {vs : List Nat} (h : Holds K e env T F (L2.wipe σ vs) H) : Holds K e env T F σ H :=
  ⟨h.fh, by rw [h.len, wipe_length], fun j sl q => by
    rcases h.slots j sl q with z | ⟨v, hv, ok⟩
    · exact .inl z
    · exact .inr ⟨v, (wipe_some hv).1, ok⟩, h.temps, h.nd, h.s1, h.s2, h.s3⟩
end
theorem wipe_in {σ : St} {i : Nat} : ∀ {vs : List Nat}, i ∈ vs → i < σ.length → (wipe σ vs)[i]? = some none
  | [], h, _ => nomatch h
  | v :: vs, h, hl => by
    unfold wipe
    rw [List.getElem?_set]
    by_cases e : v = i
    · rw [if_pos e, if_pos (by rw [wipe_length, e]; exact hl)]
    · rw [if_neg e]
      rcases List.mem_cons.mp h with z | z
      · exact absurd z.symm e
      · exact wipe_in z hl
theorem wipe_only {σ σ2 : St} {vs : List Nat} (h : Only vs (wipe σ vs) σ2) : wipe σ2 vs = wipe σ vs := by
  have hl : σ2.length = σ.length := by rw [h.2, wipe_length]
  refine List.ext_getElem? fun i => ?_
  by_cases m : i ∈ vs
  · by_cases il : i < σ.length
    · rw [wipe_in m il, wipe_in m (by rw [hl]; exact il)]
    · rw [List.getElem?_eq_none (by rw [wipe_length, hl]; omega), List.getElem?_eq_none (by rw [wipe_length]; omega)]
  · rw [wipe_out m, h.1 i m]
section
variable {G : GG} {N : List Str} {sc : SC} {k : Nat}
theorem Sit.blk {W : WX} {X : Cx} (S : Sit G N sc W k X) (s : Shared) (H : Hp) (scope : Scope) (C : Addr) (cl : List (Str × Addr)) (fp : List Addr) : Sit G N (lcS scope sc) (fun _ _ _ _ => False) k (X.blk s H scope (compEnvC scope cl C X.env) fp) where
  prog := S.prog
  w := S.w
  K := S.K
  mg := S.mg
  base := S.base
  nms := S.nms
  nd := S.nd
  scp := by
    show relabel scope X.env = relab scope sc.sc
    unfold relabel relab
    rw [← S.scp]
    rfl
  calm := S.calm
  room := S.room
  tk := L2.takes0
  fn := fun x h => h
  own := PassesOwn.never
  stk := fun z => by cases z
  gd := S.gd
def dYes : DTT := fun _ env Q => Q true env
structure DTl (G : GG) (N : List Str) (sc : SC) (k : Nat) (ifs : List Expr) (t : DTT) : Prop where
  ex : ∀ W : WX, ∃ te, (∀ X, Sit G N sc W k X → PTs X ifs te) ∧ ImT G.K W te t
theorem dtl_nil : DTl G N sc k [] dYes := ⟨fun W => ⟨tYes, fun X S => pts_nil, fun e Ex hl env T F σ H Q R hh ht hR => hR true H F env hh ht⟩⟩
theorem dtl_one {c : Expr} {t : DTT} (h : DTe G N sc k c t) : DTl G N sc k [c] t := ⟨fun W => by
  obtain ⟨te, p1, i1⟩ := h.ex W
  exact ⟨te, fun X S => pts_one (p1 X S), i1⟩⟩
abbrev noX : DX := fun _ _ => False
def lcD (g : DTG) (tt : DTT) (te : DT) (vs : List Nat) (keep : Env' → Prop) (Q : Sl → Env' → Prop) : List D → List D → Env' → Prop
  | [], acc, env => keep env ∧ ∀ a, Q (.lst a acc) env
  | d :: ds, acc, env => keep env ∧ acc.length < sizeLine ∧ g d env fun env1 => tt noX env1 fun b env2 =>
      if b = true then te noX env2 fun x env3 => frzD env3 x fun d' env4 => lcD g tt te vs keep Q ds (acc ++ [d']) (wipeE env4 vs) else lcD g tt te vs keep Q ds acc (wipeE env2 vs)
def dLc (ti : DTI) (g : DTG) (tt : DTT) (te : DT) (vs : List Nat) : DT := fun Ex env Q => ti Ex env fun items keep env1 => lcD g tt te vs keep Q items [] (wipeE env1 vs)
theorem lcD_keep {g : DTG} {tt : DTT} {te : DT} {vs : List Nat} {keep : Env' → Prop} {Q : Sl → Env' → Prop} : ∀ {ds acc : List D} {env : Env'}, lcD g tt te vs keep Q ds acc env → keep env
  | [], _, _, h => h.1
  | _ :: _, _, _, h => h.1
theorem im_lc {K : PySem.W.Frag} {W : WX} {wi : TI} {gg : TG} {tt' : TT} {te' : TE} {ti : DTI} {g : DTG} {tt : DTT} {te : DT} {vs : List Nat} (i1 : ImI K W wi ti) (i2 : ImG K vs gg g) (i3 : ImT K (fun _ _ _ _ => False) tt' tt) (i4 : Im K (fun _ _ _ _ => False) te' te) : Im K W (tLc wi gg tt' te' vs) (dLc ti g tt te vs) := fun e Ex hl env T F σ H Q R hh ht hR => by
  refine i1 e Ex hl env T F σ H _ _ hh ht fun J H1 F1 env1 items keep hh1 src q1 => fun D hD => ?_
  have nl : Link K (e.at F1) (fun _ _ _ _ => False) noX := fun _ _ _ _ _ _ _ _ z => z
  have h0 : Holds K e env1 ((V.ref D, Sl.lst D []) :: T) F1 σ (upd H1 D (.lst [])) := hh1.push (Grow.loose hh1.fh hD) ⟨rfl, hh1.fh.free hD, [], upd_same, rfl⟩ fun a ha => by
    rw [List.mem_singleton.mp ha]
    exact hD
  refine ⟨fun i m H' => ∃ env' F' acc, Holds K (e.at F1) env' ((V.ref D, Sl.lst D acc) :: T) F' (wipe σ vs) H' ∧ i + m = items.length ∧ lcD g tt te vs keep Q (items.drop i) acc env',
    ⟨items.length, wipeE env1 vs, F1, [], (hh1.on h0 (Same.refl _)).wipe vs, by omega, q1⟩, ?_⟩
  rintro i m H2 ⟨env2, F2, acc, hh2, em, q2⟩
  obtain ⟨s1, s2⟩ := src (e.at F1) env2 _ F2 _ H2 i hh2 hh2.s1 (lcD_keep q2)
  cases hd : items[i]? with
  | none =>
    have hi : items.length ≤ i := List.getElem?_eq_none_iff.mp hd
    rw [List.drop_eq_nil_of_le hi] at q2
    exact .inl ⟨s1 (by omega), hR _ H2 F2 env2 _ (hh1.off hh2.unwipe) (q2.2 D)⟩
  | some d =>
    obtain ⟨hi, ed⟩ := List.getElem?_eq_some_iff.mp hd
    rw [List.drop_eq_getElem_cons hi, ed] at q2
    obtain ⟨_, hz, q2⟩ := q2
    obtain ⟨go, yl⟩ := s2 d hd
    refine .inr ⟨go, fun H' => ∃ env' F' acc, Holds K (e.at F1) env' ((V.ref D, Sl.lst D acc) :: T) F' (wipe σ vs) H' ∧ lcD g tt te vs keep Q (items.drop (i + 1)) acc env', fun H' ⟨env', F', acc', a1, a3⟩ => ⟨m - 1, by omega, env', F', acc', a1, by omega, a3⟩, fun x H3 hy => ?_⟩
    obtain ⟨F3, gr, rd⟩ := yl x H3 hy
    refine i2 (e.at F1) env2 _ F3 _ H3 x d _ _ (hh2.grow gr) rd q2 fun env4 σ4 hh4 on4 q4 => ⟨wipe_only on4, ?_⟩
    refine i3 (e.at F1) noX nl env4 _ F3 σ4 H3 _ _ hh4 q4 fun b H5 F5 env5 hh5 q5 => ?_
    cases b with
    | false =>
      rw [if_neg Bool.false_ne_true] at q5 ⊢
      have z := hh5.wipe vs
      rw [wipe_only on4] at z
      exact ⟨_, F5, acc, z, q5⟩
    | true =>
      rw [if_pos rfl] at q5 ⊢
      refine i4 (e.at F1) noX nl env5 _ F5 σ4 H5 _ _ hh5 q5 fun y H6 F6 env6 sl hh6 q6 => ?_
      obtain ⟨d', F7, env7, _, hh7, rd', q7⟩ := hh6.frz1 q6
      obtain ⟨_, _, us, hu, hr⟩ := hh7.temps (V.ref D, Sl.lst D acc) List.mem_cons_self
      refine ⟨us, hu, by rw [← hr.length]; exact hz, ?_⟩
      have z := (hh7.writeT (hr.append (.one rd'))).wipe vs
      rw [wipe_only on4] at z
      exact ⟨_, F7, _, z, q7⟩
variable {elt tg iter : Expr} {ifs : List Expr} {scope : Scope} {own : List (Str × Nat)} {pos : Pos} {ti : DTI} {g : DTG} {tt : DTT} {te : DT}
theorem de_lc (own : List (Str × Nat)) (hi : DI G N sc k tg iter ti) (ok : blkC N sc.sc scope own = true) (hg : DG G N (lcS scope sc) tg (own.map (·.2)) g) (ht : DTl G N (lcS scope sc) k ifs tt) (he : DE G N (lcS scope sc) k elt te) (hs : ∀ env x, foldedSetIterable iter env x = pure x := by intro _ _; rfl) :
    DE G N sc k (.ListComp elt [⟨tg, iter, ifs, 0⟩] scope pos) (dLc ti g tt te (own.map (·.2))) := ⟨fun W => by
  obtain ⟨wi, p1, i1⟩ := hi.ex W
  obtain ⟨gg, p2, i2⟩ := hg.ex
  obtain ⟨tt', p3, i3⟩ := ht.ex fun _ _ _ _ => False
  obtain ⟨te', p4, i4⟩ := he.ex fun _ _ _ _ => False
  refine ⟨tLc wi gg tt' te' (own.map (·.2)), fun X S => ?_, im_lc i1 i2 i3 i4⟩
  exact pe_lc S.calm (by rw [S.nms]; exact S.nd) (p1 X S) (by rw [S.nms, S.scp]; exact blkOk_by ok) (fun s H C cl fp => p2 _ _ _ (S.blk s H scope C cl fp)) (fun s H C cl fp => p3 _ (S.blk s H scope C cl fp)) (fun s H C cl fp => p4 _ (S.blk s H scope C cl fp)) (hs _)⟩
theorem start_holds {K : PySem.W.Frag} {e : Ent} {args : Env'} {F H : Hp} {vs : List V} (N : List Str) (h : Holds K e args [] F (vs.map some) H) : Holds K e (args ++ List.replicate (N.length - vs.length) .un) [] F (L2.start N vs) H := by
  have own : ownedE (args ++ List.replicate (N.length - vs.length) Sl.un) = ownedE args := by
    unfold ownedE
    rw [List.flatMap_append]
    have z : (List.replicate (N.length - vs.length) Sl.un).flatMap Sl.owned = [] := by
      rw [List.flatMap_eq_nil_iff]
      intro x hx
      rw [List.eq_of_mem_replicate hx]
      rfl
    rw [z, List.append_nil]
  have hl : args.length = vs.length := by
    have z := h.len
    rw [List.length_map] at z
    exact z
  refine ⟨h.fh, ?_, fun i sl q => ?_, h.temps, by rw [own]; exact h.nd, h.s1, h.s2, by rw [own]; exact h.s3⟩
  · unfold L2.start
    rw [List.length_append, List.length_append, List.length_replicate, List.length_replicate, h.len]
  · by_cases hi : i < args.length
    · rw [List.getElem?_append_left hi] at q
      rcases h.slots i sl q with z | ⟨v, hv, ok⟩
      · exact .inl z
      · refine .inr ⟨v, ?_, ok⟩
        unfold L2.start
        rw [List.getElem?_append_left (by rw [List.length_map, ← hl]; exact hi)]
        exact hv
    · rw [List.getElem?_append_right (by omega)] at q
      rw [List.getElem?_replicate] at q
      split at q
      · cases q
        exact .inl rfl
      · cases q
abbrev endsOf (args : Env') (Qd : Sl → List Sl → Prop) : DEnds := { nx := fun env => Qd (.ext .non) (finals args env), rt := fun r env => Qd r (finals args env) }
abbrev exOf (args : Env') (Xd : Str → List Sl → Prop) : DX := fun c env => Xd c (finals args env)
theorem fn_ok {st : Stmt} {x qual : Str} {f : Addr} {fd : FuncData} {ps : List Str} {tb : DTS} {spec : DSpec} (F : Fun G.K x qual st f fd) (S : FnScope N ps (defScope st)) (hb : DSs G N (fnS (defScope st)) k (defBody st) tb)
    (h : ∀ args Qd Xd, spec args Qd Xd → args.length = ps.length → tb (exOf args Xd) (endsOf args Qd) (args ++ List.replicate (N.length - args.length) .un)) : FnG G.P G.w G.K G.mg G.base (L2.CX G.P G.w) (k + 1) f fd ps (toSp G.K ps.length spec) := by
  refine fnG_of F S (fun vs H Q E h => ?_) (fun cdv A outer s H vs Q E gd hr hsp => ?_)
  · obtain ⟨_, _, _, _, hl, _⟩ := h
    exact hl
  · obtain ⟨F0, args, Qd, Xd, hl, hA, hs, hQ, hX⟩ := hsp
    obtain ⟨ts, p1, i1⟩ := hb.ex fun cls d _ H => E cls d H
    have al : args.length = vs.length := by
      have z := hA.len
      rw [List.length_map] at z
      exact z
    refine ⟨ts, p1 _ ?_, ?_⟩
    · exact ⟨rfl, rfl, rfl, rfl, rfl, rfl, S.nd, rfl, rfl, hr, takes_of rfl rfl rfl rfl, fun _ _ => rfl, passes_of rfl, fun _ => ⟨rfl, rfl⟩, gd⟩
    · have hh := start_holds N hA
      rw [← al] at hh
      refine i1 (entOf F0 H args) (exOf args Xd) (fun c d env F' σ' H' hh' hx q => hX c d H' F' _ (hA.finals hh') hx q) _ F0 _ H (endsOf args Qd) _ hh (h args Qd Xd hs (al.trans hl)) ⟨fun env F' σ' H' hh' q => ?_, fun env F' σ' H' v r hh' q => hQ v H' F' r _ (hA.finals hh') q, fun _ _ _ _ _ z => z, fun _ _ _ _ _ z => z⟩
      exact hQ .non H' F' (.ext .non) _ (hA.finals (hh'.pushE rfl)) q
end
end HD
namespace HD
open PySem L2
def SqX (b : Bool) (K : PySem.W.Frag) (H : Hp) (a : Addr) (xs : List V) : Prop := if b = true then SqT K H a xs else SqL K H a xs
def ItX (b : Bool) (h : Heap) (it a : Addr) (i : Nat) : Prop := if b = true then h.IsTupleIter it a i else h.IsListIter it a i
def IsX (b : Bool) (h : Heap) (a : Addr) (items : Array Value) : Prop := if b = true then h.IsTuple a items else h.IsList a items
def objX (b : Bool) (a : Addr) : Obj := if b = true then { cls := .type "tuple_iterator", data := .fields #[.ref a, .int 0 0] } else { cls := .type "list_iterator", data := .fields #[.ref a, .int 0 0] }
theorem IsX.lt {b : Bool} {h : Heap} {a : Addr} {items : Array Value} (x : IsX b h a items) : a < h.objs.size := by
  cases b with
  | true =>
    obtain ⟨o, e, _⟩ := (x : h.IsTuple a items)
    exact Heap.lt_size e
  | false =>
    obtain ⟨o, e, _⟩ := (x : h.IsList a items)
    exact Heap.lt_size e
theorem draws_X {prog : Program} {w : World} {A : Around} (b : Bool) (hh : A.handled = none) (it l : Addr) (hne : l ≠ it) (items : Array Value) : Draws prog w A it [it, l] items.size (fun i v => items[i]? = some v) (fun i h => ItX b h it l i ∧ IsX b h l items) := by
  cases b with
  | true => exact Draws.tuple hh it l hne items
  | false => exact Draws.list hh it l hne items
theorem begins_X (b : Bool) (l : Addr) (items : Array Value) : Begins (.ref l) (objX b l) fun h => IsX b h l items := by
  cases b with
  | true => exact begins_tuple l items
  | false => exact begins_list l items
theorem itX_new {b : Bool} {h : Heap} {it a : Addr} (e : h.get? it = some (objX b a)) : ItX b h it a 0 := by
  cases b with
  | true => exact ⟨_, e, rfl, rfl⟩
  | false => exact ⟨_, e, rfl, rfl⟩
theorem ItX.at {b : Bool} {h h' : Heap} {it a : Addr} {i : Nat} (x : ItX b h it a i) (k : ∀ o, h.get? it = some o → h'.get? it = some o) : ItX b h' it a i := by
  cases b with
  | true => exact Heap.IsTupleIter.at (h := h) x k
  | false => exact Heap.IsListIter.at (h := h) x k
theorem ItX.obj {b : Bool} {h : Heap} {it a : Addr} {i : Nat} (x : ItX b h it a i) : ∃ o, h.get? it = some o ∧ ∀ v, o.data ≠ .cell v := by
  cases b with
  | true =>
    obtain ⟨o, e, _, d⟩ := (x : h.IsTupleIter it a i)
    exact ⟨o, e, fun v q => by rw [d] at q; cases q⟩
  | false =>
    obtain ⟨o, e, _, d⟩ := (x : h.IsListIter it a i)
    exact ⟨o, e, fun v q => by rw [d] at q; cases q⟩
theorem Inv.seqX {X : Cx} {pins : List (Addr × Obj)} {σ : L2.St} {H : Hp} {s : Shared} {b : Bool} {a : Addr} {xs : List V} (I : L2.Inv X pins σ H s) (h : SqX b X.K H a xs) : ∃ its : List Value, Vals xs its ∧ IsX b s.heap a its.toArray := by
  cases b with
  | true =>
    obtain ⟨its, r, p, _⟩ := I.tuple h
    exact ⟨its, r, p⟩
  | false =>
    obtain ⟨its, r, p, _⟩ := I.list h
    exact ⟨its, r, p.isList⟩
theorem seqX_inj {X : Cx} {pins : List (Addr × Obj)} {σ : L2.St} {H : Hp} {s : Shared} {b : Bool} {a : Addr} {xs ys : List V} (I : L2.Inv X pins σ H s) (h : SqX b X.K H a xs) (h' : SqX b X.K H a ys) : xs = ys := by
  cases b with
  | true => exact I.tuple_inj h h'
  | false => exact I.list_inj h h'
def ItzX (b1 b2 : Bool) (K : PySem.W.Frag) (a b : Addr) : It :=
  ⟨fun i H => ∃ (xs ys : List V) (x y : V), SqX b1 K H a xs ∧ SqX b2 K H b ys ∧ xs[i]? = some x ∧ ys[i]? = some y,
    fun i H v H' => ∃ T x y, v = .ref T ∧ H T = none ∧ H' = upd H T (.tup [x, y]) ∧ (∀ xs, SqX b1 K H a xs → xs[i]? = some x) ∧ ∀ ys, SqX b2 K H b ys → ys[i]? = some y,
    fun i H => ∃ xs ys : List V, SqX b1 K H a xs ∧ SqX b2 K H b ys ∧ i = min xs.length ys.length⟩
theorem turn_zipX {P : Program} {w : World} {K : PySem.W.Frag} {elts : List Expr} {kk : Nat} {tpos : Pos} {b1 b2 : Bool} {a b n : Addr} (la : a < n) (lb : b < n) :
    Turn P w K (.Tuple elts kk tpos) (ItzX b1 b2 K a b) [n + 4, n + 2, n + 3, n, n + 1] (n + 4) (fun i h => IsZip h (n + 4) (n + 2) (n + 3) .none ∧ IsTupOf2 h (n + 2) (.ref n) (.ref (n + 1)) ∧ (∃ x y, IsTupOf2 h (n + 3) x y) ∧ ItX b1 h n a i ∧ ItX b2 h (n + 1) b i) where
  mem := by simp
  obj := fun i h st c hc => by
    obtain ⟨hz, hTI, ⟨x, y, hTO⟩, h1, h2⟩ := st
    have e' : c = n + 4 ∨ c = n + 2 ∨ c = n + 3 ∨ c = n ∨ c = n + 1 := by simpa using hc
    rcases e' with q | q | q | q | q
    · rw [q]
      exact ⟨_, hz, fun v q => nomatch q⟩
    · rw [q]
      exact ⟨_, hTI, fun v q => nomatch q⟩
    · rw [q]
      exact ⟨_, hTO, fun v q => nomatch q⟩
    · rw [q]
      exact h1.obj
    · rw [q]
      exact h2.obj
  keep := fun i h h' st k => by
    obtain ⟨hz, hTI, ⟨x, y, hTO⟩, h1, h2⟩ := st
    exact ⟨k (n + 4) (by simp) _ hz, k (n + 2) (by simp) _ hTI, ⟨x, y, k (n + 3) (by simp) _ hTO⟩, h1.at fun o q => k n (by simp) o q, h2.at fun o q => k (n + 1) (by simp) o q⟩
  item := by
    intro X hP hw hK hc i pins s σ H E I hf st hg
    subst hP hw hK
    obtain ⟨hz, hTI, hTO, h1, h2⟩ := st
    obtain ⟨xs, ys, x, y, hqx, hqy, hx, hy⟩ := hg
    obtain ⟨its, rv, p1⟩ := Inv.seqX I hqx
    obtain ⟨its2, rv2, p2⟩ := Inv.seqX I hqy
    obtain ⟨u, hu, ru⟩ := rv.get hx
    obtain ⟨u2, hu2, ru2⟩ := rv2.get hy
    have hh := I.ok.hd hc
    have Z := GoesN.zip2 (elts := elts) (x1 := kk) (pos := tpos) (zip_sep2 (N := n) (fp1 := [a]) (fp2 := [b]) (fun c hc => by rw [List.mem_singleton.mp hc]; exact la) (fun c hc => by rw [List.mem_singleton.mp hc]; exact lb))
      (draws_X (prog := X.prog) (w := X.w) (A := X.A.in1) b1 hh n a (Nat.ne_of_lt la) its.toArray) (draws_X (prog := X.prog) (w := X.w) (A := X.A.in1) b2 hh (n + 1) b (Nat.ne_of_lt (Nat.lt_succ_of_lt lb)) its2.toArray)
    have hi1 : i < its.length := (List.getElem?_eq_some_iff.mp hu).1
    have hi2 : i < its2.length := (List.getElem?_eq_some_iff.mp hu2).1
    refine Z.goes i s _ E (by rw [List.size_toArray, List.size_toArray]; omega) ⟨hz, hTI, hTO, ⟨h1, p1⟩, ⟨h2, p2⟩⟩ fun v h' tk hY st' hk htk => ?_
    obtain ⟨T, x', y', rfl, hT, hx', hy', hTup⟩ := hY
    rw [List.getElem?_toArray, hu] at hx'
    rw [List.getElem?_toArray, hu2] at hy'
    cases hx'
    cases hy'
    obtain ⟨hz', hTI', hTO', ⟨h1', _⟩, ⟨h2', _⟩⟩ := st'
    have new : ObjOk X.prog X.w (upd H T (.tup [x, y])) h' T (.tup [x, y]) := ⟨by show 2 ≤ sizeLine; decide, [u, u2], .cons ru (.cons ru2 .nil), hTup⟩
    have I1 : L2.Inv X pins σ (upd H T (.tup [x, y])) { s with heap := h', toks := tk } :=
      I.turnedNew (t' := tk) (ch := [n + 4, n + 2, n + 3, n, n + 1]) (fun c o hb q => hk c o (fun m => hb (by
        have m' : c = n + 4 ∨ c = n + 3 ∨ c = n ∨ c = n + 1 := by simpa using m
        rcases m' with m | m | m | m <;> simp [m])) q) hf hT new
    refine ⟨.ref T, _, I1, rfl, ⟨T, x, y, rfl, I.hok.fresh hT, rfl, fun l hl => by rw [seqX_inj I hl hqx]; exact hx, fun l hl => by rw [seqX_inj I hl hqy]; exact hy⟩, ⟨hz', hTI', hTO', h1', h2'⟩, fun c hcm => ?_⟩
    have hlt : c < s.heap.objs.size := by
      have e' : c = n + 4 ∨ c = n + 2 ∨ c = n + 3 ∨ c = n ∨ c = n + 1 := by simpa using hcm
      obtain ⟨a1, a2, hTO⟩ := hTO
      rcases e' with q | q | q | q | q
      · rw [q]; exact Heap.lt_size hz
      · rw [q]; exact Heap.lt_size hTI
      · rw [q]; exact Heap.lt_size hTO
      · rw [q]; obtain ⟨_, e1, _⟩ := h1.obj; exact Heap.lt_size e1
      · rw [q]; obtain ⟨_, e1, _⟩ := h2.obj; exact Heap.lt_size e1
    rw [upd_ne (Nat.ne_of_lt (Nat.lt_of_lt_of_le hlt hT))]
    exact (hf c hcm).1
  done := by
    intro X hP hw hK hc i pins s σ H E I hf st hg
    subst hP hw hK
    obtain ⟨hz, hTI, hTO, h1, h2⟩ := st
    obtain ⟨xs, ys, hqx, hqy, hend⟩ := hg
    obtain ⟨its, rv, p1⟩ := Inv.seqX I hqx
    obtain ⟨its2, rv2, p2⟩ := Inv.seqX I hqy
    have hh := I.ok.hd hc
    have Z := GoesN.zip2 (elts := elts) (x1 := kk) (pos := tpos) (zip_sep2 (N := n) (fp1 := [a]) (fp2 := [b]) (fun c hc => by rw [List.mem_singleton.mp hc]; exact la) (fun c hc => by rw [List.mem_singleton.mp hc]; exact lb))
      (draws_X (prog := X.prog) (w := X.w) (A := X.A.in1) b1 hh n a (Nat.ne_of_lt la) its.toArray) (draws_X (prog := X.prog) (w := X.w) (A := X.A.in1) b2 hh (n + 1) b (Nat.ne_of_lt (Nat.lt_succ_of_lt lb)) its2.toArray)
    have en : i = min its.toArray.size its2.toArray.size := by
      rw [List.size_toArray, List.size_toArray, ← rv.length, ← rv2.length]
      exact hend
    rw [en] at h1 h2
    refine Z.stops s _ E ⟨hz, hTI, hTO, ⟨h1, p1⟩, ⟨h2, p2⟩⟩ fun h' tk hk htk => ?_
    exact I.turnedL (t' := tk) (ch := [n + 4, n + 2, n + 3, n, n + 1]) (fun c o hb q => hk c o (fun m => hb (by
        have m' : c = n + 4 ∨ c = n + 3 ∨ c = n ∨ c = n + 1 := by simpa using m
        rcases m' with m | m | m | m <;> simp [m])) q) hf
  self := fun A i s Q E st h => wpAny_pyIter_zip st.1 h
def iZipX (K : PySem.W.Frag) (ta : TA) : TI := fun σ H R => ta σ H fun vs H1 => ∃ b1 b2 a b xs ys, vs = [.ref a, .ref b] ∧ SqX b1 K H1 a xs ∧ SqX b2 K H1 b ys ∧ R (ItzX b1 b2 K a b) H1
theorem pi_zipX {X : Cx} {e e2 : Expr} {ta : TA} {p pos tpos : Pos} {elts : List Expr} {kk : Nat} (hg : Gl X "zip") (hm : X.mg "zip" = none) (ha : PA X [e, e2] ta)
    (hs : starEach [e, e2] X.env = (false, eval e X.env) :: starEach [e2] X.env) (hpl : (backTo pos (starEach [e2] X.env)).any (·.1) = false) :
    PI X (.Tuple elts kk tpos) (.Call (.Name "zip" p) [e, e2] [] pos) (iZipX X.K ta) := by
  refine ⟨fun pins s σ H R I h => ?_⟩
  refine PyProof.Rows.Call_ (ld_blt I hg hm PyProof.Rows.boot_zip (PyProof.Rows.callWith_type1 (thn (ha.run pos pins s σ H _ I h) fun us s1 ⟨vs, H1, I1, r1, q1⟩ => ?_) hs hpl))
  obtain ⟨b1, b2, a, b, xs, ys, ex, hqx, hqy, q⟩ := q1
  subst ex
  obtain ⟨u1, u2, rfl, ru1, ru2⟩ := vals2 r1
  cases ru1
  cases ru2
  obtain ⟨its, rv, p1⟩ := Inv.seqX I1 hqx
  obtain ⟨its2, rv2, p2⟩ := Inv.seqX I1 hqy
  refine zip_begins2 (begins_X b1 a its.toArray) (begins_X b2 b its2.toArray) p1 p2 fun h' hz hTI hTO g1 g2 hsz hk => wpAny_pyIter_zip hz ?_
  have I2 : L2.Inv X pins σ H1 { s1 with heap := h' } := I1.kept (t' := s1.toks) hk
  refine ⟨s1.heap.objs.size + 4, [s1.heap.objs.size + 4, s1.heap.objs.size + 2, s1.heap.objs.size + 3, s1.heap.objs.size, s1.heap.objs.size + 1], _, _, H1, rfl, I2, turn_zipX p1.lt p2.lt, ⟨hz, hTI, ⟨_, _, hTO⟩, itX_new g1, itX_new g2⟩, fun c hcm => ?_, q⟩
  have e' : c = s1.heap.objs.size + 4 ∨ c = s1.heap.objs.size + 2 ∨ c = s1.heap.objs.size + 3 ∨ c = s1.heap.objs.size ∨ c = s1.heap.objs.size + 1 := by simpa using hcm
  have hle : s1.heap.objs.size ≤ c := by
    rcases e' with z | z | z | z | z
    · rw [z]; exact Nat.le_add_right _ _
    · rw [z]; exact Nat.le_add_right _ _
    · rw [z]; exact Nat.le_add_right _ _
    · rw [z]; exact Nat.le_refl _
    · rw [z]; exact Nat.le_add_right _ _
  exact I1.fpOk hle (I1.hok.fresh hle)
def seqD (env : Env') (x : Sl) (q : List D → (Env' → Prop) → Prop) : Prop := match x with
  | .ext (.tup ds) => q ds fun _ => True
  | x => iterD env x q
def dZip (ta tb : DT) : DTI := fun Ex env Q => ta Ex env fun x env1 => tb Ex env1 fun y env2 => seqD env2 x fun xs k1 => seqD env2 y fun ys k2 => Q ((xs.zip ys).map fun p => D.tk [p.1, p.2]) (fun env' => k1 env' ∧ k2 env') env2
def Stands (K : PySem.W.Frag) (b : Bool) (a : Addr) (ds : List D) (k : Env' → Prop) (F0 : Hp) : Prop :=
  ∀ (e : Ent) (env : Env') (T : Tmp) (F : Hp) (σ : L2.St) (H : Hp), Holds K e env T F σ H → Same F0 F → k env → ∃ vs, SqX b K H a vs ∧ Reps K F ds vs
theorem Stands.mono {K : PySem.W.Frag} {b : Bool} {a : Addr} {ds : List D} {k : Env' → Prop} {F0 F1 : Hp} (h : Stands K b a ds k F0) (sm : Same F0 F1) : Stands K b a ds k F1 := fun e env T F σ H hh s kk => h e env T F σ H hh (sm.trans s) kk
theorem Holds.seqD {K : PySem.W.Frag} {e : Ent} {env : Env'} {T : Tmp} {F : Hp} {σ : L2.St} {H : Hp} {v : V} {x : Sl} {q : List D → (Env' → Prop) → Prop} (h : Holds K e env ((v, x) :: T) F σ H) (w : HD.seqD env x q) :
    ∃ b a ds k F1, v = .ref a ∧ q ds k ∧ Same F F1 ∧ Holds K e env T F1 σ H ∧ Stands K b a ds k F1 ∧ k env := by
  have fz : ∀ (ds : List D) (F1 : Hp), Same F F1 → Holds K e env ((v, .ext (.lst ds)) :: T) F1 σ H → q ds (fun _ => True) → ∃ b a ds k F1, v = .ref a ∧ q ds k ∧ Same F F1 ∧ Holds K e env T F1 σ H ∧ Stands K b a ds k F1 ∧ k env := fun ds F1 sm h1 w => by
    obtain ⟨a, vs, rfl, hb, hr⟩ := h1.temps (v, .ext (.lst ds)) List.mem_cons_self
    exact ⟨false, a, ds, _, F1, rfl, w, sm, h1.pop, fun e' env' T' F' σ' H' hh s _ => ⟨vs, SqL.of (hh.fh _ _ (s _ _ hb)), hr.same s⟩, trivial⟩
  cases x with
  | un => exact w.elim
  | reg _ _ => exact w.elim
  | ar i b =>
    have ev : v = .ref b := h.temps (v, .ar i b) List.mem_cons_self
    have w' : (match env[i]? with | some (.reg _ cs) => (match cellOf cs b with | some (.lst ds) => q ds (atC i b ds) | _ => False) | _ => False) := w
    split at w'
    · rename_i d cs hc
      split at w'
      · rename_i ds hd
        refine ⟨false, b, ds, _, F, ev, w', Same.refl _, h.pop, fun e' env' T' F' σ' H' hh s kk => ?_, ⟨d, cs, hc, hd⟩⟩
        obtain ⟨d0, cs0, k1, k2⟩ := kk
        obtain ⟨_, o, hv, vs, rfl, hr⟩ := hh.cell k1 k2
        exact ⟨vs, SqL.of hv, hr⟩
      · exact w'.elim
    · exact w'.elim
  | ext d =>
    cases d with
    | tup ds =>
      obtain ⟨a, vs, rfl, hb, hr⟩ := h.temps (v, .ext (.tup ds)) List.mem_cons_self
      exact ⟨true, a, ds, _, F, rfl, w, Same.refl _, h.pop, fun e' env' T' F' σ' H' hh s _ => ⟨vs, SqT.same hh.fh (SqT.same s hb.sq), hr.same s⟩, trivial⟩
    | lst ds => exact fz ds F (Same.refl _) h w
    | _ => exact w.elim
  | lst b ds =>
    obtain ⟨F1, sm, h1⟩ := h.freezeT
    exact fz ds F1 sm h1 w
  | al i b =>
    have ev : v = .ref b := h.temps (v, .al i b) List.mem_cons_self
    have w' : (match env[i]? with | some (.lst c ds) => c = b ∧ q ds (fun env' => env'[i]? = some (.lst b ds)) | _ => False) := w
    split at w'
    · rename_i c ds hc
      obtain ⟨rfl, w'⟩ := w'
      refine ⟨false, c, ds, _, F, ev, w', Same.refl _, h.pop, fun e' env' T' F' σ' H' hh s kk => ?_, hc⟩
      rcases hh.slots i _ kk with z | ⟨u, hu, e1, e2, vs, hv, hr⟩
      · cases z
      · exact ⟨vs, SqL.of hv, hr⟩
    · exact w'.elim
theorem src_zip {K : PySem.W.Frag} {b1 b2 : Bool} {a b : Addr} {xs ys : List D} {k1 k2 : Env' → Prop} {F0 : Hp} (h1 : Stands K b1 a xs k1 F0) (h2 : Stands K b2 b ys k2 F0) : Src K (ItzX b1 b2 K a b) ((xs.zip ys).map fun p => D.tk [p.1, p.2]) (fun env => k1 env ∧ k2 env) F0 := fun e env T F σ H i hh sm kk => by
  obtain ⟨vs, s1, r1⟩ := h1 e env T F σ H hh sm kk.1
  obtain ⟨us, s2, r2⟩ := h2 e env T F σ H hh sm kk.2
  refine ⟨fun hi => ⟨vs, us, s1, s2, ?_⟩, fun d hd => ?_⟩
  · rw [List.length_map, List.length_zip, r1.length, r2.length] at hi
    exact hi.symm
  · rw [List.getElem?_map] at hd
    cases hz : (xs.zip ys)[i]? with
    | none =>
      rw [hz] at hd
      cases hd
    | some p =>
      rw [hz] at hd
      have ed := Option.some.inj hd
      obtain ⟨hx, hy⟩ := List.getElem?_zip_eq_some.mp hz
      obtain ⟨v, hv, rv⟩ := r1.get hx
      obtain ⟨u, hu, ru⟩ := r2.get hy
      refine ⟨⟨vs, us, v, u, s1, s2, hv, hu⟩, fun x H2 hyl => ?_⟩
      obtain ⟨T', x1, x2, rfl, nT, rfl, f1, f2⟩ := hyl
      have e1 := f1 _ s1
      rw [hv] at e1
      cases e1
      have e2 := f2 _ s2
      rw [hu] at e2
      cases e2
      have g := Grow.frozen (o := .tup [v, u]) hh.fh nT
      refine ⟨_, g, ?_⟩
      rw [← ed]
      exact ⟨T', [v, u], rfl, SqT.of upd_same, ⟨v, [u], rfl, Rep.same g.ff rv, u, [], rfl, Rep.same g.ff ru, rfl⟩⟩
section
variable {G : GG} {N : List Str} {sc : SC} {k : Nat} {a b : Expr} {ta tb : DT} {p pos tpos : Pos} {elts : List Expr} {kk : Nat}
theorem di_zip (ha : DE G N sc k a ta) (hb : DE G N sc k b tb) (hm : G.mg "zip" = none) (hg : GlS sc "zip" := by rfl) (hs : NoStar a [b] := by intro _; rfl) (hs2 : NoStar b [] := by intro _; rfl) (hpl : ∀ env, (backTo pos (starEach [b] env)).any (·.1) = false := by intro _; rfl) :
    DI G N sc k (.Tuple elts kk tpos) (.Call (.Name "zip" p) [a, b] [] pos) (dZip ta tb) := ⟨fun W => by
  obtain ⟨te, p1, i1⟩ := ha.ex W
  obtain ⟨tf, p2, i2⟩ := hb.ex W
  refine ⟨iZipX G.K (tCons te (tCons tf tNil)), fun X S => ?_, fun e Ex hl env T F σ H Q R hh ht hR => ?_⟩
  · rw [← S.K]
    exact pi_zipX (S.gl hg) (by rw [S.mg]; exact hm) (pa_cons (p1 X S) (pa_cons (p2 X S) pa_nil (hs2 _)) (hs _)) (hs _) (hpl _)
  · refine i1 e Ex hl env T F σ H _ _ hh ht fun v H1 F1 env1 x hh1 q1 => ?_
    refine i2 e Ex hl env1 _ F1 σ H1 _ _ hh1 q1 fun u H2 F2 env2 y hh2 q2 => ?_
    obtain ⟨b1, a1, xs, k1, F3, rfl, q3, sm3, hh3, st1, kk1⟩ := (hh2.perm (List.Perm.swap _ _ _)).seqD q2
    obtain ⟨b2, a2, ys, k2, F4, rfl, q4, sm4, hh4, st2, kk2⟩ := hh3.seqD q3
    have st1' := st1.mono sm4
    obtain ⟨vs, s1, _⟩ := st1' e env2 T F4 σ H2 hh4 (Same.refl _) kk1
    obtain ⟨us, s2, _⟩ := st2 e env2 T F4 σ H2 hh4 (Same.refl _) kk2
    exact ⟨b1, b2, a1, a2, vs, us, rfl, s1, s2, hR _ H2 F4 env2 _ _ hh4 (src_zip st1' st2) q4⟩⟩
end
end HD
namespace HD
open PySem L2
def dCB (f : List D → (Sl → Prop) → Prop) (t : DTA) : DT := fun Ex env Q => t Ex env fun xs env1 => wds env1 xs fun ds => f ds fun sl => Q sl env1
theorem im_cb {K : PySem.W.Frag} {W : WX} {r : List V → Hp → VK → Prop} {f : List D → (Sl → Prop) → Prop} {ta : TA} {t : DTA} (hr : Pr K r f) (h : ImA K W ta t) : Im K W (tCB r ta) (dCB f t) := fun e Ex hl env T F σ H Q R hh ht hR => by
  refine h e Ex hl env T F σ H _ _ hh ht fun vs H1 F1 env1 xs le hh1 q1 => ?_
  obtain ⟨ds, rr, q2⟩ := hh1.wds le (fun p hp => List.mem_append_left _ hp) q1
  exact hr F1 H1 vs ds _ R hh1.fh rr q2 ((hh1.sub (List.sublist_append_right _ _)).done hR)
abbrev RR := Program → World → PySem.W.Frag → List V → Hp → VK → Prop
def BR (id : String) (f : List D → (Sl → Prop) → Prop) : Prop := ∃ r : RR, (∀ P w K, Pr K (r P w K) f) ∧ ∀ X : Cx, X.calm = true → X.A.units + 64 < cLine → CallR X (.builtin id) (r X.prog X.w X.K)
def TR (T : String) (f : List D → (Sl → Prop) → Prop) : Prop := ∃ r : RR, (∀ P w K, Pr K (r P w K) f) ∧ ∀ X : Cx, X.calm = true → X.A.units + 64 < cLine → CallR X (.type T) (r X.prog X.w X.K)
section
variable {G : GG} {N : List Str} {sc : SC} {k : Nat} {e : Expr} {es : List Expr} {x : Str} {id T : String} {f : List D → (Sl → Prop) → Prop} {t : DTA} {p pos : Pos}
theorem de_cb (hr : BR id f) (hm : G.mg x = none) (ha : DAs G N sc k (e :: es) t) (hv : bootBuiltins x = some (.builtin id) := by decide +kernel) (hg : GlS sc x := by rfl) (hn : x ≠ "__name__" := by decide) (hdb : (x == ("__debug__" : Str)) = false := by decide)
    (he : NoStar e es := by intro _; rfl) (hpl : ∀ env, (backTo pos (starEach es env)).any (·.1) = false := by intro _; rfl) : DE G N sc k (.Call (.Name x p) (e :: es) [] pos) (dCB f t) := ⟨fun W => by
  obtain ⟨r, h1, h2⟩ := hr
  obtain ⟨ta, p1, i1⟩ := ha.ex W
  refine ⟨tCB (r G.P G.w G.K) ta, fun X S => ?_, im_cb (h1 _ _ _) i1⟩
  have c := h2 X S.calm S.units
  rw [S.prog, S.w, S.K] at c
  exact pe_callB c (S.gl hg) (by rw [S.mg]; exact hm) hv (p1 X S) hn hdb (he _) (hpl _)⟩
theorem de_ct (hr : TR T f) (hm : G.mg x = none) (ha : DAs G N sc k (e :: es) t) (hv : bootBuiltins x = some (.type T) := by decide +kernel) (hg : GlS sc x := by rfl) (hn : x ≠ "__name__" := by decide) (hdb : (x == ("__debug__" : Str)) = false := by decide)
    (he : NoStar e es := by intro _; rfl) (hpl : ∀ env, (backTo pos (starEach es env)).any (·.1) = false := by intro _; rfl) : DE G N sc k (.Call (.Name x p) (e :: es) [] pos) (dCB f t) := ⟨fun W => by
  obtain ⟨r, h1, h2⟩ := hr
  obtain ⟨ta, p1, i1⟩ := ha.ex W
  refine ⟨tCB (r G.P G.w G.K) ta, fun X S => ?_, im_cb (h1 _ _ _) i1⟩
  have c := h2 X S.calm S.units
  rw [S.prog, S.w, S.K] at c
  exact pe_callTy c (S.gl hg) (by rw [S.mg]; exact hm) hv (p1 X S) hn hdb (he _) (hpl _)⟩
end
def fLen : List D → (Sl → Prop) → Prop
  | [.lst ds], Q => Q (.ext (.int ds.length))
  | [.tup ds], Q => Q (.ext (.int ds.length))
  | [.fz ds], Q => Q (.ext (.int ds.length))
  | [.tk ds], Q => Q (.ext (.int ds.length))
  | [.str z], Q => z.length ≤ sizeLine ∧ Q (.ext (.int z.length))
  | _, _ => False
theorem b_len : BR "len" fLen := ⟨fun _ _ K xs H Q => (∃ p ys, xs = [.ref p] ∧ (SqL K H p ys ∨ SqT K H p ys) ∧ Q (.int ys.length) H) ∨ (∃ z, xs = [.str z] ∧ z.length ≤ sizeLine ∧ Q (.int z.length) H), fun _ _ K F H vs ds Q R fh hr hf ha => by
    unfold fLen at hf
    split at hf
    · obtain ⟨v, rfl, r⟩ := hr.one
      obtain ⟨a, vs, rfl, e1, r1⟩ := r.lst fh
      refine .inl ⟨a, vs, rfl, .inl (SqL.of e1), ?_⟩
      rw [← r1.length]
      exact ha.int fh hf
    · obtain ⟨v, rfl, r⟩ := hr.one
      obtain ⟨a, vs, rfl, e1, _, r1⟩ := r.tup fh
      refine .inl ⟨a, vs, rfl, .inr e1, ?_⟩
      rw [← r1.length]
      exact ha.int fh hf
    · obtain ⟨v, rfl, r⟩ := hr.one
      obtain ⟨a, vs, rfl, e1, r1⟩ := r.fz fh
      refine .inl ⟨a, vs, rfl, .inl e1, ?_⟩
      rw [← r1.length]
      exact ha.int fh hf
    · obtain ⟨v, rfl, r⟩ := hr.one
      obtain ⟨a, vs, rfl, e1, _, r1⟩ := r.tk fh
      refine .inl ⟨a, vs, rfl, .inr e1, ?_⟩
      rw [← r1.length]
      exact ha.int fh hf
    · obtain ⟨v, rfl, r⟩ := hr.one
      exact .inr ⟨_, by rw [r.str], hf.1, ha.int fh hf.2⟩
    · exact hf.elim, fun X _ _ => call_len_seq.or call_len_str⟩
def fMin : List D → (Sl → Prop) → Prop
  | [.int i, .int j], Q => Q (.ext (.int (if j < i then j else i)))
  | [.lst ds], Q => ∃ ns : List Int, ds = ns.map D.int ∧ ns ≠ [] ∧ ∀ m, m ∈ ns → (∀ y, y ∈ ns → m ≤ y) → Q (.ext (.int m))
  | _, _ => False
def fMax : List D → (Sl → Prop) → Prop
  | [.int i, .int j], Q => Q (.ext (.int (if j > i then j else i)))
  | [.lst ds], Q => ∃ ns : List Int, ds = ns.map D.int ∧ ns ≠ [] ∧ ∀ m, m ∈ ns → (∀ y, y ∈ ns → y ≤ m) → Q (.ext (.int m))
  | _, _ => False
def fSum : List D → (Sl → Prop) → Prop
  | [.lst ds], Q => ∃ ns : List Int, ds = ns.map D.int ∧ Q (.ext (.int ns.sum))
  | _, _ => False
theorem b_sum : BR "sum" fSum := ⟨fun _ _ K => rSum K, fun _ _ K F H vs ds Q R fh hr hf ha => by
    unfold fSum at hf
    split at hf
    · obtain ⟨v, rfl, r⟩ := hr.one
      obtain ⟨ns, rfl, q⟩ := hf
      obtain ⟨a, vs, rfl, e1, r1⟩ := r.lst fh
      have z := r1.ints
      subst z
      exact ⟨a, ns, rfl, SqL.of e1, ha.int fh q⟩
    · exact hf.elim, fun X hc _ => cr_sum hc⟩
def fAll : List D → (Sl → Prop) → Prop
  | [.lst ds], Q => ∃ bs : List Bool, ds = bs.map D.bl ∧ Q (.ext (.bl (bs.all id)))
  | _, _ => False
def fAny : List D → (Sl → Prop) → Prop
  | [.lst ds], Q => ∃ bs : List Bool, ds = bs.map D.bl ∧ Q (.ext (.bl (bs.any id)))
  | _, _ => False
theorem b_all : BR "all" fAll := ⟨fun _ _ K => rAll K, fun _ _ K F H vs ds Q R fh hr hf ha => by
    unfold fAll at hf
    split at hf
    · obtain ⟨v, rfl, r⟩ := hr.one
      obtain ⟨ns, rfl, q⟩ := hf
      obtain ⟨a, vs, rfl, e1, r1⟩ := r.lst fh
      have z := r1.bls
      subst z
      exact ⟨a, ns, rfl, SqL.of e1, ha.bl fh q⟩
    · exact hf.elim, fun X hc _ => cr_all hc⟩
def fSorted : List D → (Sl → Prop) → Prop
  | [.lst ds], Q => ∃ ns : List Int, ds = ns.map D.int ∧ ∀ (ns' : List Int) (a : Addr), ns'.Perm ns → ns'.Pairwise (· ≤ ·) → Q (.lst a (ns'.map D.int))
  | _, _ => False
theorem b_sorted : BR "sorted" fSorted := ⟨fun _ _ K => rSortedI K, fun _ _ K F H vs ds Q R fh hr hf ha => by
    unfold fSorted at hf
    split at hf
    · obtain ⟨v, rfl, r⟩ := hr.one
      obtain ⟨ns, rfl, q⟩ := hf
      obtain ⟨a, vs, rfl, e1, r1⟩ := r.lst fh
      have z := r1.ints
      subst z
      exact ⟨a, ns, rfl, SqL.of e1, fun ns' p h1 h2 n => ha.lst fh n (Reps.of_ints ns') (q ns' p h1 h2)⟩
    · exact hf.elim, fun X _ _ => cr_sortedI⟩
def fTuple : List D → (Sl → Prop) → Prop
  | [.lst ds], Q => Q (.ext (.tup ds))
  | [.tup ds], Q => Q (.ext (.tup ds))
  | _, _ => False
theorem t_tuple : TR "tuple" fTuple := ⟨fun _ _ K xs H Q => ∃ p ys, xs = [.ref p] ∧ ((SqL K H p ys ∧ newT H ys Q) ∨ (SqT K H p ys ∧ Q (.ref p) H)), fun _ _ K F H vs ds Q R fh hr hf ha => by
    unfold fTuple at hf
    split at hf
    · obtain ⟨v, rfl, r⟩ := hr.one
      obtain ⟨a, vs, rfl, e1, r1⟩ := r.lst fh
      exact ⟨a, vs, rfl, .inl ⟨SqL.of e1, ha.tup fh r1 hf⟩⟩
    · obtain ⟨v, rfl, r⟩ := hr.one
      obtain ⟨a, vs, rfl, e1, e2, r1⟩ := r.tup fh
      exact ⟨a, vs, rfl, .inr ⟨e1, ha.ext (d := .tup _) fh ⟨a, vs, rfl, e2, r1⟩ hf⟩⟩
    · exact hf.elim, fun X _ _ => call_tupleF⟩
def fList : List D → (Sl → Prop) → Prop
  | [.lst ds], Q => ∀ a, Q (.lst a ds)
  | [.tup ds], Q => ∀ a, Q (.lst a ds)
  | [.fz ds], Q => ∀ a, Q (.lst a ds)
  | _, _ => False
theorem t_list : TR "list" fList := ⟨fun _ _ K xs H Q => ∃ p ys, xs = [.ref p] ∧ (SqL K H p ys ∨ SqT K H p ys) ∧ ∀ l, H l = none → Q (.ref l) (upd H l (.lst ys)), fun _ _ K F H vs ds Q R fh hr hf ha => by
    unfold fList at hf
    split at hf
    · obtain ⟨v, rfl, r⟩ := hr.one
      obtain ⟨a, vs, rfl, e1, r1⟩ := r.lst fh
      exact ⟨a, vs, rfl, .inl (SqL.of e1), fun l n => ha.lst fh n r1 (hf l)⟩
    · obtain ⟨v, rfl, r⟩ := hr.one
      obtain ⟨a, vs, rfl, e1, e2, r1⟩ := r.tup fh
      exact ⟨a, vs, rfl, .inr e1, fun l n => ha.lst fh n r1 (hf l)⟩
    · obtain ⟨v, rfl, r⟩ := hr.one
      obtain ⟨a, vs, rfl, e1, r1⟩ := r.fz fh
      exact ⟨a, vs, rfl, .inl e1, fun l n => ha.lst fh n r1 (hf l)⟩
    · exact hf.elim, fun X _ _ => call_list_of⟩
def D.ty : D → String
  | .non => "NoneType"
  | .bl _ => "bool"
  | .int _ => "int"
  | .str _ => "str"
  | .lst _ => "list"
  | .fz _ => "list"
  | .tup _ => "tuple"
  | .tk _ => "tuple"
  | .val _ => "?"
  | .exc _ => "?"
  | .glo _ => "?"
  | .dk _ _ => "?"
  | .dt _ _ => "?"
theorem tyX_of {K : PySem.W.Frag} {H : Hp} {d : D} {v : V} (n : d.noVal = true) (h : Rep K H d v) : TyX K H v (.type d.ty) ∨ ∃ ds, d = .fz ds := by
  cases d with
  | non =>
    have e : v = .non := h
    rw [e]
    exact .inl (.base .non)
  | bl b =>
    have e : v = .bl b := h
    rw [e]
    exact .inl (.base (.bl b))
  | int b =>
    have e : v = .int b := h
    rw [e]
    exact .inl (.base (.int b))
  | str b =>
    have e : v = .str b := h
    rw [e]
    exact .inl (.base (.str b))
  | val u => cases n
  | exc c => cases n
  | glo c => cases n
  | dk _ _ => cases n
  | dt _ _ => cases n
  | fz ds => exact .inr ⟨ds, rfl⟩
  | lst ds =>
    obtain ⟨a, xs, rfl, hs, _⟩ := h
    exact .inl (.base (.lst hs))
  | tup ds =>
    obtain ⟨a, xs, rfl, hs, _⟩ := h
    left
    rcases hs.sq with (hs | ⟨o, hs⟩) | ⟨o, its, m, hs, hc, _⟩
    · exact .base (.tup hs)
    · exact .fTuple hs
    · exact .kTuple hs hc
  | tk ds =>
    obtain ⟨a, xs, rfl, hs, _⟩ := h
    left
    rcases hs with (hs | ⟨o, hs⟩) | ⟨o, its, m, hs, hc, _⟩
    · exact .base (.tup hs)
    · exact .fTuple hs
    · exact .kTuple hs hc
theorem tyX_T {K : PySem.W.Frag} {F H : Hp} {d : D} {v : V} (fh : Same F H) (n : d.noVal = true) (h : RepT K F H d v) (nf : ∀ ds, d ≠ .fz ds) : TyX K H v (.type d.ty) := by
  rcases tyX_of n (h.rep fh) with z | ⟨ds, z⟩
  · exact z
  · exact absurd z (nf ds)
def rIsiS (K : PySem.W.Frag) : List V → Hp → VK → Prop := fun xs H Q => ∃ (x : V) (tp : Addr) (cs : List V) (t : Value) (us : List Value) (b : Bool), xs = [x, .ref tp] ∧ SqT K H tp cs ∧ Paired ClsV cs us ∧ TyX K H x t ∧ PySem.W.kitAny K t us = some b ∧ Q (.bl b) H
theorem call_isiS {X : Cx} : CallR X (.builtin "isinstance") (rIsiS X.K) := by
  intro pins s σ H xs us Q I r h
  obtain ⟨x, tp, cs, t, ws, b, rfl, hT, k, ty, e, q⟩ := h
  obtain ⟨u1, u2, rfl, r1, r2⟩ := vals2 r
  cases (show u2 = Value.ref tp from r2)
  obtain ⟨P, Z, p, hx⟩ := kit_of I r1 ty
  obtain ⟨its, rv, ⟨o, h1, h2, n, h3⟩, _⟩ := I.tuple hT
  have e3 := ClsV.all k rv
  subst e3
  obtain ⟨oc, od, dt, sl⟩ := o
  simp only at h2 h3
  subst h2 h3
  exact PySem.W.kia_tup Z I.kIn p h1 e hx fun tk => ⟨.bl b, H, I.tok tk, rfl, q⟩
def D.isFz : D → Bool
  | .fz _ => true
  | _ => false
def fIsi : List D → (Sl → Prop) → Prop
  | [d, .val (.ty T)], Q => d.noVal = true ∧ d.isFz = false ∧ ∃ b, kitB d.ty T = some b ∧ Q (.ext (.bl b))
  | [d, .tup [.val (.ty T), .val (.ty U)]], Q => d.noVal = true ∧ d.isFz = false ∧ ∃ b c, kitB d.ty T = some b ∧ kitB d.ty U = some c ∧ Q (.ext (.bl (b || c)))
  | _, _ => False
theorem b_isi : BR "isinstance" fIsi := ⟨fun _ _ K xs H Q => rIsi K xs H Q ∨ rIsiS K xs H Q, fun _ _ K F H vs ds Q R fh hr hf ha => by
    unfold fIsi at hf
    split at hf
    · rename_i d T
      obtain ⟨v, u, rfl, r1, r2⟩ := hr.two
      obtain ⟨n, nf, b, hb, q⟩ := hf
      rw [r2.val]
      exact .inl ⟨v, _, _, _, b, rfl, .ty T, tyX_T fh n r1 (fun ds z => by subst z; cases nf), kit_ty hb, ha.bl fh q⟩
    · rename_i d T U
      obtain ⟨v, u, rfl, r1, r2⟩ := hr.two
      obtain ⟨n, nf, b, c, hb, hc, q⟩ := hf
      obtain ⟨a, vs, rfl, e1, _, rr⟩ := r2.tup fh
      obtain ⟨v1, w1, rfl, h1, h2⟩ := rr
      obtain ⟨v2, w2, rfl, h3, h4⟩ := h2
      have z1 : v1 = .ty T := h1
      have z2 : v2 = .ty U := h3
      have z3 : w2 = [] := h4
      subst z1 z2 z3
      refine .inr ⟨v, a, _, _, [.type T, .type U], (b || c), rfl, e1, .cons (.ty T) (.cons (.ty U) .nil), tyX_T fh n r1 (fun ds z => by subst z; cases nf), ?_, ha.bl fh q⟩
      cases b with
      | true => exact kitAny_cons (kit_ty hb) (fun z => nomatch z) (fun _ => rfl)
      | false => exact kitAny_cons (kit_ty hb) (fun _ => kitAny_cons (kit_ty hc) (fun z => by subst z; exact kitAny_nil) (fun z => by subst z; rfl)) (fun z => nomatch z)
    · exact hf.elim, fun X _ _ => call_isi.or call_isiS⟩
def fStr : List D → (Sl → Prop) → Prop
  | [.int i], Q => i.natAbs.log2 < 1920 ∧ Q (.ext (.str (toString i)))
  | _, _ => False
theorem t_str : TR "str" fStr := ⟨fun _ _ K xs H Q => ∃ i, xs = [.int i] ∧ i.natAbs.log2 < 1920 ∧ Q (.str (toString i)) H, fun _ _ K F H vs ds Q R fh hr hf ha => by
    unfold fStr at hf
    split at hf
    · obtain ⟨v, rfl, r⟩ := hr.one
      exact ⟨_, by rw [r.int], hf.1, ha.str fh hf.2⟩
    · exact hf.elim, fun X _ _ => call_str_int⟩
section
variable {G : GG} {N : List Str} {sc : SC} {k : Nat} {a b : Expr} {ta tb : DT} {p p2 pos pos2 : Pos}
structure DRg (G : GG) (N : List Str) (sc : SC) (k : Nat) (e : Expr) (t : DX → Env' → (Int → Int → Env' → Prop) → Prop) : Prop where
  ex : ∀ W : WX, ∃ te, (∀ X, Sit G N sc W k X → PRg X e te) ∧ ∀ (e : Ent) (Ex : DX), Link G.K e W Ex → ∀ (env : Env') (T : Tmp) (F : Hp) (σ : L2.St) (H : Hp) (Q : Int → Int → Env' → Prop) (R : Int → Int → Hp → Prop),
    Holds G.K e env T F σ H → t Ex env Q → (∀ i j H' F' env', Holds G.K e env' T F' σ H' → Q i j env' → R i j H') → te σ H R
def dRg1 (t : DT) : DX → Env' → (Int → Int → Env' → Prop) → Prop := fun Ex env Q => t Ex env fun x env1 => match x with
  | .ext (.int n) => Q 0 n env1
  | _ => False
def dRg2 (t u : DT) : DX → Env' → (Int → Int → Env' → Prop) → Prop := fun Ex env Q => t Ex env fun x env1 => u Ex env1 fun y env2 => match x, y with
  | .ext (.int n), .ext (.int m) => Q n m env2
  | _, _ => False
theorem drg_1 (h : DE G N sc k a ta) (hm : G.mg "range" = none) (hg : GlS sc "range" := by rfl) (na : NoStar a [] := by intro _; rfl) : DRg G N sc k (.Call (.Name "range" p) [a] [] pos) (dRg1 ta) := ⟨fun W => by
  obtain ⟨te, p1, i1⟩ := h.ex W
  refine ⟨tRg1 te, fun X S => prg_1 (S.gl hg) (by rw [S.mg]; exact hm) (p1 X S) (na _), fun e Ex hl env T F σ H Q R hh ht hR => ?_⟩
  refine i1 e Ex hl env T F σ H _ _ hh ht fun v H1 F1 env1 x hh1 q1 => ?_
  cases x with
  | ext d =>
    cases d with
    | int n => exact ⟨n, hh1.temps (v, .ext (.int n)) List.mem_cons_self, hR 0 n H1 F1 env1 hh1.pop q1⟩
    | _ => exact q1.elim
  | _ => exact q1.elim⟩
theorem Reps.rg {K : PySem.W.Frag} {F : Hp} (lo hi : Int) : Reps K F (rgD lo hi) (rgV lo hi) := by
  unfold rgD rgV
  refine Reps.of_get (by rw [List.length_map, List.length_map]) fun i d v h1 h2 => ?_
  rw [List.getElem?_map] at h1 h2
  cases e : (List.range (hi - lo).toNat)[i]? with
  | none =>
    rw [e] at h1
    cases h1
  | some j =>
    rw [e] at h1 h2
    cases h1
    cases h2
    exact rfl
def dLstRg (t : DX → Env' → (Int → Int → Env' → Prop) → Prop) : DT := fun Ex env Q => t Ex env fun lo hi env1 => RgOk lo hi ∧ ∀ a, Q (.lst a (rgD lo hi)) env1
def dTupRg (t : DX → Env' → (Int → Int → Env' → Prop) → Prop) : DT := fun Ex env Q => t Ex env fun lo hi env1 => RgOk lo hi ∧ Q (.ext (.tup (rgD lo hi))) env1
theorem de_listRg {e : Expr} {t : DX → Env' → (Int → Int → Env' → Prop) → Prop} (h : DRg G N sc k e t) (hm : G.mg "list" = none) (hg : GlS sc "list" := by rfl) (na : NoStar e [] := by intro _; rfl) : DE G N sc k (.Call (.Name "list" p) [e] [] pos) (dLstRg t) := ⟨fun W => by
  obtain ⟨te, p1, i1⟩ := h.ex W
  refine ⟨tLstRg te, fun X S => pe_listRg S.calm (S.gl hg) (by rw [S.mg]; exact hm) (p1 X S) (na _), fun e Ex hl env T F σ H Q R hh ht hR => ?_⟩
  refine i1 e Ex hl env T F σ H _ _ hh ht fun lo hi H1 F1 env1 hh1 q1 => ⟨q1.1, fun q n => ?_⟩
  exact (hh1.done hR).lst hh1.fh n (Reps.rg lo hi) (q1.2 q)⟩
end
end HD
namespace HD
open PySem PyProof.Rows L2
section
variable {X : Cx} {o e : Expr} {es : List Expr} {to : TE} {t : TA} {name : Str} {apos cpos : Pos}
abbrev FewArgs (o : Expr) (name : Str) (e : Expr) (es : List Expr) (cpos : Pos) : Prop := ∀ env, attributeBase o name env (eval o env) = eval o env ∧
  ((backTo cpos (starEach (e :: es) env)).all (fun x => !x.1) && (backToKw cpos (keywordEach [] env)).all (fun x => x.1.isSome) && decide ((e :: es).length + ([] : List Keyword).length + (if ([] : List Keyword).isEmpty then 0 else 1) < 30)) = true ∧
  starEach (e :: es) env = (false, eval e env) :: starEach es env ∧ (backTo cpos (starEach es env)).any (·.1) = false
def tIndex (K : PySem.W.Frag) (rT rL : V → List V → Hp → VK → Prop) (to : TE) (t : TA) : TE := fun σ H Q => to σ H fun x H1 => ((∃ p xs, x = .ref p ∧ TupD K H1 p xs) ∧ t σ H1 fun xs H2 => rT x xs H2 Q) ∨ ((∃ p xs, x = .ref p ∧ SqL K H1 p xs) ∧ t σ H1 fun xs H2 => rL x xs H2 Q)
theorem pe_bmX {idT idL : String} {rT rL : V → List V → Hp → VK → Prop} (sT : Slot "tuple" name idT) (sL : Slot "list" name idL) (tyT : typeOf (.builtin idT) = pure (.type "method_descriptor")) (tyL : typeOf (.builtin idL) = pure (.type "method_descriptor")) (mT : MtR X idT rT) (mL : MtR X idL rL)
    (ho : PE X o to) (ha : PA X (e :: es) t) (hw : FewArgs o name e es cpos) (hline : (apos.endLine == cpos.line) = true) : PE X (.Call (.Attribute o name apos) (e :: es) [] cpos) (tIndex X.K rT rL to t) := by
  obtain ⟨hbase, hfew, hs, hplain⟩ := hw X.env
  refine ⟨fun pins s σ H Q I h => ?_⟩
  refine wpAny_Call_method_late hbase hfew hline rfl (thn (ho.run pins s σ H _ I h) fun v s1 ⟨x, H1, I1, r1, q1⟩ => ?_)
  rcases q1 with ⟨⟨p, xs, rfl, hT⟩, q1⟩ | ⟨⟨p, xs, rfl, hL⟩, q1⟩
  · obtain ⟨its, _, pt, _⟩ := I1.tuple hT.sq
    cases r1
    refine ⟨"tuple", idT, PySem.F.plainAttrs_tuple, sT, tyT, pt.typeIs, fun a ea => ?_, ?_⟩
    · cases ea
      exact hT.noDict I1
    · have hA := ha.run cpos pins s1 σ H1 _ I1 q1
      rw [hs] at hA ⊢
      refine Calls.callWith_builtin (by show (false || (backTo cpos (starEach es X.env)).any (·.1)) = false; rw [hplain] <;> rfl) (Calls.evalArgs_plain ?_)
      exact thn hA fun us s2 ⟨vs, H2, I2, r2, q2⟩ => mT pins s2 σ H2 (.ref p) vs _ us Q I2 rfl r2 q2
  · have ty : tyV X.K "list" (.ref p) H1 := .inl ⟨rfl, xs, hL⟩
    obtain ⟨h1, h2⟩ := tyV_is I1 r1 ty
    refine ⟨"list", idL, PySem.F.plainAttrs_list, sL, tyL, h1, h2, ?_⟩
    have hA := ha.run cpos pins s1 σ H1 _ I1 q1
    rw [hs] at hA ⊢
    refine Calls.callWith_builtin (by show (false || (backTo cpos (starEach es X.env)).any (·.1)) = false; rw [hplain] <;> rfl) (Calls.evalArgs_plain ?_)
    exact thn hA fun us s2 ⟨vs, H2, I2, r2, q2⟩ => mL pins s2 σ H2 _ vs _ us Q I2 r1 r2 q2
def rIndexT (K : PySem.W.Frag) : V → List V → Hp → VK → Prop := fun x xs H Q => ∃ (a : Addr) (ys : List V) (y : V) (j : Nat) (z : V), x = V.ref a ∧ xs = [y] ∧ SqT K H a ys ∧ flatV y = true ∧ ys.all flatV = true ∧ ys[j]? = some z ∧ eqV z y = true ∧
  (∀ m z', m < j → ys[m]? = some z' → eqV z' y = false) ∧ Q (.int (j : Nat)) H
theorem mt_indexT : MtR X "tuple.index" (rIndexT X.K) := by
  intro pins s σ H x xs v us Q I rx rs h
  obtain ⟨p, ys, y, j, z, rfl, rfl, hq, fy, fys, hz, hit, hno, q⟩ := h
  cases rx
  obtain ⟨u, rfl, ru⟩ := vals1 rs
  obtain ⟨its, r, pl, _⟩ := I.tuple hq
  obtain ⟨⟨cls, dd, dt, sl⟩, ho, hc, n, hd⟩ := pl
  simp only at hc hd
  subst hc
  subst hd
  have hl : its.toArray.size = ys.length := by rw [List.size_toArray, ← r.length]
  have hj : j < its.toArray.size := by rw [hl]; exact (List.getElem?_eq_some_iff.mp hz).1
  have key : ∀ (m : Nat) (hm : m < its.toArray.size) (w : V), ys[m]? = some w → eqU y its.toArray[m] = eqV w y := fun m hm w hw => by
    obtain ⟨iv, hiv, riv⟩ := r.get hw
    have e : its.toArray[m] = iv := by
      have e2 := (List.getElem?_eq_some_iff.mp hiv).2
      rw [← e2]
      simp
    rw [e]
    exact eqU_of riv (List.all_eq_true.mp fys w (List.mem_of_getElem? hw))
  refine call_meets PySem.F.slot_tuple_index ⟨_, ho, rfl⟩ PySem.F.entry_tuple_index (PySem.F.args_tuple_index_2 _ _) (TI.tuple_indexAt p its.toArray n dd sl u (eqU y) j hj ?_ ?_)
    ⟨ho, fun w hw => mem_eqAt ru fy r fys w (by simpa using hw), ⟨.int (j : Nat), H, I.tok _, ⟨_, rfl⟩, q⟩⟩
  · rw [key j hj z hz]
    exact hit
  · intro m hm hmj
    have hm' : m < ys.length := by rw [← hl]; exact hm
    rw [key m hm ys[m] (List.getElem?_eq_getElem hm')]
    exact hno m _ hmj (List.getElem?_eq_getElem hm')
end
def D.at? (d : D) (ds : List D) : Option Nat := ds.findIdx? fun z => eqV z.toV d.toV
def D.isSq : D → Bool
  | .tup _ => true
  | .lst _ => true
  | _ => false
def fIdx (d d' : D) (q : Sl → Prop) : Prop := match d with
  | .tup ds => d'.flat = true ∧ ds.all D.flat = true ∧ ∃ j, d'.at? ds = some j ∧ q (.ext (.int (j : Nat)))
  | .lst ds => d'.flat = true ∧ ds.all D.flat = true ∧ ∃ j, d'.at? ds = some j ∧ q (.ext (.int (j : Nat)))
  | _ => False
def dIndex (to ta : DT) : DT := fun Ex env Q => to Ex env fun x env1 => wd env1 x (fun d => d.isSq = true) ∧ ta Ex env1 fun y env2 => wd env2 x fun d => wd env2 y fun d' => fIdx d d' fun sl => Q sl env2
theorem at?_spec {K : PySem.W.Frag} {F : Hp} {d : D} {ds : List D} {vs : List V} {j : Nat} (r : Reps K F ds vs) (fd : d.flat = true) (fs : ds.all D.flat = true) (h : d.at? ds = some j) :
    flatV d.toV = true ∧ vs.all flatV = true ∧ ∃ z, vs[j]? = some z ∧ eqV z d.toV = true ∧ ∀ m z', m < j → vs[m]? = some z' → eqV z' d.toV = false := by
  obtain ⟨e1, e2⟩ := flat_reps r fs
  unfold D.at? at h
  obtain ⟨hj, h1, h2⟩ := List.findIdx?_eq_some_iff_getElem.mp h
  have fv : flatV d.toV = true := by
    cases d <;> first
      | rfl
      | exact nomatch fd
  refine ⟨fv, e2, ds[j].toV, ?_, h1, fun m z' hm hz => ?_⟩
  · rw [e1, List.getElem?_map, List.getElem?_eq_getElem hj]
    rfl
  · rw [e1, List.getElem?_map] at hz
    have hm' : m < ds.length := Nat.lt_trans hm hj
    rw [List.getElem?_eq_getElem hm'] at hz
    cases hz
    have z := h2 m hm
    simpa using z
section
variable {G : GG} {N : List Str} {sc : SC} {k : Nat} {a b : Expr} {ta tb : DT} {apos cpos p p2 pos pos2 : Pos}
theorem de_index (ha : DE G N sc k a ta) (hb : DE G N sc k b tb) (hw : FewArgs a "index" b [] cpos := by intro _; exact ⟨rfl, rfl, rfl, rfl⟩) (hline : (apos.endLine == cpos.line) = true := by rfl) : DE G N sc k (.Call (.Attribute a "index" apos) [b] [] cpos) (dIndex ta tb) := ⟨fun W => by
  obtain ⟨te, p1, i1⟩ := ha.ex W
  obtain ⟨tf, p2, i2⟩ := hb.ex W
  refine ⟨tIndex G.K (rIndexT G.K) (rIndex G.K) te (tCons tf tNil), fun X S => ?_, fun e Ex hl env T F σ H Q R hh ht hR => ?_⟩
  · rw [← S.K]
    exact pe_bmX PySem.F.slot_tuple_index PySem.F.slot_list_index PySem.F.type_tuple_index PySem.F.type_list_index mt_indexT mt_index (p1 X S) (pa_cons (p2 X S) pa_nil (hw X.env).2.2.1) hw hline
  · refine i1 e Ex hl env T F σ H _ _ hh ht fun v H1 F1 env1 x hh1 q1 => ?_
    obtain ⟨q0, q1⟩ := q1
    obtain ⟨d0, rd0, _⟩ := hh1.wd (v := v) (sl := x) List.mem_cons_self q0
    have finT : ∀ (u : V) (H2 F2 : Hp) (env2 : Env') (y : Sl) (ds : List D), Holds G.K e env2 ((u, y) :: (v, x) :: T) F2 σ H2 → RepT G.K F2 H2 (.tup ds) v → (HD.wd env2 y fun d' => fIdx (.tup ds) d' fun sl => Q sl env2) → rIndexT G.K v [u] H2 R := fun u H2 F2 env2 y ds hh2 rd q3 => by
      obtain ⟨d', rd', f1, f2, j, hj, q5⟩ := hh2.wd (v := u) (sl := y) List.mem_cons_self q3
      obtain ⟨c, vs, rfl, e1, _, r1⟩ := rd.tup hh2.fh
      obtain ⟨x1, _⟩ := flat_rep (rd'.rep hh2.fh) f1
      obtain ⟨g1, g2, z, g3, g4, g5⟩ := at?_spec r1 f1 f2 hj
      rw [x1]
      exact ⟨c, vs, _, j, z, rfl, rfl, e1, g1, g2, g3, g4, g5, (hh2.pop.pop.done hR).int hh2.fh q5⟩
    have finL : ∀ (u : V) (H2 F2 : Hp) (env2 : Env') (y : Sl) (ds : List D), Holds G.K e env2 ((u, y) :: (v, x) :: T) F2 σ H2 → RepT G.K F2 H2 (.lst ds) v → (HD.wd env2 y fun d' => fIdx (.lst ds) d' fun sl => Q sl env2) → rIndex G.K v [u] H2 R := fun u H2 F2 env2 y ds hh2 rd q3 => by
      obtain ⟨d', rd', f1, f2, j, hj, q5⟩ := hh2.wd (v := u) (sl := y) List.mem_cons_self q3
      obtain ⟨c, vs, rfl, e1, r1⟩ := rd.lst hh2.fh
      obtain ⟨x1, _⟩ := flat_rep (rd'.rep hh2.fh) f1
      obtain ⟨g1, g2, z, g3, g4, g5⟩ := at?_spec r1 f1 f2 hj
      rw [x1]
      exact ⟨c, vs, _, j, z, rfl, rfl, SqL.of e1, g1, g2, g3, g4, g5, (hh2.pop.pop.done hR).int hh2.fh q5⟩
    have never : ∀ (d : D), (∀ ds, d ≠ .tup ds) → (∀ ds, d ≠ .lst ds) → ∀ d' (q : Sl → Prop), ¬ fIdx d d' q := fun d h1 h2 d' q z => by
      cases d <;> first
        | exact h1 _ rfl
        | exact h2 _ rfl
        | exact z
    cases x with
    | un => exact q0.elim
    | ext d =>
      have rd : Rep G.K F1 d v := hh1.temps (v, .ext d) List.mem_cons_self
      by_cases ht : ∃ ds, d = .tup ds
      · obtain ⟨ds, rfl⟩ := ht
        obtain ⟨c, vs, rfl, e2, _⟩ := rd
        refine .inl ⟨⟨c, vs, rfl, TupD.same hh1.fh e2⟩, ?_⟩
        exact i2 e Ex hl env1 _ F1 σ H1 _ _ hh1 q1 fun u H2 F2 env2 y hh2 q2 => finT u H2 F2 env2 y ds hh2 (.inl (hh2.temps (_, .ext (.tup ds)) (List.mem_cons_of_mem _ List.mem_cons_self))) q2
      · by_cases hl' : ∃ ds, d = .lst ds
        · obtain ⟨ds, rfl⟩ := hl'
          obtain ⟨c, vs, rfl, e2, _⟩ := rd
          refine .inr ⟨⟨c, vs, rfl, SqL.of (hh1.fh _ _ e2)⟩, ?_⟩
          exact i2 e Ex hl env1 _ F1 σ H1 _ _ hh1 q1 fun u H2 F2 env2 y hh2 q2 => finL u H2 F2 env2 y ds hh2 (.inl (hh2.temps (_, .ext (.lst ds)) (List.mem_cons_of_mem _ List.mem_cons_self))) q2
        · have q0' : d.isSq = true := q0
          cases d <;> first
            | exact absurd ⟨_, rfl⟩ ht
            | exact absurd ⟨_, rfl⟩ hl'
            | exact nomatch q0'
    | lst b ds =>
      obtain ⟨rfl, _, vs, hv, _⟩ := hh1.temps (v, .lst b ds) List.mem_cons_self
      refine .inr ⟨⟨b, vs, rfl, SqL.of hv⟩, ?_⟩
      refine i2 e Ex hl env1 _ F1 σ H1 _ _ hh1 q1 fun u H2 F2 env2 y hh2 q2 => ?_
      obtain ⟨_, _, us, hu, hr⟩ := hh2.temps (V.ref b, .lst b ds) (List.mem_cons_of_mem _ List.mem_cons_self)
      exact finL u H2 F2 env2 y ds hh2 (.inr ⟨b, ds, us, rfl, rfl, hu, hr⟩) q2
    | reg _ _ => exact q0.elim
    | ar i b =>
      obtain rfl : v = .ref b := hh1.temps (v, .ar i b) List.mem_cons_self
      have q0' : (match env1[i]? with | some (.reg _ cs) => (match cellOf cs b with | some (.lst ds) => (D.lst ds).isSq = true | _ => False) | _ => False) := q0
      split at q0'
      · rename_i d0 cs hc
        split at q0'
        · rename_i ds0 hd0
          obtain ⟨_, o, hv, vs, rfl, _⟩ := hh1.cell hc hd0
          refine .inr ⟨⟨b, vs, rfl, SqL.of hv⟩, ?_⟩
          refine i2 e Ex hl env1 _ F1 σ H1 _ _ hh1 q1 fun u H2 F2 env2 y hh2 q2 => ?_
          have w' : (match env2[i]? with | some (.reg _ cs) => (match cellOf cs b with | some (.lst ds) => HD.wd env2 y (fun d' => fIdx (.lst ds) d' fun sl => Q sl env2) | _ => False) | _ => False) := q2
          split at w'
          · rename_i d1 cs1 hc1
            split at w'
            · rename_i ds hd1
              obtain ⟨_, o1, hv1, us, rfl, hr⟩ := hh2.cell hc1 hd1
              exact finL u H2 F2 env2 y ds hh2 (.inr ⟨b, ds, us, rfl, rfl, hv1, hr⟩) w'
            · exact w'.elim
          · exact w'.elim
        · exact q0'.elim
      · exact q0'.elim
    | al i b =>
      obtain rfl : v = .ref b := hh1.temps (v, .al i b) List.mem_cons_self
      have q0' : (match env1[i]? with | some (.lst c ds) => c = b ∧ (D.lst ds).isSq = true | _ => False) := q0
      split at q0'
      · rename_i c ds0 hc
        obtain ⟨rfl, _⟩ := q0'
        rcases hh1.slots i _ hc with z | ⟨_, _, _, _, vs, hv, _⟩
        · cases z
        · refine .inr ⟨⟨c, vs, rfl, SqL.of hv⟩, ?_⟩
          refine i2 e Ex hl env1 _ F1 σ H1 _ _ hh1 q1 fun u H2 F2 env2 y hh2 q2 => ?_
          have w' : (match env2[i]? with | some (.lst c' ds) => c' = c ∧ HD.wd env2 y (fun d' => fIdx (.lst ds) d' fun sl => Q sl env2) | _ => False) := q2
          split at w'
          · rename_i c' ds hc'
            obtain ⟨rfl, w'⟩ := w'
            rcases hh2.slots i _ hc' with z | ⟨_, _, _, _, us, hu, hr⟩
            · cases z
            · exact finL u H2 F2 env2 y ds hh2 (.inr ⟨c', ds, us, rfl, rfl, hu, hr⟩) w'
          · exact w'.elim
      · exact q0'.elim⟩
end
end HD
namespace HD
open PySem PyProof.Rows L2
abbrev DMut := List D → (D → List D → Prop) → Prop
def mutD (env : Env') (i : Nat) (a : Addr) (f : DMut) (Q : Sl → Env' → Prop) : Prop := match env[i]? with
  | some (.lst b ds) => b = a ∧ f ds fun d ds' => Q (.ext d) (env.set i (.lst a ds'))
  | _ => False
def PrM (K : PySem.W.Frag) (r : V → List V → Hp → VK → Prop) (vs : List V) (a : Addr) (F H : Hp) (ds : List D) (f : DMut) : Prop :=
  ∀ (q : D → List D → Prop) (R : VK), f ds q → (∀ v d us ds', Rep K F d v → Reps K F ds' us → q d ds' → R v (upd H a (.lst us))) → r (.ref a) vs H R
theorem Holds.mut {K : PySem.W.Frag} {e : Ent} {env : Env'} {T : Tmp} {F : Hp} {σ : L2.St} {H : Hp} {i : Nat} {a : Addr} {f : DMut} {Q : Sl → Env' → Prop} {R : VK} {r : V → List V → Hp → VK → Prop} {vs : List V} (h : Holds K e env T F σ H) (w : mutD env i a f Q)
    (hr : ∀ ds us, H a = some (.lst us) → Reps K F ds us → PrM K r vs a F H ds f) (hR : ∀ v H' F' env' sl, Holds K e env' ((v, sl) :: T) F' σ H' → Q sl env' → R v H') : r (.ref a) vs H R := by
  unfold mutD at w
  split at w
  · rename_i b ds hb
    obtain ⟨rfl, w⟩ := w
    rcases h.slots i _ hb with z | ⟨u, hu, e1, e2, us, hv, rr⟩
    · cases z
    · refine hr ds us hv rr _ R w fun v d us' ds' rd rs q => ?_
      exact hR v _ F _ (.ext d) ((h.write hb rs).pushE rd) q
  · exact w.elim
section
variable {G : GG} {N : List Str} {sc : SC} {k : Nat} {a b : Expr} {ta tb : DT} {apos cpos p p2 pos pos2 py : Pos} {x : Str}
abbrev VisV (N : List Str) (sc : SC) (i : Nat) (x : Str) : Prop := N[i]? = some x ∧ Vis sc.sc x ∧ (x == ("__debug__" : Str)) = false ∧ (x == ("__classdict__" : Str)) = false
def dAppend (i : Nat) (t : DT) : DT := fun Ex env Q => match env[i]? with
  | some (.lst a _) => t Ex env fun x env1 => frzD env1 x fun d env2 => mutD env2 i a (fun ds q => ds.length < sizeLine ∧ q .non (ds ++ [d])) Q
  | _ => False
theorem de_append (i : Nat) (hb : DE G N sc k b tb) (hw : FewArgs (.Name x py) "append" b [] cpos := by intro _; exact ⟨rfl, rfl, rfl, rfl⟩) (hv : VisV N sc i x := by exact ⟨rfl, by first | exact Or.inl rfl | exact Or.inr (Or.inl rfl) | exact Or.inr (Or.inr rfl), by decide, by decide⟩) (hline : (apos.endLine == cpos.line) = true := by rfl) :
    DE G N sc k (.Call (.Attribute (.Name x py) "append" apos) [b] [] cpos) (dAppend i tb) := ⟨fun W => by
  obtain ⟨tf, p2, i2⟩ := hb.ex W
  refine ⟨tBM G.K "list" rAppend (tVar i) (tCons tf tNil), fun X S => ?_, fun e Ex hl env T F σ H Q R hh ht hR => ?_⟩
  · obtain ⟨hbase, hfew, hs, hplain⟩ := hw X.env
    rw [← S.K]
    exact pe_bm PySem.F.plainAttrs_list PySem.F.slot_list_append PySem.F.type_list_append mt_append (pe_var (by rw [S.nms]; exact hv.1) (S.vis hv.2.1) hv.2.2.1 hv.2.2.2) (pa_cons (p2 X S) pa_nil hs) hbase hfew hline hs hplain
  · unfold dAppend at ht
    split at ht
    · rename_i c ds0 hc
      rcases hh.slots i _ hc with z | ⟨v0, hv0, e0, _, us0, hu0, _⟩
      · cases z
      · subst e0
        refine ⟨_, hv0, .inl ⟨rfl, us0, SqL.of hu0⟩, ?_⟩
        refine i2 e Ex hl env T F σ H _ _ hh ht fun u H2 F2 env2 y hh2 q2 => ?_
        obtain ⟨d, F3, env3, _, hh3, rd, q3⟩ := hh2.frz1 q2
        show rAppend (.ref c) [u] H2 R
        refine hh3.mut q3 (fun ds us hu rr q R' hf hk => ?_) hR
        obtain ⟨hz, hf⟩ := hf
        exact ⟨c, us, u, rfl, rfl, hu, by rw [← rr.length]; exact hz, hk .non .non _ _ rfl (rr.append (.one rd)) hf⟩
    · exact ht.elim⟩
def dExtend (i : Nat) (t : DT) : DT := fun Ex env Q => match env[i]? with
  | some (.lst a _) => t Ex env fun x env1 => wd env1 x fun d => match d with
    | .lst es => mutD env1 i a (fun ds q => ds.length + es.length ≤ sizeLine ∧ q .non (ds ++ es)) Q
    | _ => False
  | _ => False
def dPopAt (i : Nat) (t : DT) : DT := fun Ex env Q => match env[i]? with
  | some (.lst a _) => t Ex env fun x env1 => match x with
    | .ext (.int n) => mutD env1 i a (fun ds q => 0 ≤ n ∧ n < 2 ^ 63 ∧ ∃ d, ds[n.toNat]? = some d ∧ q d (ds.eraseIdx n.toNat)) Q
    | _ => False
  | _ => False
theorem de_popAt (i : Nat) (hb : DE G N sc k b tb) (hw : FewArgs (.Name x py) "pop" b [] cpos := by intro _; exact ⟨rfl, rfl, rfl, rfl⟩) (hv : VisV N sc i x := by exact ⟨rfl, by first | exact Or.inl rfl | exact Or.inr (Or.inl rfl) | exact Or.inr (Or.inr rfl), by decide, by decide⟩) (hline : (apos.endLine == cpos.line) = true := by rfl) :
    DE G N sc k (.Call (.Attribute (.Name x py) "pop" apos) [b] [] cpos) (dPopAt i tb) := ⟨fun W => by
  obtain ⟨tf, p2, i2⟩ := hb.ex W
  refine ⟨tBM G.K "list" rPopAt (tVar i) (tCons tf tNil), fun X S => ?_, fun e Ex hl env T F σ H Q R hh ht hR => ?_⟩
  · obtain ⟨hbase, hfew, hs, hplain⟩ := hw X.env
    rw [← S.K]
    exact pe_bm PySem.F.plainAttrs_list PySem.F.slot_list_pop PySem.F.type_list_pop mt_popAt (pe_var (by rw [S.nms]; exact hv.1) (S.vis hv.2.1) hv.2.2.1 hv.2.2.2) (pa_cons (p2 X S) pa_nil hs) hbase hfew hline hs hplain
  · unfold dPopAt at ht
    split at ht
    · rename_i c ds0 hc
      rcases hh.slots i _ hc with z | ⟨v0, hv0, e0, _, us0, hu0, _⟩
      · cases z
      · subst e0
        refine ⟨_, hv0, .inl ⟨rfl, us0, SqL.of hu0⟩, ?_⟩
        refine i2 e Ex hl env T F σ H _ _ hh ht fun u H2 F2 env2 y hh2 q2 => ?_
        cases y with
        | ext d =>
          cases d with
          | int n =>
            have eu : u = .int n := hh2.temps (u, .ext (.int n)) List.mem_cons_self
            show rPopAt (.ref c) [u] H2 R
            refine hh2.pop.mut q2 (fun ds us hu rr q R' hf hk => ?_) hR
            obtain ⟨h0, h1, d, hd, hf⟩ := hf
            obtain ⟨v, hv', rd⟩ := rr.get hd
            have hlt : n.toNat < us.length := (List.getElem?_eq_some_iff.mp hv').1
            refine ⟨c, us, n, n.toNat, v, rfl, by rw [eu], hu, Int.le_trans (by decide) h0, h1, ?_, hv', hk v d _ _ rd (rr.eraseIdx _) hf⟩
            obtain ⟨m, rfl⟩ := Int.eq_ofNat_of_zero_le h0
            exact (ixN_seq (n := us.length) (i := (m : Int)) (j := m) (by
              unfold ixN
              rw [if_pos h0, if_pos (by rw [Int.toNat_natCast] at hlt; omega)]
              rfl)).1
          | _ => exact q2.elim
        | _ => exact q2.elim
    · exact ht.elim⟩
def dPop (i : Nat) : DT := fun Ex env Q => match env[i]? with
  | some (.lst a _) => mutD env i a (fun ds q => ∃ d, ds[ds.length - 1]? = some d ∧ q d ds.dropLast) Q
  | _ => False
def sSetItem (i : Nat) (tI te : DT) : DTS := fun Ex E env => te Ex env fun y env0 => frzD env0 y fun d env1 => match env1[i]? with
  | some (.lst a _) => tI Ex env1 fun z env2 => match z with
    | .ext (.int n) => match env2[i]? with
      | some (.lst b ds) => b = a ∧ ∃ j, ixN ds.length n = some j ∧ E.nx (env2.set i (.lst a (ds.set j d)))
      | _ => False
    | _ => False
  | _ => False
theorem ds_setitem {spos : Pos} (i : Nat) (hb : DE G N sc k b tb) (ha : DE G N sc k a ta) (hv : VisV N sc i x := by exact ⟨rfl, by first | exact Or.inl rfl | exact Or.inr (Or.inl rfl) | exact Or.inr (Or.inr rfl), by decide, by decide⟩)
    (hs : ∀ env, swapsWithSole [.Subscript (.Name x py) b spos] a pos.line env = pure false := by intro _; rfl) (hw : ∀ env, swappedStores [.Subscript (.Name x py) b spos] a env = pure none := by intro _; rfl)
    (h1 : ∀ env, (assignEach [.Subscript (.Name x py) b spos] env).map (·.2) = [assign (.Subscript (.Name x py) b spos) env] := by intro _; rfl)
    (h2 : ∀ env v, assign (.Subscript (.Name x py) b spos) env v = (do
      let ov ← holding [v] (eval (.Name x py) env)
      let iv ← holding [v, ov] (eval b env)
      standAt spos
      holding [v, ov, iv] (setItem ov iv v)
      release [v, ov, iv] []) := by intro _ _; rfl) :
    DS G N sc k (.Assign [.Subscript (.Name x py) b spos] a pos) (sSetItem i tb ta) := ⟨fun W => by
  obtain ⟨te, p1, i1⟩ := ha.ex W
  obtain ⟨tf, p2, i2⟩ := hb.ex W
  refine ⟨tAsg te (gSub (tVar i) tf rSetL), fun X S => ?_, fun e Ex hl env F σ H E Dn hh ht ok => ?_⟩
  · exact ps_asg (p1 X S) (pg_sub (pe_var (by rw [S.nms]; exact hv.1) (S.vis hv.2.1) hv.2.2.1 hv.2.2.2) (p2 X S) set_list (h2 _)) (hs _) (hw _) (h1 _)
  · refine i1 e Ex hl env [] F σ H _ _ hh ht fun v H1 F1 env0 y hh1 q1 => ?_
    obtain ⟨d, F2, env1, _, hh2, rd, q2⟩ := hh1.frz1 q1
    split at q2
    · rename_i c ds0 hc
      rcases hh2.slots i _ hc with z | ⟨v0, hv0, e0, _⟩
      · cases z
      · subst e0
        refine ⟨_, hv0, ?_⟩
        refine i2 e Ex hl env1 [(v, .ext d)] F2 σ H1 _ _ (hh2.pushE rd) q2 fun u H3 F3 env3 z hh3 q3 => ?_
        have rd3 : Rep G.K F3 d v := hh3.temps (v, .ext d) (List.mem_cons_of_mem _ List.mem_cons_self)
        cases z with
        | ext dz =>
          cases dz with
          | int n =>
            have eu : u = .int n := hh3.temps (u, .ext (.int n)) List.mem_cons_self
            have q3' : (match env3[i]? with | some (.lst b ds) => b = c ∧ ∃ j, ixN ds.length n = some j ∧ E.nx (env3.set i (.lst c (ds.set j d))) | _ => False) := q3
            split at q3'
            · rename_i c' ds hc'
              obtain ⟨rfl, j, hj, q4⟩ := q3'
              rcases hh3.slots i _ hc' with z | ⟨_, _, _, _, us, hu, rr⟩
              · cases z
              · exact ⟨c', us, n, j, rfl, eu, hu, by rw [← rr.length]; exact hj, ok.nx _ F3 σ _ (hh3.bare.write hc' (rr.set j rd3)) q4⟩
            · exact q3'.elim
          | _ => exact q3.elim
        | _ => exact q3.elim
    · exact q2.elim⟩
end
section
variable {G : GG} {N : List Str} {sc : SC} {k : Nat} {a : Expr} {ta : DT} {p p2 pos pos2 : Pos}
def dSortSet (t : DT) : DT := fun Ex env Q => t Ex env fun x env1 => wd env1 x fun d => match d with
  | .tup ds => ∃ ns : List Int, ds = ns.map D.int ∧ ns.length < 64 ∧ ∀ (ns' : List Int) (b : Addr), ns'.Pairwise (· < ·) → (∀ n : Int, n ∈ ns' ↔ n ∈ ns) → Q (.lst b (ns'.map D.int)) env1
  | _ => False
end
end HD
namespace HD
open PySem PyProof.Rows L2
abbrev Tab := List (Str × Int)
def dTable (tab : Tab) (i : Nat) : DT := fun _ env Q => match env[i]? with
  | some (.ext (.str w)) => ∃ n, tab.lookup w = some n ∧ Q (.ext (.int n)) env
  | _ => False
structure Blt (G : GG) : Prop where
  len : G.mg "len" = none
  range : G.mg "range" = none
  sorted : G.mg "sorted" = none
  set : G.mg "set" = none
  tuple : G.mg "tuple" = none
  list : G.mg "list" = none
  dict : G.mg "dict" = none
  zip : G.mg "zip" = none
  enumerate : G.mg "enumerate" = none
  all : G.mg "all" = none
  any : G.mg "any" = none
  sum : G.mg "sum" = none
  min : G.mg "min" = none
  max : G.mg "max" = none
  isinstance : G.mg "isinstance" = none
  str : G.mg "str" = none
  int : G.mg "int" = none
  repr : G.mg "repr" = none
  bool : G.mg "bool" = none
def lawSpec (n : Nat) : DSpec := fun args Q _ => ∃ ns : List Int, args = [.ext (.fz (ns.map D.int))] ∧ ns.length ≤ n ∧ ∀ fin, Q (.ext (.bl true)) fin
theorem law_sp {K : PySem.W.Frag} {n : Nat} {H : Hp} {a : Addr} {ns : List Int} (hl : ns.length ≤ n) (hS : SqL K H a (ns.map V.int)) : toSp K 1 (lawSpec n) [.ref a] H (fun v _ => v = .bl true) fun _ _ _ => False := by
  have r : Reps K H [.fz (ns.map D.int)] [.ref a] := ⟨_, _, rfl, ⟨a, _, rfl, hS, Reps.of_ints ns⟩, rfl⟩
  refine ⟨H, [.ext (.fz (ns.map D.int))], fun r _ => r = .ext (.bl true), fun _ _ => False, rfl, argsE (Same.refl _) r, ⟨ns, rfl, hl, fun _ => rfl⟩, fun v H' F' r fin hf hq => ?_, fun _ _ _ _ _ _ _ z => z⟩
  subst hq
  exact hf.temps (v, .ext (.bl true)) List.mem_cons_self
theorem cx_no {P : Program} {w : World} (H : Hp) (s : Shared) (e : Value) (s' : Shared) (h : L2.CX P w [] H s (fun _ _ _ => False) e s') : False := by
  obtain ⟨_, _, _, _, _, _, _, _, _, _, _, _, z⟩ := h
  exact z
end HD
namespace HD
open PySem PyProof.Rows L2
def iSeq (K : PySem.W.Frag) (tl : TE) : TI := fun σ H R => tl σ H fun x H1 => ∃ a, x = .ref a ∧ (((∃ xs, SqL K H1 a xs) ∧ R (Itl K a) H1) ∨ ((∃ xs, SqT K H1 a xs) ∧ R (Itt K a) H1))
theorem pi_seq {X : Cx} {tg l : Expr} {tl : TE} (hl : PE X l tl) : PI X tg l (iSeq X.K tl) := by
  refine ⟨fun pins s σ H R I h => ?_⟩
  refine thn (hl.run pins s σ H _ I h) fun v s1 ⟨x, H1, I1, r1, q1⟩ => ?_
  obtain ⟨a, ex, q1⟩ := q1
  subst ex
  cases r1
  have fp : ∀ b ∈ [s1.heap.objs.size], FpOk X pins H1 b := fun b hb => by
    have eb : b = s1.heap.objs.size := by simpa using hb
    subst eb
    exact I1.fpOk (Nat.le_refl _) (I1.hok.fresh (Nat.le_refl _))
  rcases q1 with ⟨⟨xs, hq⟩, q⟩ | ⟨⟨xs, hq⟩, q⟩
  · obtain ⟨its, rv, p, hz⟩ := I1.list hq
    refine wpAny_pyIter_list p.isList ?_
    exact ⟨s1.heap.objs.size, [s1.heap.objs.size], _, _, H1, rfl, I1.kept (t' := s1.toks) fun b o e => Heap.get?_push_of_some _ e, turn_list a _, ⟨_, Heap.get?_push_size _ rfl, rfl, rfl⟩, fp, q⟩
  · obtain ⟨its, rv, p, hz⟩ := I1.tuple hq
    refine wpAny_pyIter_tuple (show s1.heap.IsTuple a its.toArray from p) ?_
    exact ⟨s1.heap.objs.size, [s1.heap.objs.size], _, _, H1, rfl, I1.kept (t' := s1.toks) fun b o e => Heap.get?_push_of_some _ e, turn_tuple a _, ⟨_, Heap.get?_push_size _ rfl, rfl, rfl⟩, fp, q⟩
def dSeq (t : DT) : DTI := fun Ex env Q => t Ex env fun x env1 => seqD env1 x fun ds keep => Q ds keep env1
theorem src_stands {K : PySem.W.Frag} {b : Bool} {a : Addr} {ds : List D} {k : Env' → Prop} {F0 : Hp} (h : Stands K b a ds k F0) : Src K (if b = true then Itt K a else Itl K a) ds k F0 := fun e env T F σ H i hh sm kk => by
  obtain ⟨vs, s1, r⟩ := h e env T F σ H hh sm kk
  cases b with
  | true =>
    refine ⟨fun hi => ⟨vs, s1, by rw [← r.length]; exact Nat.le_of_eq hi⟩, fun d hd => ?_⟩
    obtain ⟨v, hv, rd⟩ := r.get hd
    refine ⟨⟨vs, v, s1, hv⟩, fun x H2 hy => ?_⟩
    obtain ⟨rfl, hx⟩ := hy
    have e1 := hx _ s1
    rw [hv] at e1
    cases e1
    exact ⟨F, Grow.refl hh.fh, rd⟩
  | false =>
    refine ⟨fun hi => ⟨vs, s1, by rw [← r.length]; exact Nat.le_of_eq hi⟩, fun d hd => ?_⟩
    obtain ⟨v, hv, rd⟩ := r.get hd
    refine ⟨⟨vs, v, s1, hv⟩, fun x H2 hy => ?_⟩
    obtain ⟨rfl, hx⟩ := hy
    have e1 := hx _ s1
    rw [hv] at e1
    cases e1
    exact ⟨F, Grow.refl hh.fh, rd⟩
section
variable {G : GG} {N : List Str} {sc : SC} {k : Nat} {a : Expr} {ta : DT}
theorem di_seq {tg : Expr} (h : DE G N sc k a ta) : DI G N sc k tg a (dSeq ta) := ⟨fun W => by
  obtain ⟨te, p1, i1⟩ := h.ex W
  refine ⟨iSeq G.K te, fun X S => by rw [← S.K]; exact pi_seq (p1 X S), fun e Ex hl env T F σ H Q R hh ht hR => ?_⟩
  refine i1 e Ex hl env T F σ H _ _ hh ht fun v H1 F1 env1 x hh1 q1 => ?_
  obtain ⟨b, c, ds, kp, F2, rfl, q2, _, hh2, st, kk⟩ := hh1.seqD q1
  have src := src_stands st
  obtain ⟨vs, s1, _⟩ := st e env1 T F2 σ H1 hh2 (Same.refl _) kk
  cases b with
  | true => exact ⟨c, rfl, .inr ⟨⟨vs, s1⟩, hR _ H1 F2 env1 ds kp hh2 src q2⟩⟩
  | false => exact ⟨c, rfl, .inl ⟨⟨vs, s1⟩, hR _ H1 F2 env1 ds kp hh2 src q2⟩⟩⟩
end
end HD
namespace HD
open PySem L2
theorem eqv_refl {d : D} (h : d.cmp) : d.eqv d = true := PySem.SeqAt.eqv_refl d.py (PySem.SeqAt.canLay_of_shaped h.2)
def Meets (t : DTS) (n m : Nat) (sp : DSpec) : Prop := ∀ args Qd Xd, sp args Qd Xd → t (exOf args Xd) (endsOf args Qd) (args ++ List.replicate m .un)
theorem finals1 (x : Sl) (env : Env') : finals [x] env = [fin1 x env[0]?] := rfl
theorem finals2 (x y : Sl) (env : Env') : finals [x, y] env = [fin1 x env[0]?, fin1 y env[1]?] := rfl
theorem finals3 (x y z : Sl) (env : Env') : finals [x, y, z] env = [fin1 x env[0]?, fin1 y env[1]?, fin1 z env[2]?] := rfl
theorem finals4 (x y z u : Sl) (env : Env') : finals [x, y, z, u] env = [fin1 x env[0]?, fin1 y env[1]?, fin1 z env[2]?, fin1 u env[3]?] := rfl
theorem finals5 (x y z u v : Sl) (env : Env') : finals [x, y, z, u, v] env = [fin1 x env[0]?, fin1 y env[1]?, fin1 z env[2]?, fin1 u env[3]?, fin1 v env[4]?] := rfl
theorem finals6 (x y z u v w : Sl) (env : Env') : finals [x, y, z, u, v, w] env = [fin1 x env[0]?, fin1 y env[1]?, fin1 z env[2]?, fin1 u env[3]?, fin1 v env[4]?, fin1 w env[5]?] := rfl
theorem fin1_ext (d : D) (o : Option Sl) : fin1 (.ext d) o = .ext d := rfl
theorem fin1_lst (a : Addr) (ds es : List D) : fin1 (.lst a ds) (some (.lst a es)) = .lst a es := if_pos rfl
theorem fEq_ii (i j : Int) (Q : Sl → Prop) : fEq (.int i) (.int j) Q = Q (.ext (.bl (i == j))) := rfl
theorem fEq_ss (i j : Str) (Q : Sl → Prop) : fEq (.str i) (.str j) Q = Q (.ext (.bl (i == j))) := rfl
theorem fEq_bb (i j : Bool) (Q : Sl → Prop) : fEq (.bl i) (.bl j) Q = Q (.ext (.bl (i == j))) := rfl
theorem fEq_tt (i j : List D) (Q : Sl → Prop) : fEq (.tup i) (.tup j) Q = (D.cmp (.tup i) ∧ D.cmp (.tup j) ∧ Q (.ext (.bl (D.eqv (.tup i) (.tup j))))) := rfl
theorem fEq_ll (i j : List D) (Q : Sl → Prop) : fEq (.lst i) (.lst j) Q = (D.cmp (.lst i) ∧ D.cmp (.lst j) ∧ Q (.ext (.bl (D.eqv (.lst i) (.lst j))))) := rfl
theorem fNe_ii (i j : Int) (Q : Sl → Prop) : fNe (.int i) (.int j) Q = Q (.ext (.bl (!(i == j)))) := rfl
theorem fNe_ss (i j : Str) (Q : Sl → Prop) : fNe (.str i) (.str j) Q = Q (.ext (.bl (!(i == j)))) := rfl
theorem fNe_bb (i j : Bool) (Q : Sl → Prop) : fNe (.bl i) (.bl j) Q = Q (.ext (.bl (!(i == j)))) := rfl
theorem fNe_tt (i j : List D) (Q : Sl → Prop) : fNe (.tup i) (.tup j) Q = (D.cmp (.tup i) ∧ D.cmp (.tup j) ∧ Q (.ext (.bl (!D.eqv (.tup i) (.tup j))))) := rfl
theorem fNe_ll (i j : List D) (Q : Sl → Prop) : fNe (.lst i) (.lst j) Q = (D.cmp (.lst i) ∧ D.cmp (.lst j) ∧ Q (.ext (.bl (!D.eqv (.lst i) (.lst j))))) := rfl
inductive Tok {α : Type _} (Q : α) : Type where
  | mk
def CallS (spec : DSpec) (args : List Sl) (Q : Sl → List Sl → Prop) (X : Str → List Sl → Prop) (_ : Tok Q) (_ : Tok X) : Prop := spec args Q X
def GetS (o : Option D) (k : D → Prop) (_ : Tok k) : Prop := ∃ d, o = some d ∧ k d
def AtS (o : Option Sl) (k1 : D → Prop) (k2 : Addr → List D → Prop) (_ : Tok k1) (_ : Tok k2) : Prop := match o with
  | some (.ext d) => k1 d
  | some (.lst a ds) => k2 a ds
  | _ => False
theorem GetS_some (d : D) (k : D → Prop) (t : Tok k) : GetS (some d) k t = k d := propext ⟨fun ⟨_, e, h⟩ => by cases e; exact h, fun h => ⟨d, rfl, h⟩⟩
theorem AtS_ext (d : D) (k1 : D → Prop) (k2 : Addr → List D → Prop) (t : Tok k1) (u : Tok k2) : AtS (some (.ext d)) k1 k2 t u = k1 d := rfl
theorem AtS_lst (a : Addr) (ds : List D) (k1 : D → Prop) (k2 : Addr → List D → Prop) (t : Tok k1) (u : Tok k2) : AtS (some (.lst a ds)) k1 k2 t u = k2 a ds := rfl
abbrev AtL (o : Option Sl) (k2 : Addr → List D → Prop) : Prop := AtS o (fun _ => False) k2 .mk .mk
theorem AtL_eq (o : Option Sl) (k2 : Addr → List D → Prop) : (match o with | some (.lst a ds) => k2 a ds | _ => False) = AtS o (fun _ => False) k2 .mk .mk := by
  unfold AtS
  rcases o with _ | (_ | _ | _ | _ | _) <;> rfl
theorem dCall_w (spec : DSpec) (ta : DTA) (Ex : DX) (env : Env') (Q : Sl → Env' → Prop) : dCall spec ta Ex env Q = ta Ex env fun xs env1 => wds env1 xs fun ds =>
  CallS spec (ds.map .ext) (fun r _ => (anyAl xs = false ∨ r.imm = true) ∧ r.plain ∧ Q r env1) (fun c _ => Ex c env1) .mk .mk := rfl
theorem dCallJ_w (spec : DSpec) (i : Nat) (ta : DTA) (Ex : DX) (env : Env') (Q : Sl → Env' → Prop) : dCallJ spec i ta Ex env Q = AtL env[i]? fun a _ => ta Ex env fun xs env1 => AtL env1[i]? fun b ds => b = a ∧ frozs env1 xs fun es => CallS spec (.lst a ds :: es.map .ext)
        (fun r fin => match fin with | s' :: _ => s'.plain ∧ r.plain ∧ Q r (env1.set i s') | [] => False) (fun c fin => match fin with | s' :: _ => s'.plain ∧ Ex c (env1.set i s') | [] => False) .mk .mk := by
  simp only [AtL, ← AtL_eq] <;> rfl
theorem dVar_w (i : Nat) (Ex : DX) (env : Env') (Q : Sl → Env' → Prop) : dVar i Ex env Q = AtS env[i]? (fun d => Q (.ext d) env) (fun a _ => Q (.al i a) env) .mk .mk := by
  unfold dVar AtS
  rcases env[i]? with _ | (_ | _ | _ | _ | _) <;> rfl
theorem wd_ext (env : Env') (d : D) (k : D → Prop) : wd env (.ext d) k = k d := rfl
theorem wd_lst (env : Env') (a : Addr) (ds : List D) (k : D → Prop) : wd env (.lst a ds) k = k (.lst ds) := rfl
theorem wd_al (env : Env') (i : Nat) (a : Addr) (k : D → Prop) : wd env (.al i a) k = AtL env[i]? fun b ds => b = a ∧ k (.lst ds) := by
  simp only [AtL, ← AtL_eq] <;> rfl
theorem frzD_ext (env : Env') (d : D) (q : D → Env' → Prop) : frzD env (.ext d) q = q d env := rfl
theorem frzD_lst (env : Env') (a : Addr) (ds : List D) (q : D → Env' → Prop) : frzD env (.lst a ds) q = q (.lst ds) env := rfl
theorem frzD_al (env : Env') (i : Nat) (a : Addr) (q : D → Env' → Prop) : frzD env (.al i a) q = AtL env[i]? fun b ds => b = a ∧ q (.lst ds) (env.set i (.ext (.lst ds))) := by
  simp only [AtL, ← AtL_eq, frzD]
  rcases env[i]? with _ | (_ | d | _ | _ | _) <;> try rfl
  cases d <;> rfl
theorem retD_ext (env : Env') (d : D) (q : Sl → Env' → Prop) : retD env (.ext d) q = q (.ext d) env := rfl
theorem retD_lst (env : Env') (a : Addr) (ds : List D) (q : Sl → Env' → Prop) : retD env (.lst a ds) q = q (.lst a ds) env := rfl
theorem retD_al (env : Env') (i : Nat) (a : Addr) (q : Sl → Env' → Prop) : retD env (.al i a) q = AtL env[i]? fun b ds => b = a ∧ q (.lst a ds) (env.set i .un) := by
  simp only [AtL, ← AtL_eq] <;> rfl
theorem seqD_tup (env : Env') (ds : List D) (q : List D → (Env' → Prop) → Prop) : seqD env (.ext (.tup ds)) q = q ds fun _ => True := rfl
theorem seqD_elst (env : Env') (ds : List D) (q : List D → (Env' → Prop) → Prop) : seqD env (.ext (.lst ds)) q = q ds fun _ => True := rfl
theorem seqD_lst (env : Env') (a : Addr) (ds : List D) (q : List D → (Env' → Prop) → Prop) : seqD env (.lst a ds) q = q ds fun _ => True := rfl
theorem seqD_al (env : Env') (i : Nat) (a : Addr) (q : List D → (Env' → Prop) → Prop) : seqD env (.al i a) q = AtL env[i]? fun b ds => b = a ∧ q ds fun env' => env'[i]? = some (.lst a ds) := by
  simp only [AtL, ← AtL_eq] <;> rfl
theorem mutD_w (env : Env') (i : Nat) (a : Addr) (f : DMut) (Q : Sl → Env' → Prop) : mutD env i a f Q = AtL env[i]? fun b ds => b = a ∧ f ds fun d ds' => Q (.ext d) (env.set i (.lst a ds')) := by
  simp only [AtL, ← AtL_eq] <;> rfl
theorem dAppend_w (i : Nat) (t : DT) (Ex : DX) (env : Env') (Q : Sl → Env' → Prop) : dAppend i t Ex env Q = AtL env[i]? fun a _ => t Ex env fun x env1 => frzD env1 x fun d env2 => mutD env2 i a (fun ds q => ds.length < sizeLine ∧ q .non (ds ++ [d])) Q := by
  simp only [AtL, ← AtL_eq] <;> rfl
def extD (env : Env') (i : Nat) (a : Addr) (d : D) (Q : Sl → Env' → Prop) : Prop := match d with
    | .lst es => mutD env i a (fun ds q => ds.length + es.length ≤ sizeLine ∧ q .non (ds ++ es)) Q
    | _ => False
theorem extD_lst (env : Env') (i : Nat) (a : Addr) (es : List D) (Q : Sl → Env' → Prop) : extD env i a (.lst es) Q = mutD env i a (fun ds q => ds.length + es.length ≤ sizeLine ∧ q .non (ds ++ es)) Q := rfl
theorem dExtend_w (i : Nat) (t : DT) (Ex : DX) (env : Env') (Q : Sl → Env' → Prop) : dExtend i t Ex env Q = AtL env[i]? fun a _ => t Ex env fun x env1 => wd env1 x fun d => extD env1 i a d Q := by
  simp only [AtL, ← AtL_eq] <;> rfl
def popD (env : Env') (i : Nat) (a : Addr) (x : Sl) (Q : Sl → Env' → Prop) : Prop := match x with
    | .ext (.int n) => mutD env i a (fun ds q => 0 ≤ n ∧ n < 2 ^ 63 ∧ ∃ d, ds[n.toNat]? = some d ∧ q d (ds.eraseIdx n.toNat)) Q
    | _ => False
theorem popD_int (env : Env') (i : Nat) (a : Addr) (n : Int) (Q : Sl → Env' → Prop) : popD env i a (.ext (.int n)) Q = mutD env i a (fun ds q => 0 ≤ n ∧ n < 2 ^ 63 ∧ GetS ds[n.toNat]? (fun d => q d (ds.eraseIdx n.toNat)) .mk) Q := rfl
theorem dPopAt_w (i : Nat) (t : DT) (Ex : DX) (env : Env') (Q : Sl → Env' → Prop) : dPopAt i t Ex env Q = AtL env[i]? fun a _ => t Ex env fun x env1 => popD env1 i a x Q := by
  simp only [AtL, ← AtL_eq] <;> rfl
theorem dPop_w (i : Nat) (Ex : DX) (env : Env') (Q : Sl → Env' → Prop) : dPop i Ex env Q = AtL env[i]? fun a _ => mutD env i a (fun ds q => GetS ds[ds.length - 1]? (fun d => q d ds.dropLast) .mk) Q := by
  simp only [AtL, ← AtL_eq] <;> rfl
def setD (env2 : Env') (i : Nat) (a : Addr) (d : D) (z : Sl) (q : Env' → Prop) : Prop := match z with
    | .ext (.int n) => AtL env2[i]? fun b ds => b = a ∧ ∃ j, ixN ds.length n = some j ∧ q (env2.set i (.lst a (ds.set j d)))
    | _ => False
def NatS (o : Option Nat) (k : Nat → Prop) (_ : Tok k) : Prop := ∃ j, o = some j ∧ k j
theorem NatS_some (j : Nat) (k : Nat → Prop) (t : Tok k) : NatS (some j) k t = k j := propext ⟨fun ⟨_, e, h⟩ => by cases e; exact h, fun h => ⟨j, rfl, h⟩⟩
theorem setD_int (env2 : Env') (i : Nat) (a : Addr) (d : D) (n : Int) (q : Env' → Prop) : setD env2 i a d (.ext (.int n)) q = AtL env2[i]? fun b ds => b = a ∧ NatS (ixN ds.length n) (fun j => q (env2.set i (.lst a (ds.set j d)))) .mk := rfl
theorem sSetItem_w (i : Nat) (tI te : DT) (Ex : DX) (E : DEnds) (env : Env') : sSetItem i tI te Ex E env = te Ex env fun y env0 => frzD env0 y fun d env1 => AtL env1[i]? fun a _ => tI Ex env1 fun z env2 => setD env2 i a d z E.nx := by
  simp only [AtL, ← AtL_eq, setD, sSetItem] <;> rfl
theorem dTable_w (tab : Tab) (i : Nat) (Ex : DX) (env : Env') (Q : Sl → Env' → Prop) : dTable tab i Ex env Q = AtS env[i]? (fun d => match d with | .str w => ∃ n, tab.lookup w = some n ∧ Q (.ext (.int n)) env | _ => False) (fun _ _ => False) .mk .mk := by
  unfold dTable AtS
  rcases env[i]? with _ | (_ | d | _ | _ | _) <;> try rfl
  cases d <;> rfl
theorem fIx_l (ds : List D) (i : Int) (Q : Sl → Prop) : fIx (.lst ds) (.int i) Q = GetS (atI ds i) (fun d => Q (.ext d)) .mk := rfl
theorem fIx_t (ds : List D) (i : Int) (Q : Sl → Prop) : fIx (.tup ds) (.int i) Q = GetS (atI ds i) (fun d => Q (.ext d)) .mk := rfl
theorem fIx_k (ds : List D) (i : Int) (Q : Sl → Prop) : fIx (.tk ds) (.int i) Q = GetS (atI ds i) (fun d => Q (.ext d)) .mk := rfl
theorem fIx_f (ds : List D) (i : Int) (Q : Sl → Prop) : fIx (.fz ds) (.int i) Q = GetS (atI ds i) (fun d => Q (.ext d)) .mk := rfl
def BoolS (o : Option Bool) (k : Bool → Prop) (_ : Tok k) : Prop := ∃ b, o = some b ∧ k b
theorem BoolS_some (b : Bool) (k : Bool → Prop) (t : Tok k) : BoolS (some b) k t = k b := propext ⟨fun ⟨_, e, h⟩ => by cases e; exact h, fun h => ⟨b, rfl, h⟩⟩
theorem fIsi1 (d : D) (T : String) (Q : Sl → Prop) : fIsi [d, .val (.ty T)] Q = (d.noVal = true ∧ d.isFz = false ∧ BoolS (kitB d.ty T) (fun b => Q (.ext (.bl b))) .mk) := rfl
theorem fIsi2 (d : D) (T U : String) (Q : Sl → Prop) : fIsi [d, .tup [.val (.ty T), .val (.ty U)]] Q = (d.noVal = true ∧ d.isFz = false ∧ BoolS (kitB d.ty T) (fun b => BoolS (kitB d.ty U) (fun c => Q (.ext (.bl (b || c)))) .mk) .mk) := by
  simp only [fIsi, BoolS]
  refine propext ⟨fun ⟨h1, h2, b, c, h3, h4, q⟩ => ⟨h1, h2, b, h3, c, h4, q⟩, fun ⟨h1, h2, b, h3, c, h4, q⟩ => ⟨h1, h2, b, c, h3, h4, q⟩⟩
theorem kb_non_tuple : kitB (D.ty .non) "tuple" = some false := by decide +kernel
theorem kb_non_list : kitB (D.ty .non) "list" = some false := by decide +kernel
theorem kb_non_bool : kitB (D.ty .non) "bool" = some false := by decide +kernel
theorem kb_non_int : kitB (D.ty .non) "int" = some false := by decide +kernel
theorem kb_non_str : kitB (D.ty .non) "str" = some false := by decide +kernel
theorem kb_bl_tuple (b : Bool) : kitB (D.ty (.bl b)) "tuple" = some false := show kitB "bool" "tuple" = some false by decide +kernel
theorem kb_bl_list (b : Bool) : kitB (D.ty (.bl b)) "list" = some false := show kitB "bool" "list" = some false by decide +kernel
theorem kb_bl_bool (b : Bool) : kitB (D.ty (.bl b)) "bool" = some true := show kitB "bool" "bool" = some true by decide +kernel
theorem kb_bl_int (b : Bool) : kitB (D.ty (.bl b)) "int" = some true := show kitB "bool" "int" = some true by decide +kernel
theorem kb_bl_str (b : Bool) : kitB (D.ty (.bl b)) "str" = some false := show kitB "bool" "str" = some false by decide +kernel
theorem kb_int_tuple (i : Int) : kitB (D.ty (.int i)) "tuple" = some false := show kitB "int" "tuple" = some false by decide +kernel
theorem kb_int_list (i : Int) : kitB (D.ty (.int i)) "list" = some false := show kitB "int" "list" = some false by decide +kernel
theorem kb_int_bool (i : Int) : kitB (D.ty (.int i)) "bool" = some false := show kitB "int" "bool" = some false by decide +kernel
theorem kb_int_int (i : Int) : kitB (D.ty (.int i)) "int" = some true := show kitB "int" "int" = some true by decide +kernel
theorem kb_int_str (i : Int) : kitB (D.ty (.int i)) "str" = some false := show kitB "int" "str" = some false by decide +kernel
theorem kb_str_tuple (x : Str) : kitB (D.ty (.str x)) "tuple" = some false := show kitB "str" "tuple" = some false by decide +kernel
theorem kb_str_list (x : Str) : kitB (D.ty (.str x)) "list" = some false := show kitB "str" "list" = some false by decide +kernel
theorem kb_str_bool (x : Str) : kitB (D.ty (.str x)) "bool" = some false := show kitB "str" "bool" = some false by decide +kernel
theorem kb_str_int (x : Str) : kitB (D.ty (.str x)) "int" = some false := show kitB "str" "int" = some false by decide +kernel
theorem kb_str_str (x : Str) : kitB (D.ty (.str x)) "str" = some true := show kitB "str" "str" = some true by decide +kernel
theorem kb_lst_tuple (ds : List D) : kitB (D.ty (.lst ds)) "tuple" = some false := show kitB "list" "tuple" = some false by decide +kernel
theorem kb_lst_list (ds : List D) : kitB (D.ty (.lst ds)) "list" = some true := show kitB "list" "list" = some true by decide +kernel
theorem kb_lst_bool (ds : List D) : kitB (D.ty (.lst ds)) "bool" = some false := show kitB "list" "bool" = some false by decide +kernel
theorem kb_lst_int (ds : List D) : kitB (D.ty (.lst ds)) "int" = some false := show kitB "list" "int" = some false by decide +kernel
theorem kb_lst_str (ds : List D) : kitB (D.ty (.lst ds)) "str" = some false := show kitB "list" "str" = some false by decide +kernel
theorem kb_tup_tuple (ds : List D) : kitB (D.ty (.tup ds)) "tuple" = some true := show kitB "tuple" "tuple" = some true by decide +kernel
theorem kb_tup_list (ds : List D) : kitB (D.ty (.tup ds)) "list" = some false := show kitB "tuple" "list" = some false by decide +kernel
theorem kb_tup_bool (ds : List D) : kitB (D.ty (.tup ds)) "bool" = some false := show kitB "tuple" "bool" = some false by decide +kernel
theorem kb_tup_int (ds : List D) : kitB (D.ty (.tup ds)) "int" = some false := show kitB "tuple" "int" = some false by decide +kernel
theorem kb_tup_str (ds : List D) : kitB (D.ty (.tup ds)) "str" = some false := show kitB "tuple" "str" = some false by decide +kernel
def BlS (z : Sl) (k : Bool → Prop) (_ : Tok k) : Prop := match z with
  | .ext (.bl b) => k b
  | _ => False
theorem BlS_bl (b : Bool) (k : Bool → Prop) (t : Tok k) : BlS (.ext (.bl b)) k t = k b := rfl
theorem bl_match (z : Sl) (p q : Prop) : (match z with
  | .ext (.bl true) => p
  | .ext (.bl false) => q
  | _ => False) = BlS z (fun b => if b = true then p else q) .mk := by
  unfold BlS
  rcases z with _ | (_ | b | _ | _ | _ | _ | _ | _ | _ | _ | _) | _ | _ <;> try rfl
  cases b <;> simp
theorem dChain_w (f f' : D → D → (Sl → Prop) → Prop) (ta tb tc : DT) (Ex : DX) (env : Env') (Q : Sl → Env' → Prop) : dChain f f' ta tb tc Ex env Q = ta Ex env fun x env1 => tb Ex env1 fun y env2 => wd env2 x fun d => wd env2 y fun d' => f d d' fun z =>
  BlS z (fun b => if b = true then (tc Ex env2 fun w env3 => wd env3 y fun d1 => wd env3 w fun d2 => f' d1 d2 fun sl => Q sl env3) else Q (.ext (.bl false)) env2) .mk := by
  simp only [← bl_match] <;> rfl
theorem dAndV_w (ta tb : DT) (Ex : DX) (env : Env') (Q : Sl → Env' → Prop) : dAndV ta tb Ex env Q = ta Ex env fun x env1 => BlS x (fun b => if b = true then tb Ex env1 Q else Q (.ext (.bl false)) env1) .mk := by
  simp only [← bl_match] <;> rfl
theorem dOrV_w (ta tb : DT) (Ex : DX) (env : Env') (Q : Sl → Env' → Prop) : dOrV ta tb Ex env Q = ta Ex env fun x env1 => BlS x (fun b => if b = true then Q (.ext (.bl true)) env1 else tb Ex env1 Q) .mk := by
  have e : ∀ (z : Sl) (p q : Prop), (match z with
    | .ext (.bl false) => q
    | .ext (.bl true) => p
    | _ => False) = BlS z (fun b => if b = true then p else q) .mk := by
    intro z p q
    unfold BlS
    rcases z with _ | (_ | b | _ | _ | _ | _ | _ | _ | _ | _ | _) | _ | _ <;> try rfl
    cases b <;> simp
  simp only [← e] <;> rfl
abbrev iD (l : List Int) : List D := l.map D.int
abbrev nD (l : List Nat) : List D := l.map fun n : Nat => D.int (n : Int)
theorem nD_cons (x : Nat) (l : List Nat) : nD (x :: l) = D.int (x : Int) :: nD l := rfl
theorem nD_app (a b : List Nat) : nD (a ++ b) = nD a ++ nD b := List.map_append
theorem iD_app (a b : List Int) : iD (a ++ b) = iD a ++ iD b := List.map_append
theorem nD_len (a : List Nat) : (nD a).length = a.length := List.length_map _
theorem iD_len (a : List Int) : (iD a).length = a.length := List.length_map _
theorem cmulN {i j : Int} {a b : Nat} (hi : i.natAbs < 2 ^ a) (hj : j.natAbs < 2 ^ b) (h : a + b < 1000000) : CMulW i j := by
  unfold CMulW
  have h1 : i.natAbs.log2 ≤ a := by
    rcases Nat.eq_zero_or_pos i.natAbs with z | z
    · rw [z]; exact Nat.zero_le _
    · exact Nat.le_of_lt ((Nat.log2_lt (by omega)).2 hi)
  have h2 : j.natAbs.log2 ≤ b := by
    rcases Nat.eq_zero_or_pos j.natAbs with z | z
    · rw [z]; exact Nat.zero_le _
    · exact Nat.le_of_lt ((Nat.log2_lt (by omega)).2 hj)
  omega
theorem cmul64 {i j : Int} (h1 : -18446744073709551616 < i) (h2 : i < 18446744073709551616) (h3 : -18446744073709551616 < j) (h4 : j < 18446744073709551616) : CMulW i j :=
  cmulN (a := 64) (b := 64) (by omega) (by omega) (by decide)
theorem atN {α : Type} {xs : List α} {n : Nat} {x : α} (h : xs[n]? = some x) : atI xs (n : Int) = some x := by
  have hl : n < xs.length := (List.getElem?_eq_some_iff.1 h).1
  have e : ixN xs.length (n : Int) = some n := by
    unfold ixN
    rw [if_pos (by omega), if_pos (by omega)]
    simp
  unfold atI
  rw [e]
  exact h
theorem ixN_nat {n i : Nat} (h : i < n) : ixN n (i : Int) = some i := by
  unfold ixN
  rw [if_pos (by omega), if_pos (by omega)]
  simp
theorem atI_int {α : Type} {xs : List α} {i : Int} {x : α} (h0 : 0 ≤ i) (h : xs[i.toNat]? = some x) : atI xs i = some x := by
  have := atN h
  rwa [Int.toNat_of_nonneg h0] at this
theorem atI_0 {α : Type} (x : α) (xs : List α) : atI (x :: xs) 0 = some x := atN (n := 0) rfl
theorem atI_1 {α : Type} (x y : α) (xs : List α) : atI (x :: y :: xs) 1 = some y := atN (n := 1) rfl
theorem atI_2 {α : Type} (x y z : α) (xs : List α) : atI (x :: y :: z :: xs) 2 = some z := atN (n := 2) rfl
theorem atI_3 {α : Type} (x y z u : α) (xs : List α) : atI (x :: y :: z :: u :: xs) 3 = some u := atN (n := 3) rfl
theorem ixN_0 (n : Nat) : ixN (n + 1) 0 = some 0 := ixN_nat (i := 0) (by omega)
theorem ixN_1 (n : Nat) : ixN (n + 1 + 1) 1 = some 1 := ixN_nat (i := 1) (by omega)
theorem ixN_2 (n : Nat) : ixN (n + 1 + 1 + 1) 2 = some 2 := ixN_nat (i := 2) (by omega)
end HD
namespace HD
open PySem L2
abbrev FnD (K : PySem.W.Frag) (x : Str) (st : Stmt) (f : Addr) (fd : FuncData) : Prop := FunD K x x (defArgs st) (defBody st) (defScope st) [] [] f fd
theorem Def.of {G : GG} {x : Str} {st : Stmt} {f : Addr} {fd : FuncData} {N ps : List Str} {k n m : Nat} {t : DTS} {sp : DSpec} (F : FnD G.K x st f fd) (hmg : G.mg x = some (.ref f)) (sc : FnScope N ps (defScope st)) (hb : DSs G N (fnS (defScope st)) k (defBody st) t) (hm : Meets t n m sp)
    (hn : ps.length = n) (hN : N.length = n + m) (len : ∀ ds Q X, sp ds Q X → ds.length = n) (bd : Binds G.K fd ps []) : Def G (k + 1) x n sp := by
  subst hn
  refine ⟨⟨f, fd, ps, fn_ok (He5.fun_of F) sc hb fun args Qd Xd h hl => ?_, hmg, F.kp, bd⟩, len⟩
  have e : N.length - args.length = m := by omega
  rw [e]
  exact hm args Qd Xd h
theorem Def.none {G : GG} {x : Str} {st : Stmt} {f : Addr} {fd : FuncData} {ps : List Str} {k n : Nat} (F : FnD G.K x st f fd) (hmg : G.mg x = some (.ref f)) (bd : Binds G.K fd ps []) : Def G k x n fun _ _ _ => False :=
  ⟨⟨f, fd, ps, ⟨fun _ _ _ _ h => by obtain ⟨_, _, _, _, _, _, z, _⟩ := h; exact z.elim, fun _ _ _ _ _ _ _ _ _ _ _ _ _ _ h => by obtain ⟨_, _, _, _, _, _, z, _⟩ := h; exact z.elim⟩, hmg, F.kp, bd⟩, fun _ _ _ z => z.elim⟩
theorem Def.ok {G : GG} {k : Nat} {x : Str} {sp : DSpec} {fa : Addr} {st : Stmt} {fd : FuncData} {N : List Str} {m : Nat} {t : DTS} (F : FnD G.K x st fa fd) (sc : FnScope N ["script"] (defScope st)) (hb : DSs G N (fnS (defScope st)) k (defBody st) t) (hm : Meets t 1 m sp) (hN : N.length = 1 + m) :
    FnG G.P G.w G.K G.mg G.base (L2.CX G.P G.w) (k + 1) fa fd ["script"] (toSp G.K 1 sp) := by
  refine fn_ok (He5.fun_of F) sc hb fun args Qd Xd h hl => ?_
  have e : N.length - args.length = m := by
    have : args.length = 1 := hl
    omega
  rw [e]
  exact hm args Qd Xd h
theorem walkW {l : PySem.W.OpenLaw} {n k : Nat} {q : Program} {names : List Str} {XP : (Str → Option Value) → Heap → Prop} {YP : World → Heap → Prop} {d : DefRec} {CX : World → CXT} {x : Str}
    (hn : l.most = some n) (hz : n ≤ sizeLine) (hd0 : d.params.defaults = []) (room : Room k callerA)
    (F : ∀ (w : World) (mg : Str → Option Value) (f : Addr) (h : Heap), YP w h → h.Ns mainGlobals mg → mg d.name = some (.ref f) →
      ∃ (K : PySem.W.Frag) (fd : FuncData) (sp : Sp), K.In h ∧ (∀ (s : Shared) (v : Value), BindsTo s fd ⟨[v], []⟩ [(x, v)]) ∧
        (∀ (H : Hp) (a : Addr) (ns : List Int), ns.length ≤ n → SqL K H a (ns.map V.int) → sp [.ref a] H (fun v _ => v = .bl true) fun _ _ _ => False) ∧
        ∀ base : Heap, K.In base → base.Ns mainGlobals mg → FnG l.prog w K mg base (CX w) k f fd [x] sp)
    (no : ∀ (w : World) (H : Hp) (s : Shared) (e : Value) (s' : Shared), CX w [] H s (fun _ _ _ => False) e s' → False) :
    PySem.W.WalkO q names XP YP l.row.toRowW d [] (fun f vs => PySem.call f vs) := by
  refine Att.attach_call hn hd0 fun w s s1 mg mb f o pm cd doc a vs ns G Y h1 h2 h3 hm h4 h5 h6 h7 => ?_
  obtain ⟨K, fd, sp, hK, hb, hsp, hF⟩ := F w mg f _ Y G.T.g hm
  exact law_callG hK G.T.g G.T.b G.T.builtins G.T.nolimit h7 h4 h5 (Nat.le_trans h6 hz) room hF hb (fun H _ hS => hsp H a ns h6 hS) fun H e s' => no w H s1 e s'
end HD
namespace HD
open PySem PySem.Spec PyProof.Rows L2
section
variable {X : Cx} {pins : List (Addr × Obj)} {σ : L2.St} {H : Hp} {s : Shared}
theorem un_adopt {fs ex : List Addr} {H0 H1 : Hp} {h h1 : Heap} {a : Addr} {o : HO} (u : Un fs ex H0 H1 h h1) (n0 : a ∉ ex → h.get? a = none) (n1 : H1 a = none) : Un fs ex H0 (upd H1 a o) h h1 where
  keep := u.keep
  slot := u.slot
  there := u.there
  free := fun b x q n z => by
    have nb : b ≠ a := fun e => by
      subst e
      rw [n0 z] at q; cases q
    rw [upd_ne nb]; exact u.free b x q n z
  tups := fun b xs q => by
    have q1 := u.tups b xs q
    rw [upd_ne (ne_of_none q1 n1)]; exact q1
  frzs := fun b x y q => by
    have q1 := u.frzs b x y q
    rw [upd_ne (ne_of_none q1 n1)]; exact q1
  tbls := fun b ps q => by
    obtain ⟨m, q1⟩ := u.tbls b ps q
    exact ⟨m, by rw [upd_ne (ne_of_none q1 n1)]; exact q1⟩
theorem inv_adopt {a : Addr} {oe : Obj} (I : Inv X pins σ H s) (ha : s.heap.get? a = some oe) (na : H a = none) (nL : a ≠ X.env.locals) (nc : ∀ v, oe.data ≠ .cell v) (n0 : a ∉ X.ex → X.s_0.heap.get? a = none) (np : ∀ p ∈ X.pn ++ pins, p.1 ≠ a) :
    Inv X pins σ (upd H a (.frz oe (.own a))) s where
  ok := I.ok
  os := I.os
  bare := I.bare
  base := un_adopt I.base n0 na
  loc := I.loc
  cell := I.cell
  free := by rw [upd_ne (Ne.symm nL)]; exact I.free
  freeC := fun x c q => by
    obtain ⟨v, hv⟩ := I.cell x c q
    have : c ≠ a := fun e => by
      rw [e] at hv
      obtain ⟨o, q1, q2⟩ := hv
      rw [ha] at q1
      cases q1
      exact nc _ q2
    rw [upd_ne this]; exact I.freeC x c q
  pin := fun p hp => by
    obtain ⟨h1, h2, h3⟩ := I.pin p hp
    exact ⟨h1, by rw [upd_ne (np p hp)]; exact h2, h3⟩
  hok := I.hok.laidN (fun _ _ q => q) na ⟨ha, oe, ha⟩
  len := I.len
end
def wKeep (K : PySem.W.Frag) (c : Value) (i : Nat) (ts : Addr → Value → Option Addr → TS) (Wout : WX) (D : Ends) : WX := fun cls d σ H =>
  ∃ b, PySem.W.exmOne K cls c = some b ∧
    (b = true → ∀ (a : Addr) (oe : Obj), H a = none → Zc cls d oe → (∃ vs, oe.data = .fields vs) →
      ts a cls d { nx := fun σ' H' => D.nx (σ'.set i none) (upd H' a (.frz oe (.own a))), rt := fun _ _ => False } (σ.set i (some (.ref a))) H) ∧
    (b = false → Wout cls d σ H)
section
variable {X : Cx} {x n : Str} {c : Value} {i : Nat} {body suite : List Stmt} {b0 : Stmt} {np pos pos' : Pos} {tb : WX → TS} {ts : Addr → Value → Option Addr → TS} {Wout : WX}
theorem ps_try_keep (hs : X.stack = X.env :: X.outer) (hf : X.env.frame = some X.env.locals) (hN : X.N.Nodup) (hi : X.N[i]? = some n) (hl : X.env.kindOf n = some .local) (hc : Names X x c) (tk : Takes X Wout)
    (hb : ∀ (W : WX) (pn : List (Addr × Obj)) (xe : Value → Shared → Prop), Takes (X.tr pn xe) W → PassesOwn (model X.prog X.w) X.A X.env xe → PSs (X.tr pn xe) body (tb W))
    (hsu : ∀ (a : Addr) (oe : Obj) (cls : Value) (d : Option Addr) (pn : List (Addr × Obj)), Zc cls d oe → (∃ vs, oe.data = .fields vs) → PSs (X.suite a ((a, oe) :: pn)) (b0 :: suite) (ts a cls d)) :
    PS X (.Try body [.ExceptHandler (some (.Name x np)) (some n) (b0 :: suite) pos'] [] [] pos) (fun D σ H => tb (wKeep X.K c i ts Wout D) D σ H) := by
  refine ⟨fun pins s σ H D I h => wpAny_Try_except ?_⟩
  have ok := I.ok
  have fr : X.A.frames = some (X.env :: X.outer) := ok.frames.trans (by rw [hs])
  refine wpAny_mono ((hb (wKeep X.K c i ts Wout D) (X.pn ++ pins)
    (fun e t1 => wpAny (model X.prog X.w) X.A (noteFrame e X.env) (fun _ t2 => wpAny (model X.prog X.w) X.A (setFlight e none) (fun _ t3 =>
      wpAny (model X.prog X.w) X.A (handleBy e X.env [.ExceptHandler (some (.Name x np)) (some n) (b0 :: suite) pos']) (SP X pins D) X.xe t3) X.xe t2) X.xe t1)
    (fun u t xx => ?_) PassesOwn.looking).run [] s σ H D (I.toTry _) h) (fun f t1 q => ?_) (fun _ _ z => z)
  · obtain ⟨a, B, sI, pins', σ1, H1, cls, d, rfl, J0, nb, up, sky, na, os, ag, b, hb1, yes, no⟩ := xx
    have J : Inv X pins σ1 H1 sI := J0.ofTry ok
    have sky1 : Sky B (X.env :: X.outer) a (Zc cls d) X.env.locals t.heap := hs ▸ sky
    show wpAny (model X.prog X.w) X.A (noteFrame (.ref a) X.env) _ _ _
    refine Sky.land Zc.steady fr hf sky1 fun g fl ug => ?_
    have J3 : Inv X pins σ1 H1 { t with heap := g } := J.landed nb fl.1 (up.trans ug) os ag
    obtain ⟨o3, vs3, e3, z3, d3⟩ := fl.there
    have away : ∀ {k : Heap} {o : Obj} {vs : Array Value}, k.FunFrames B (X.env :: X.outer) → k.get? a = some o → o.data = .fields vs → a ∉ frs (X.env :: X.outer) := fun ff e dd hm => by
      obtain ⟨_, o', e', hnf⟩ := ff.mem hm
      rw [e] at e'
      cases e'
      exact hnf _ dd
    have nfr := away fl.2.2.1 e3 d3
    have Bn : B.get? a = none := fl.2.1
    have nL : a ≠ X.env.locals := fun z => nfr (List.mem_filterMap.mpr ⟨X.env, List.mem_cons_self, by rw [hf, z]⟩)
    have nF : a ∉ X.fs := fun hm => by
      obtain ⟨e, he, q⟩ := List.mem_filterMap.mp hm
      exact nfr (List.mem_filterMap.mpr ⟨e, List.mem_cons_of_mem _ he, q⟩)
    -- nothing stood at a ahead of the raise
    have sIn : sI.heap.get? a = none := by
      cases q : sI.heap.get? a with
      | none => rfl
      | some o =>
        have := nb a o q (by rw [hs]; exact nfr)
        rw [Bn] at this
        cases this
    have S3 := J3.suite e3 d3 na nL nF
    refine wpAny_handleBy_cons (codeAny_handlers_test ?_) (by intro q; cases q)
    have LT : PySem.W.Looks (model X.prog X.w) g (typeOf (.ref a)) cls := fun A Q E s k q => wpAny_typeOf_ref (k _ _ e3) (by rw [z3.1]; exact q)
    have LM := PySem.W.exm_one (M := model X.prog X.w) (J3.kIn) LT hb1
    have test : ∀ {Q : Value → Shared → Prop} {E : Value → Shared → Prop}, Q c { t with heap := g } → wpAny (model X.prog X.w) (X.A.mark (some (.ref a))) (eval (.Name x np) X.env) Q E { t with heap := g } := fun {Q E} q => by
      obtain ⟨hg, hd, hm | ⟨hm, hv, hnn⟩⟩ := hc
      · exact ld_glob (X := X.suite a ((a, o3) :: (X.pn ++ pins))) S3 hg hm q hd
      · exact ld_blt (X := X.suite a ((a, o3) :: (X.pn ++ pins))) S3 hg hm hv q hnn hd
    refine test (LM.here ?_)
    cases b with
    | true =>
      refine codeAny_handlers_suite_as (HandSPX.lands_againZ fl fun g4 fl4 ug4 => ?_)
      have J4 : Inv X pins σ1 H1 { t with heap := g4 } := J.landed nb fl4.1 ((up.trans ug).trans ug4) os ag
      obtain ⟨o4, vs4, e4, z4, d4⟩ := fl4.there
      have S4 := J4.suite e4 d4 na nL nF
      refine store_ok (X := X.suite a ((a, o4) :: (X.pn ++ pins))) (v := .ref a) S4 hN hi (.inl hl) rfl (fun s5 S5 => ?_) (.inr hl)
      refine wpAny_mono ((hsu a o4 cls d (X.pn ++ pins) z4 ⟨_, d4⟩).run [] s5 _ H1 _ S5 (yes rfl a o4 na z4 ⟨_, d4⟩)) (fun f s6 q => ?_) (fun _ _ z => z.elim)
      cases f with
      | next =>
        obtain ⟨σ6, H6, S6, q6⟩ := q
        obtain ⟨p1, p2, p3, p4, p5⟩ := S6.pin (a, o4) (List.mem_append_left _ List.mem_cons_self)
        have J6 : Inv X pins σ6 H6 s6 := S6.unsuite ok
        have n0 : a ∉ X.ex → X.s_0.heap.get? a = none := fun hx => by
          cases q : X.s_0.heap.get? a with
          | none => rfl
          | some o =>
            obtain ⟨o', q'⟩ := J.base.there a o q hx
            rw [sIn] at q'
            cases q'
        have npin : ∀ p ∈ X.pn ++ pins, p.1 ≠ a := fun p hp e => by
          have := (J.pin p hp).1
          rw [e, sIn] at this
          cases this
        exact gone_ok (inv_adopt J6 p1 p2 p3 p5 n0 npin) hN hi hl fun s7 J7 => ⟨_, _, J7, q6⟩
      | brk =>
        obtain ⟨σ6, H6, S6, q6⟩ := q
        exact q6.elim
      | cont =>
        obtain ⟨σ6, H6, S6, q6⟩ := q
        exact q6.elim
      | ret u =>
        obtain ⟨v6, σ6, H6, S6, r6, q6⟩ := q
        exact q6.elim
    | false =>
      show wpAny _ X.A (handleBy (.ref a) X.env []) _ _ _
      refine wpAny_handleBy_nil ?_
      obtain ⟨k1, k2, k3, oe, vs, T, oT, ts', he, hz, hd, h1, hr⟩ := id fl
      unfold PySem.passOn
      refine wpAny_bind (wpAny_field he hd h1 ?_)
      rw [if_neg (show ¬ ((Value.ref T == Value.none) = true) from by simp)]
      have last : wpAny (model X.prog X.w) X.A (setFlight (.ref a) X.env.frame) (fun _ t4 => wpAny (model X.prog X.w) X.A (throw (.ref a) : Sem Flow) (SP X pins D) X.xe t4) X.xe { t with heap := g } := by
        rw [hf]
        refine HandSPX.setFlight_upZ fl fun g4 hh ug4 => wpAny_throw (tk _ _ ?_)
        exact ⟨a, B, sI, pins, σ1, H1, cls, d, rfl, J, nb, (up.trans ug).trans ug4, .inr (.inr (by rw [hs]; exact hh)), na, os, ag, no rfl⟩
      first
        | exact wpAny_bind (wpAny_pure (wpAny_bind last))
        | exact wpAny_bind last
  · cases f with
    | next =>
      obtain ⟨σ1, H1, J1, q1⟩ := q
      exact wpAny_execs_nil ⟨σ1, H1, J1.ofTry ok, q1⟩
    | brk =>
      obtain ⟨σ1, H1, J1, q1⟩ := q
      exact ⟨σ1, H1, J1.ofTry ok, q1⟩
    | cont =>
      obtain ⟨σ1, H1, J1, q1⟩ := q
      exact ⟨σ1, H1, J1.ofTry ok, q1⟩
    | ret u =>
      obtain ⟨v, σ1, H1, J1, r, q1⟩ := q
      exact ⟨v, σ1, H1, J1.ofTry ok, r, q1⟩
end
end HD
namespace HD
open PySem L2
def sRaise (x : Str) : DTS := fun Ex _ env => Ex x env
section
variable {G : GG} {N : List Str} {sc : SC} {k : Nat}
structure XCat (G : GG) (x : Str) (cs : List Str) : Prop where
  mg : G.mg x = some (clsV G.K x)
  exm : ∀ c ∈ cs, PySem.W.exmOne G.K (clsV G.K c) (clsV G.K x) = some true
  pl : ∀ c ∈ cs, isNt c = false
theorem pl_of {cs : List Str} (h : (cs.all fun c => !isNt c) = true) : ∀ c ∈ cs, isNt c = false := fun c hc => by
  have := List.all_eq_true.1 h c hc
  simpa using this
def sTryKeepP (P : Str → Prop) (i j : Nat) (t : DTS) : DTS := fun _ E env => t (fun c env1 => P c ∧ i < env1.length ∧ E.nx ((env1.set j (.ext (.exc c))).set i .un)) E env
def sTryKeep (cs : List Str) (i j : Nat) (t : DTS) : DTS := fun _ E env => t (fun c env1 => c ∈ cs ∧ i < env1.length ∧ E.nx ((env1.set j (.ext (.exc c))).set i .un)) E env
theorem ds_tryKeepP {x n m : Str} {P : Str → Prop} {body : List Stmt} {t : DTS} {np pm pn ap pos pos' : Pos} (i j : Nat) (hmg : G.mg x = some (clsV G.K x)) (hex : ∀ c, P c → PySem.W.exmOne G.K (clsV G.K (xk c)) (clsV G.K x) = some true) (hb : DSs G N sc k body t) (htop : sc.top = true := by rfl) (hi : N[i]? = some n := by rfl) (hj : N[j]? = some m := by rfl) (hij : i ≠ j := by decide)
    (hg : GlS sc x := by rfl) (hn : sc.sc.names.lookup n = some .local := by rfl) (hm : sc.sc.names.lookup m = some .local := by rfl) (hdb : (x == ("__debug__" : Str)) = false := by decide)
    (hdn : (n == ("__debug__" : Str)) = false := by decide) (hcn : (n == ("__classdict__" : Str)) = false := by decide) (hs : ∀ env, env.scope = sc.sc → swapsWith (.Name n pn) (some (.Name m pm)) ap.line env = pure false := by intro _ _; rfl) :
    DS G N sc k (.Try body [.ExceptHandler (some (.Name x np)) (some n) [.Assign [.Name m pm] (.Name n pn) ap] pos'] [] [] pos) (sTryKeepP P i j t) := ⟨fun W => by
  have tb : ∀ W' : WX, ∃ ts, (∀ X, Sit G N sc W' k X → PSs X body ts) ∧ ImS G.K W' ts t := hb.ex
  let ts : WX → TS := fun W' => Classical.choose (tb W')
  have p1 : ∀ W' X, Sit G N sc W' k X → PSs X body (ts W') := fun W' => (Classical.choose_spec (tb W')).1
  have i1 : ∀ W', ImS G.K W' (ts W') t := fun W' => (Classical.choose_spec (tb W')).2
  let su : Addr → Value → Option Addr → TS := fun _ _ _ => tAsg (tVar i) (gName j)
  refine ⟨fun D σ H => ts (wKeep G.K (clsV G.K x) i su W D) D σ H, fun X S => ?_, fun e Ex hl env F σ H E Dn hh ht ok => ?_⟩
  · have hk : X.env.kindOf n = some .local := by unfold Env.kindOf; rw [S.scp]; exact hn
    have key := ps_try_keep (X := X) (x := x) (n := n) (c := clsV G.K x) (i := i) (body := body) (suite := []) (b0 := .Assign [.Name m pm] (.Name n pn) ap) (np := np) (pos := pos) (pos' := pos') (tb := ts) (ts := su) (Wout := W)
      (S.stk htop).1 (S.stk htop).2 (by rw [S.nms]; exact S.nd) (by rw [S.nms]; exact hi) hk ⟨S.gl hg, hdb, .inl (by rw [S.mg]; exact hmg)⟩ S.tk
      (fun W' pn xe tk own => p1 W' _ ⟨S.prog, S.w, S.K, S.mg, S.base, S.nms, S.nd, S.scp, S.calm, S.room, tk, S.fn, own, S.stk, S.gd⟩)
      (fun a oe cls d pn hz hd => pss_one (ps_set (X := X.suite a ((a, oe) :: pn)) (i := j) (by rw [show (X.suite a ((a, oe) :: pn)).N = N from S.nms]; exact S.nd) (by rw [show (X.suite a ((a, oe) :: pn)).N = N from S.nms]; exact hj) (.inl (by show X.env.kindOf m = _; unfold Env.kindOf; rw [S.scp]; exact hm)) (pe_var (by rw [show (X.suite a ((a, oe) :: pn)).N = N from S.nms]; exact hi) (.inl hk) hdn hcn) (hs _ S.scp) (.inr (by show X.env.scope.names.lookup m = _; rw [S.scp]; exact hm))))
    rw [S.K] at key
    exact key
  · refine i1 _ e _ (fun c dc env1 F1 σ1 H1 h1 xd q1 => ?_) env F σ H E Dn hh ht ok
    obtain ⟨hc, hil, q⟩ := q1
    refine ⟨true, hex c hc, fun _ a oe na zc hd => ?_, fun z => by cases z⟩
    have g := Grow.frozen (o := .frz oe (.own a)) h1.fh na
    have h2 := h1.grow g
    have rp : Rep G.K (upd F1 a (.frz oe (.own a))) (.exc c) (.ref a) := ⟨a, oe, rfl, upd_same, zc.1, by rw [zc.2]; exact xd.same g.ff, hd⟩
    have h3 := ((h2.pushE rp).assign j trivial).wipe1 i
    have e1 : (((σ1.set i (some (V.ref a))).set j (some (V.ref a))).set i none) = (σ1.set j (some (V.ref a))).set i none := by
      rw [List.set_comm _ _ hij, List.set_set]
    refine ⟨.ref a, ?_, ?_⟩
    · rw [List.getElem?_set_self (by rw [← h1.len]; exact hil)]
    · show Dn.nx (((σ1.set i (some (V.ref a))).set j (some (V.ref a))).set i none) _
      rw [e1]
      exact ok.nx _ _ _ _ h3 q⟩
def sTryKeepN (cs : List Str) (i j : Nat) (t : DTS) : DTS := fun _ E env => t (fun c env1 => xk c ∈ cs ∧ i < env1.length ∧ E.nx ((env1.set j (.ext (.exc c))).set i .un)) E env
theorem ds_tryKeepN {x n m : Str} {cs : List Str} {body : List Stmt} {t : DTS} {np pm pn ap pos pos' : Pos} (i j : Nat) (hx : XCat G x cs) (hb : DSs G N sc k body t) (htop : sc.top = true := by rfl) (hi : N[i]? = some n := by rfl) (hj : N[j]? = some m := by rfl) (hij : i ≠ j := by decide)
    (hg : GlS sc x := by rfl) (hn : sc.sc.names.lookup n = some .local := by rfl) (hm : sc.sc.names.lookup m = some .local := by rfl) (hdb : (x == ("__debug__" : Str)) = false := by decide)
    (hdn : (n == ("__debug__" : Str)) = false := by decide) (hcn : (n == ("__classdict__" : Str)) = false := by decide) (hs : ∀ env, env.scope = sc.sc → swapsWith (.Name n pn) (some (.Name m pm)) ap.line env = pure false := by intro _ _; rfl) :
    DS G N sc k (.Try body [.ExceptHandler (some (.Name x np)) (some n) [.Assign [.Name m pm] (.Name n pn) ap] pos'] [] [] pos) (sTryKeepN cs i j t) :=
  ds_tryKeepP (P := fun c => xk c ∈ cs) i j hx.mg (fun c hc => hx.exm _ hc) hb htop hi hj hij hg hn hm hdb hdn hcn hs
end
end HD
namespace HD
open PySem L2
abbrev FTab := Str → Option (Nat × DSpec)
def dCallV (FT : FTab) (i : Nat) (ta : DTA) : DT := fun Ex env Q => match env[i]? with
  | some (.ext (.glo nm)) => ∃ n spec, FT nm = some (n, spec) ∧ dCall spec ta Ex env Q
  | _ => False
section
variable {G : GG} {N : List Str} {sc : SC} {k kf : Nat} {x : Str} {FT : FTab} {e : Expr} {es : List Expr} {p pos : Pos}
theorem de_glo {x : Str} {pos : Pos} (hm : G.mg x = some (clsV G.K x)) (hg : GlS sc x := by rfl) (hd : (x == ("__debug__" : Str)) = false := by decide) : DE G N sc k (.Name x pos) (dC (.glo x)) :=
  ⟨fun _ => ⟨tC (.ref (He.ga G.K x)), fun X S => pe_glob (S.gl hg) (by rw [S.mg]; exact hm) rfl hd, im_const fun _ => rfl⟩⟩
end
end HD
namespace PySem.W
open PySem PySem.Spec PySem.Calls PyProof.Rows
section
variable {prog : Program} {w : World} {A : Around} {E : Value → Shared → Prop} {s : Shared} {K : Frag} {x D : Addr} {ox : Obj}
theorem findObj_dataD {C : Addr} {od : Option Obj} {name : Str} {a g : Value} (hc : (clsIn K C).isSome = true) (ha : findIn K (.ref C) name = some (some a)) (hg : specialIn K a "__get__" = some (some g)) (ht : takesIn K a = some true) : findObj K C od name = some (.bind g a) := by
  cases h : clsIn K C with
  | none =>
    rw [h] at hc
    cases hc
  | some cd => simp [findObj, h, ha, hg, ht]
theorem isx_class {od : Option Obj} {Q : Option Value → Shared → Prop} (hga : findIn K (.ref D) "__getattribute__" = some (some (.builtin "BaseException.__getattribute__"))) (hgt : findIn K (.ref D) "__getattr__" = some none) (hsub : subIn K (.ref D) (.type "BaseException") = some true)
    (hdct : hasDictIn K D = true) (ha : findIn K (.ref D) "__class__" = some (some (.builtin "object.__class__")))
    (hn : specialIn K (.builtin "object.__class__") "__get__" = some (some (.builtin "getset_descriptor.__get__"))) (htk : takesIn K (.builtin "object.__class__") = some true) (hm : mroIn K D (.type "object") = some true)
    (X : K.In s.heap) (I : InstAt s.heap x ox D od) (h : Q (some (.ref D)) { s with toks := s.toks + 1 }) : wpAny (model prog w) A (getAttr? (.ref x) "__class__") Q E s := by
  have hcs : (clsIn K D).isSome = true := by
    obtain ⟨cd, hc, _⟩ := any_some hdct
    rw [hc]
    rfl
  obtain ⟨hp, g, d, t, os⟩ := s
  have lt := I.type (M := model prog w)
  have lg := looks_findIn (M := model prog w) X hga
  have lh := looks_findIn (M := model prog w) X hgt
  have lf := looks_find (M := model prog w) X I (findObj_dataD (od := od) hcs ha hn htk)
  have ls : Looks (model prog w) hp (isInstance (.ref x) (.type "BaseException")) true := lt.andThen (looks_subIn X hsub)
  have ne : (Value.builtin "BaseException.__getattribute__" == Value.builtin "object.__getattribute__") = false := by decide +kernel
  unfold getAttr? getAttrBy? getAttrBy
  refine wpAny_bind (wpAny_mkText (wpAny_bind (wpAny_attempt (wpAny_holding (wpAny_bind (lt.at (wpAny_bind (lg.at ?_))))))))
  show wpAny _ _ (if (onTheHeap (Value.ref D) && Value.builtin "BaseException.__getattribute__" == Value.builtin "object.__getattribute__") = true then _ else _) _ _ _
  rw [if_neg (by rw [ne, Bool.and_false]; exact Bool.false_ne_true)]
  unfold getAttrByItsOwn hookBefore
  refine wpAny_bind ?_
  rw [if_pos (show onTheHeap (Value.ref D) = true from rfl)]
  refine lh.at ?_
  refine wpAny_bind (wpAny_attempt (wpAny_holding ?_))
  unfold callGetattribute
  rw [if_neg (show ¬ (false && onTheHeap (Value.builtin "BaseException.__getattribute__")) = true from Bool.false_ne_true)]
  unfold boundAndCalled
  rw [PySem.F.excAttr_ValueError.ga.bind (.ref x)]
  refine wpAny_bind (wpAny_pure ?_)
  show wpAny _ _ (call (.builtin "BaseException.__getattribute__") [.ref x, .str "__class__" t]) _ _ _
  refine wpAny_call (codeAny_call_builtin PySem.F.excAttr_ValueError.ga.plain PySem.F.entry_bexc_ga ?_)
  refine @check_slot (model prog w) _ _ ⟨hp, g, d, t + 1, os⟩ "BaseException.__getattribute__" "BaseException" "__getattribute__" (.ref x) [.str "__class__" t] [] _ (by decide +kernel) (by decide +kernel) ls (PySem.F.args_bexc_ga (.ref x) (.str "__class__" t)) ?_
  unfold Builtin.«object.__getattribute__»
  refine wpAny_bind (wpAny_of_eq (a := ((Value.ref x : Value), [Value.str "__class__" t])) (by first | rfl | (simp only [slotArgs]; rfl)) ?_)
  refine wpAny_bind (wpAny_pure (wpAny_bind (lt.at (wpAny_bind (lf.at ?_)))))
  show wpAny _ _ (holding [Value.builtin "object.__class__"] (call (.builtin "getset_descriptor.__get__") [.builtin "object.__class__", .ref x, .ref D]) >>= ret) _ _ _
  refine wpAny_bind (wpAny_holding (wpAny_call (class_get (s := ⟨hp, g, d, t + 1, os⟩) (ox := ox) (od := od) X I hm ?_)))
  refine wpAny_pure ?_
  show wpAny _ _ (handedOut (.ref D)) _ _ _
  rw [handedOut_of (v := .ref D) rfl]
  first
    | exact wpAny_pure (wpAny_pure h)
    | exact wpAny_pure h
    | exact wpAny_pure (wpAny_bind (wpAny_pure (wpAny_pure h)))
theorem isx_kitD {od : Option Obj} (hga : findIn K (.ref D) "__getattribute__" = some (some (.builtin "BaseException.__getattribute__"))) (hgt : findIn K (.ref D) "__getattr__" = some none) (hsub : subIn K (.ref D) (.type "BaseException") = some true) (hdct : hasDictIn K D = true) (ha : findIn K (.ref D) "__class__" = some (some (.builtin "object.__class__")))
    (hn : specialIn K (.builtin "object.__class__") "__get__" = some (some (.builtin "getset_descriptor.__get__"))) (htk : takesIn K (.builtin "object.__class__") = some true) (hm : mroIn K D (.type "object") = some true) :
    KitX K (.ref x) (.ref D) (fun h => InstAt h x ox D od) where
  ty := fun _ _ _ I => I.type
  it := fun _ _ X _ => by
    obtain ⟨cdD, hcD, _⟩ := any_some hdct
    unfold clsIn at hcD
    split at hcD
    · rename_i c' d' cd' sl' ho
      intro A' Q' E' s' k q
      unfold isType loadHead
      exact wpAny_bind (wpAny_loadPart (k _ _ (X _ _ ho)) (wpAny_pure q))
    · cases hcD
  ne := (handS_kitx_exc (x := x) (ox := ox) hga hgt hsub hdct ha hn htk hm).ne
  ca := fun X I q => isx_class hga hgt hsub hdct ha hn htk hm X I q
end
end PySem.W
namespace HD
open PySem L2
def isxB (K : PySem.W.Frag) (x : Str) : Bool :=
  decide (PySem.W.findIn K (clsV K x) "__getattribute__" = some (some (.builtin "BaseException.__getattribute__"))) && (decide (PySem.W.findIn K (clsV K x) "__getattr__" = some none) && (decide (PySem.W.subIn K (clsV K x) (.type "BaseException") = some true) &&
    (PySem.W.hasDictIn K (He.ga K x) && (decide (PySem.W.findIn K (clsV K x) "__class__" = some (some (.builtin "object.__class__"))) && (decide (PySem.W.specialIn K (.builtin "object.__class__") "__get__" = some (some (.builtin "getset_descriptor.__get__"))) &&
      (decide (PySem.W.takesIn K (.builtin "object.__class__") = some true) && decide (PySem.W.mroIn K (He.ga K x) (.type "object") = some true)))))))
theorem isx_kit {K : PySem.W.Frag} {x : Str} {a : Addr} {oe : Obj} (h : isxB K x = true) : PySem.W.KitX K (.ref a) (clsV K x) (fun g => PySem.W.InstAt g a oe (He.ga K x) none) := by
  unfold isxB at h
  simp only [Bool.and_eq_true, decide_eq_true_eq] at h
  obtain ⟨h1, h2, h3, h4, h5, h6, h7, h8⟩ := h
  exact PySem.W.handS_kitx_exc h1 h2 h3 h4 h5 h6 h7 h8
theorem isx_kitO {K : PySem.W.Frag} {x : Str} {a : Addr} {oe : Obj} {od : Option Obj} (h : isxB K x = true) : PySem.W.KitX K (.ref a) (clsV K x) (fun g => PySem.W.InstAt g a oe (He.ga K x) od) := by
  unfold isxB at h
  simp only [Bool.and_eq_true, decide_eq_true_eq] at h
  obtain ⟨h1, h2, h3, h4, h5, h6, h7, h8⟩ := h
  exact PySem.W.isx_kitD h1 h2 h3 h4 h5 h6 h7 h8
abbrev XTab := Str → D → Option Bool
def D.clsVal (K : PySem.W.Frag) : D → Option Value
  | .glo x => some (clsV K x)
  | .val (.ty T) => some (.type T)
  | _ => none
structure XIs (K : PySem.W.Frag) (tab : XTab) : Prop where
  all : ∀ c d b, tab c d = some b → isxB K (xk c) = true ∧ ∃ u, D.clsVal K d = some u ∧ PySem.W.kitOne K (clsV K (xk c)) u = some b
def fIsX (tab : XTab) : List D → (Sl → Prop) → Prop
  | [.exc c, d], Q => ∃ b, tab c d = some b ∧ Q (.ext (.bl b))
  | _, _ => False
def rIsX (K : PySem.W.Frag) : List V → Hp → VK → Prop := fun xs H Q => ∃ (a : Addr) (oe : Obj) (x : Str) (v : V) (u : Value) (b : Bool), xs = [.ref a, v] ∧ H a = some (.frz oe (.own a)) ∧ oe.cls = clsV K x ∧ (oe.dict = none ∨ ∃ dd fs, oe.dict = some dd ∧ H dd = some (.xd fs)) ∧ (∃ vs, oe.data = .fields vs) ∧
  isxB K x = true ∧ (∀ w, RelV v w → w = u) ∧ PySem.W.kitOne K (clsV K x) u = some b ∧ Q (.bl b) H
theorem call_isX {X : Cx} : CallR X (.builtin "isinstance") (rIsX X.K) := by
  intro pins s σ H xs us Q I r h
  obtain ⟨a, oe, x, v, u, b, rfl, hH, hc, hd, ⟨vs, hf⟩, hx, hv, e, q⟩ := h
  obtain ⟨u1, u2, rfl, r1, r2⟩ := vals2 r
  cases (show u1 = Value.ref a from r1)
  have e2 := hv _ r2
  subst e2
  have ho := (I.hok a _ hH).1
  rcases hd with hd | ⟨dd, fs, hd, hdd⟩
  · have ia : PySem.W.InstAt s.heap a oe (He.ga X.K x) none := ⟨ho, hc, by unfold PySem.W.notCls; rw [hf], by rw [hd]; trivial⟩
    exact PySem.W.kia_one (isx_kit hx) I.kIn ia e (by intro z; cases z) fun tk => ⟨.bl b, H, I.tok tk, rfl, q⟩
  · have hx2 : ObjOk X.prog X.w H s.heap dd (.xd fs) := I.hok dd _ hdd
    obtain ⟨mA, hns, hr⟩ := hx2
    obtain ⟨od, hod, hl⟩ := lookIn_ns hns
    have ia : PySem.W.InstAt s.heap a oe (He.ga X.K x) (some od) := ⟨ho, hc, by unfold PySem.W.notCls; rw [hf], by rw [hd]; exact hod⟩
    exact PySem.W.kia_one (isx_kitO (od := some od) hx) I.kIn ia e (by intro z; cases z) fun tk => ⟨.bl b, H, I.tok tk, rfl, q⟩
theorem pr_isX {K : PySem.W.Frag} {tab : XTab} (T : XIs K tab) : Pr K (rIsX K) (fIsX tab) := fun F H vs ds Q R fh h hf ha => by
  rcases ds with _ | ⟨d1, _ | ⟨d, _ | ⟨d3, ds⟩⟩⟩ <;> try exact hf.elim
  · cases d1 <;> exact hf.elim
  · cases d1 <;> try exact hf.elim
    rename_i c
    obtain ⟨b, hb, q⟩ := hf
    obtain ⟨h1, u, h2, h3⟩ := T.all c d b hb
    obtain ⟨v1, r1, rfl, g1, v2, r2, rfl, g2, rfl⟩ := h
    have g1' : Rep K F (.exc c) v1 := by
      rcases g1 with z | ⟨_, _, _, z, _⟩
      · exact z
      · cases z
    obtain ⟨a, oe, rfl, x1, x2, x3, x4⟩ := g1'
    have x3' : oe.dict = none ∨ ∃ dd fs, oe.dict = some dd ∧ H dd = some (.xd fs) := by
      rcases x3 with ⟨_, z⟩ | ⟨n, dd, fs, _, z1, z2, _⟩
      · exact .inl z
      · exact .inr ⟨dd, fs, z1, fh _ _ z2⟩
    refine ⟨a, oe, xk c, v2, u, b, rfl, fh _ _ x1, x2, x3', x4, h1, fun w hw => ?_, h3, ha.bl fh q⟩
    rcases g2 with z | ⟨_, _, _, z, _⟩
    · cases d with
      | glo y =>
        have e1 : v2 = .ref (He.ga K y) := z
        subst e1
        have e2 : w = .ref (He.ga K y) := hw
        cases h2
        exact e2
      | val y =>
        have e1 : v2 = y := z
        subst e1
        cases v2 with
        | ty T =>
          cases h2
          exact hw
        | _ => cases h2
      | _ => cases h2
    · subst z
      cases h2
  · cases d1 <;> exact hf.elim
section
variable {G : GG} {N : List Str} {sc : SC} {k : Nat} {e : Expr} {es : List Expr} {t : DTA} {p pos : Pos} {tab : XTab}
theorem de_isX (T : XIs G.K tab) (hm : G.mg "isinstance" = none) (ha : DAs G N sc k (e :: es) t) (hg : GlS sc "isinstance" := by rfl)
    (he : NoStar e es := by intro _; rfl) (hpl : ∀ env, (backTo pos (starEach es env)).any (·.1) = false := by intro _; rfl) : DE G N sc k (.Call (.Name "isinstance" p) (e :: es) [] pos) (dCB (fIsX tab) t) := ⟨fun W => by
  obtain ⟨ta, p1, i1⟩ := ha.ex W
  refine ⟨tCB (rIsX G.K) ta, fun X S => ?_, im_cb (pr_isX T) i1⟩
  have c : CallR X (.builtin "isinstance") (rIsX X.K) := call_isX
  rw [S.K] at c
  exact pe_callB c (S.gl hg) (by rw [S.mg]; exact hm) (by decide +kernel) (p1 X S) (by decide) (by decide) (he _) (hpl _)⟩
end
end HD
namespace HD
open PySem PyProof.Rows L2
section
variable {X : Cx}
def rCntV (K : PySem.W.Frag) : V → List V → Hp → VK → Prop := fun x xs H Q => ∃ (a : Addr) (ys : List V) (y : V), x = V.ref a ∧ xs = [y] ∧ SqL K H a ys ∧ flatV y = true ∧ ys.all flatV = true ∧ Q (.int ((ys.countP fun z => eqV z y : Nat) : Int)) H
theorem mt_countF : MtR X "list.count" (rCntV X.K) := by
  intro pins s σ H x xs v us Q I rx rs h
  obtain ⟨p, ys, y, rfl, rfl, hs, fy, fys, q⟩ := h
  cases rx
  obtain ⟨u, rfl, ru⟩ := vals1 rs
  obtain ⟨its, r, ⟨⟨cls, dd, data, sl⟩, n, ho, hc, hdn, hd⟩, hlen⟩ := I.list hs
  simp only at hc hd
  subst hc hd
  have ec : ∀ {zs : List V} {ws : List Value}, Vals zs ws → zs.all flatV = true → ws.countP (eqU y) = zs.countP fun z => eqV z y := by
    intro zs ws rv
    induction rv with
    | nil => intro _; rfl
    | cons r1 rr ih =>
      intro hf
      rw [List.all_cons, Bool.and_eq_true] at hf
      rw [List.countP_cons, List.countP_cons, ih hf.2, eqU_of r1 hf.1]
  refine call_meets PySem.F.slot_list_count ⟨_, ho, rfl⟩ PySem.F.entry_list_count (PySem.F.args_list_count_2 _ _)
    (SeqAt.list_countAt p its.toArray n dd sl u (eqU y)) ⟨ho, fun w hw => mem_eqAt ru fy r fys w (by simpa using hw), ?_⟩
  refine ⟨.int ((ys.countP fun z => eqV z y : Nat) : Int), H, I.tok _, ⟨s.toks, ?_⟩, q⟩
  show Value.int ((its.toArray.toList.countP (eqU y) : Nat) : Int) s.toks = _
  rw [show its.toArray.toList = its from rfl, ec r fys]
end
def dMeth (T : D → Bool) (f : D → D → (Sl → Prop) → Prop) (to ta : DT) : DT := fun Ex env Q => to Ex env fun x env1 => wd env1 x (fun d => T d = true) ∧ ta Ex env1 fun y env2 => wd env2 x fun d => wd env2 y fun d' => f d d' fun sl => Q sl env2
def TyIs (K : PySem.W.Frag) (tn : String) (T : D → Bool) : Prop := ∀ F H d v, Same F H → RepT K F H d v → T d = true → tyV K tn v H
def D.isLst : D → Bool
  | .lst _ => true
  | _ => false
def D.isStr : D → Bool
  | .str _ => true
  | _ => false
theorem ty_lst {K : PySem.W.Frag} : TyIs K "list" D.isLst := fun F H d v fh r h => by
  cases d with
  | lst ds =>
    obtain ⟨a, vs, rfl, hs, _⟩ := r.lst fh
    exact .inl ⟨rfl, vs, SqL.of hs⟩
  | _ => exact absurd h (by simp [D.isLst])
theorem ty_str {K : PySem.W.Frag} : TyIs K "str" D.isStr := fun F H d v fh r h => by
  cases d with
  | str x => rw [r.str]; rfl
  | _ => exact absurd h (by simp [D.isStr])
section
variable {G : GG} {N : List Str} {sc : SC} {k : Nat} {a b : Expr} {ta tb : DT} {name : Str} {apos cpos : Pos} {tn id : String} {T : D → Bool} {r : PySem.W.Frag → V → List V → Hp → VK → Prop} {f : D → D → (Sl → Prop) → Prop}
theorem de_meth (pa : PlainAttrs tn) (slot : Slot tn name id) (hty : typeOf (.builtin id) = pure (.type "method_descriptor")) (hm : ∀ X : Cx, MtR X id (r X.K)) (hT : ∀ K, TyIs K tn T) (hr : ∀ K, Pr2 K (fun v u H R => r K v [u] H R) f) (ha : DE G N sc k a ta) (hb : DE G N sc k b tb)
    (hw : FewArgs a name b [] cpos := by intro _; exact ⟨rfl, rfl, rfl, rfl⟩) (hline : (apos.endLine == cpos.line) = true := by rfl) : DE G N sc k (.Call (.Attribute a name apos) [b] [] cpos) (dMeth T f ta tb) := ⟨fun W => by
  obtain ⟨te, p1, i1⟩ := ha.ex W
  obtain ⟨tf, p2, i2⟩ := hb.ex W
  refine ⟨tBM G.K tn (r G.K) te (tCons tf tNil), fun X S => ?_, fun e Ex hl env T' F σ H Q R hh ht hR => ?_⟩
  · obtain ⟨hbase, hfew, hs, hplain⟩ := hw X.env
    rw [← S.K]
    exact pe_bm pa slot hty (hm X) (p1 X S) (pa_cons (p2 X S) pa_nil hs) hbase hfew hline hs hplain
  · refine i1 e Ex hl env T' F σ H _ _ hh ht fun v H1 F1 env1 x hh1 q1 => ?_
    obtain ⟨q0, q1⟩ := q1
    obtain ⟨d0, rd0, h0⟩ := hh1.wd (v := v) (sl := x) List.mem_cons_self q0
    refine ⟨hT G.K F1 H1 d0 v hh1.fh rd0 h0, ?_⟩
    refine i2 e Ex hl env1 _ F1 σ H1 _ _ hh1 q1 fun u H2 F2 env2 y hh2 q2 => ?_
    obtain ⟨d, rd, q3⟩ := hh2.wd (v := v) (sl := x) (List.mem_cons_of_mem _ List.mem_cons_self) q2
    obtain ⟨d', rd', q4⟩ := hh2.wd (v := u) (sl := y) List.mem_cons_self q3
    exact hr G.K F2 H2 v u d d' _ R hh2.fh rd rd' q4 (hh2.pop.pop.done hR)⟩
end
def fCount (d d' : D) (Q : Sl → Prop) : Prop := match d with
  | .lst ds => d'.flat = true ∧ ds.all D.flat = true ∧ Q (.ext (.int ((ds.countP fun z => eqV z.toV d'.toV : Nat) : Int)))
  | _ => False
theorem pr_count (K : PySem.W.Frag) : Pr2 K (fun v u H R => rCntV K v [u] H R) fCount := fun F H v u d d' Q R fh r1 r2 h ha => by
  cases d <;> try exact h.elim
  rename_i ds
  obtain ⟨f1, f2, q⟩ := h
  obtain ⟨a, vs, rfl, hs, rr⟩ := r1.lst fh
  obtain ⟨x1, x2⟩ := flat_rep (r2.rep fh) f1
  obtain ⟨e1, e2⟩ := flat_reps rr f2
  refine ⟨a, vs, u, rfl, rfl, SqL.of hs, x2, e2, ?_⟩
  rw [x1, e1, List.countP_map]
  exact ha.int fh q
def fSplit (d d' : D) (Q : Sl → Prop) : Prop := match d, d' with
  | .str a, .str b => (b.length == 0) = false ∧ a.length + 2 ≤ sizeLine ∧ ∀ p, Q (.lst p ((Txt.split a b).map D.str))
  | _, _ => False
theorem Reps.of_strs {K : PySem.W.Frag} {F : Hp} : ∀ (ns : List Str), Reps K F (ns.map D.str) (ns.map V.str)
  | [] => rfl
  | n :: ns => ⟨_, _, rfl, rfl, Reps.of_strs ns⟩
theorem pr_split (K : PySem.W.Frag) : Pr2 K (fun v u H Q => ∃ a b, v = .str a ∧ [u] = [.str b] ∧ (b.length == 0) = false ∧ a.length + 2 ≤ sizeLine ∧ rNewStrs (Txt.split a b) H Q) fSplit := fun F H v u d d' Q R fh r1 r2 h ha => by
  cases d <;> try exact h.elim
  cases d' <;> try exact h.elim
  rename_i a b
  obtain ⟨f1, f2, q⟩ := h
  refine ⟨a, b, r1.str, by rw [r2.str], f1, f2, fun p hp => ?_⟩
  exact ha.lst fh hp (Reps.of_strs _) (q p)
section
variable {G : GG} {N : List Str} {sc : SC} {k : Nat} {a b : Expr} {ta tb : DT} {apos cpos : Pos}
theorem de_count (ha : DE G N sc k a ta) (hb : DE G N sc k b tb) (hw : FewArgs a "count" b [] cpos := by intro _; exact ⟨rfl, rfl, rfl, rfl⟩) (hline : (apos.endLine == cpos.line) = true := by rfl) : DE G N sc k (.Call (.Attribute a "count" apos) [b] [] cpos) (dMeth D.isLst fCount ta tb) :=
  de_meth (r := rCntV) PySem.F.plainAttrs_list PySem.F.slot_list_count PySem.F.type_list_count (fun _ => mt_countF) (fun _ => ty_lst) pr_count ha hb hw hline
theorem de_split (ha : DE G N sc k a ta) (hb : DE G N sc k b tb) (hw : FewArgs a "split" b [] cpos := by intro _; exact ⟨rfl, rfl, rfl, rfl⟩) (hline : (apos.endLine == cpos.line) = true := by rfl) : DE G N sc k (.Call (.Attribute a "split" apos) [b] [] cpos) (dMeth D.isStr fSplit ta tb) :=
  de_meth (r := fun _ => fun x xs H Q => ∃ a b, x = .str a ∧ xs = [.str b] ∧ (b.length == 0) = false ∧ a.length + 2 ≤ sizeLine ∧ rNewStrs (Txt.split a b) H Q) PySem.F.plainAttrs_str PySem.F.slot_str_split PySem.F.type_str_split (fun _ => mt_split) (fun _ => ty_str) pr_split ha hb hw hline
end
def xAll : List Str := ["NoFilling", "NoName", "TooMany", "NoDeeds", "NoOffers", "NoTree", "NoBag", "NoPart", "NoWorths", "NoBack", "NoWeights", "NoNumber", "NoRow", "NoText"]
def xtab (cs : List Str) : XTab := fun c d => if c ∈ cs then (match d with
  | .glo x => if x ∈ xAll then some (decide (x = c)) else none
  | .val (.ty T) => if T = "ValueError" then some true else none
  | _ => none) else none
def xsB (cs : List Str) (K : PySem.W.Frag) : Bool := cs.all fun c => isxB K c && ((xAll.all fun x => decide (PySem.W.kitOne K (clsV K c) (clsV K x) = some (decide (x = c)))) && (decide (PySem.W.kitOne K (clsV K c) (.type "ValueError") = some true) && decide (PySem.W.exmOne K (clsV K c) (clsV K "SumError") = some true)))
theorem xtab_ok {cs : List Str} {K : PySem.W.Frag} (h : xsB cs K = true) {c : Str} {d : D} {b : Bool} (e : xtab cs c d = some b) : c ∈ cs ∧ isxB K c = true ∧ ∃ u, D.clsVal K d = some u ∧ PySem.W.kitOne K (clsV K c) u = some b := by
  unfold xtab at e
  split at e
  · rename_i hc
    have h := List.all_eq_true.1 h c hc
    simp only [Bool.and_eq_true, decide_eq_true_eq, List.all_eq_true] at h
    obtain ⟨h1, h2, h3, h4⟩ := h
    refine ⟨hc, h1, ?_⟩
    split at e
    · rename_i x
      split at e
      · rename_i hx
        cases e
        exact ⟨_, rfl, h2 x hx⟩
      · cases e
    · rename_i T
      split at e
      · rename_i hT
        cases e
        subst hT
        exact ⟨_, rfl, h3⟩
      · cases e
    · cases e
  · cases e
def xtabN (cs : List Str) : XTab := fun c d => xtab cs (xk c) d
theorem xisN_of {cs : List Str} {K : PySem.W.Frag} (h : xsB cs K = true) : XIs K (xtabN cs) := ⟨fun c d b e => (xtab_ok h e).2⟩
theorem xcat_of {cs : List Str} {G : GG} (h : xsB cs G.K = true) (hm : G.mg "SumError" = some (clsV G.K "SumError")) (hp : (cs.all fun c => !isNt c) = true := by decide +kernel) : XCat G "SumError" cs := ⟨hm, fun c hc => by
  have h := List.all_eq_true.1 h c hc
  simp only [Bool.and_eq_true, decide_eq_true_eq, List.all_eq_true] at h
  exact h.2.2.2, pl_of hp⟩
end HD
namespace HD
open PySem L2
section
variable {g : DTG} {tt : DTT} {te : DT} {vs : List Nat} {keep : Env' → Prop} {Q : Sl → Env' → Prop} {env : Env'} {α : Type}
theorem fm_if {α β : Type} (f : α → β) (p : α → Bool) (xs : List α) : xs.filterMap (fun x => if p x = true then some (f x) else none) = (xs.filter p).map f := by
  induction xs with
  | nil => rfl
  | cons y xs ih =>
    by_cases hy : p y = true
    · rw [List.filterMap_cons_some (b := f y) (by rw [if_pos hy]), List.filter_cons_of_pos hy, List.map_cons, ih]
    · rw [List.filterMap_cons_none (by rw [if_neg hy]), List.filter_cons_of_neg hy, ih]
theorem lc_fm (i : α → D) (f : α → Option D) (hk : keep env) (xs : List α) : ∀ acc : List D, acc.length + xs.length ≤ sizeLine →
    (∀ x ∈ xs, ∀ R : Option D → Env' → Prop, R (f x) env → g (i x) env fun env1 => tt noX env1 fun b env2 => if b = true then te noX env2 fun y env3 => frzD env3 y fun d' env4 => R (some d') (wipeE env4 vs) else R none (wipeE env2 vs)) →
    (∀ a, Q (.lst a (acc ++ xs.filterMap f)) env) → lcD g tt te vs keep Q (xs.map i) acc env := by
  induction xs with
  | nil => intro acc _ _ hQ; exact ⟨hk, fun a => by simpa using hQ a⟩
  | cons x xs ih =>
    intro acc hl h hQ
    rw [List.length_cons] at hl
    rw [List.map_cons, lcD]
    refine ⟨hk, by omega, h x List.mem_cons_self (fun o env' => match o with
      | some d' => lcD g tt te vs keep Q (xs.map i) (acc ++ [d']) env'
      | none => lcD g tt te vs keep Q (xs.map i) acc env') ?_⟩
    cases e : f x with
    | none =>
      refine ih acc (by omega) (fun y hy => h y (List.mem_cons_of_mem _ hy)) fun a => ?_
      have := hQ a
      rw [List.filterMap_cons_none e] at this
      exact this
    | some d =>
      refine ih (acc ++ [d]) (by rw [List.length_append, List.length_singleton]; omega) (fun y hy => h y (List.mem_cons_of_mem _ hy)) fun a => ?_
      have := hQ a
      rw [List.filterMap_cons_some e] at this
      rw [List.append_assoc]
      exact this
theorem lc_map (i f : α → D) (hk : keep env) (xs : List α) (hl : xs.length ≤ sizeLine)
    (h : ∀ x ∈ xs, ∀ R : D → Env' → Prop, R (f x) env → g (i x) env fun env1 => te noX env1 fun y env3 => frzD env3 y fun d' env4 => R d' (wipeE env4 vs))
    (hQ : ∀ a, Q (.lst a (xs.map f)) env) : lcD g dYes te vs keep Q (xs.map i) [] env := by
  refine lc_fm i (fun x => some (f x)) hk xs [] (by simpa using hl) (fun x hx R hR => ?_) (fun a => by simpa [List.filterMap_eq_map] using hQ a)
  have := h x hx (fun d e => R (some d) e) hR
  simp only [dYes, if_true]
  exact this
theorem lc_filter (i f : α → D) (p : α → Bool) (hk : keep env) (xs : List α) (hl : xs.length ≤ sizeLine)
    (h : ∀ x ∈ xs, ∀ R : Option D → Env' → Prop, R (if p x = true then some (f x) else none) env → g (i x) env fun env1 => tt noX env1 fun b env2 => if b = true then te noX env2 fun y env3 => frzD env3 y fun d' env4 => R (some d') (wipeE env4 vs) else R none (wipeE env2 vs))
    (hQ : ∀ a, Q (.lst a ((xs.filter p).map f)) env) : lcD g tt te vs keep Q (xs.map i) [] env := by
  refine lc_fm i (fun x => if p x = true then some (f x) else none) hk xs [] (by simpa using hl) h (fun a => ?_)
  have e := fm_if f p xs
  rw [List.nil_append, e]
  exact hQ a
theorem lc_ind (i : α → D) (P : List α → List D → Env' → Prop) (hnil : ∀ acc env, P [] acc env → keep env ∧ ∀ a, Q (.lst a acc) env)
    (hcons : ∀ x xs acc env (N : List D → Env' → Prop), P (x :: xs) acc env → (∀ acc' env', P xs acc' env' → N acc' env') → keep env ∧ acc.length < sizeLine ∧ g (i x) env fun env1 => tt noX env1 fun b env2 => if b = true then te noX env2 fun y env3 => frzD env3 y fun d' env4 => N (acc ++ [d']) (wipeE env4 vs) else N acc (wipeE env2 vs)) :
    ∀ (xs : List α) (acc : List D) (env : Env'), P xs acc env → lcD g tt te vs keep Q (xs.map i) acc env := by
  intro xs
  induction xs with
  | nil => intro acc env h; exact hnil acc env h
  | cons x xs ih =>
    intro acc env h
    rw [List.map_cons, lcD]
    exact hcons x xs acc env (fun acc' env' => lcD g tt te vs keep Q (xs.map i) acc' env') h fun acc' env' h' => ih acc' env' h'
end
section
variable {g : DTG} {body : DTS} {keep : Env' → Prop} {Ex : DX} {E : DEnds} {α : Type}
theorem for_ind (i : α → D) (P : List α → Env' → Prop) (hnil : ∀ env, P [] env → keep env ∧ E.nx env)
    (hcons : ∀ x xs env (N : Env' → Prop), P (x :: xs) env → (∀ env', P xs env' → N env') → keep env ∧ g (i x) env fun env1 => body Ex { E with nx := N, ct := N, bk := E.nx } env1) :
    ∀ (xs : List α) (env : Env'), P xs env → forD g body keep Ex E (xs.map i) env := by
  intro xs
  induction xs with
  | nil => intro env h; exact hnil env h
  | cons x xs ih =>
    intro env h
    rw [List.map_cons, forD]
    exact hcons x xs env _ h fun env' h' => ih env' h'
end
theorem dCallV_w (FT : FTab) (i : Nat) (ta : DTA) (Ex : DX) (env : Env') (Q : Sl → Env' → Prop) : dCallV FT i ta Ex env Q = AtS env[i]? (fun d => match d with | .glo nm => ∃ n spec, FT nm = some (n, spec) ∧ dCall spec ta Ex env Q | _ => False) (fun _ _ => False) .mk .mk := by
  unfold dCallV AtS
  rcases env[i]? with _ | (_ | d | _ | _ | _) <;> try rfl
  cases d <;> rfl
end HD
namespace HD
open PySem PySem.Spec PyProof.Rows L2
section
variable {G : GG} {N : List Str} {sc : SC} {k : Nat} {a : Expr} {ta : DT} {p p2 pos pos2 : Pos}
def dSortSetL (t : DT) : DT := fun Ex env Q => t Ex env fun x env1 => wd env1 x fun d => match d with
  | .lst ds => ∃ ns : List Int, ds = ns.map D.int ∧ ns.length < 64 ∧ ∀ (ns' : List Int) (b : Addr), ns'.Pairwise (· < ·) → (∀ n : Int, n ∈ ns' ↔ n ∈ ns) → Q (.lst b (ns'.map D.int)) env1
  | _ => False
theorem de_gint {x : Str} {i : Int} {pos : Pos} (h : ∃ t, G.mg x = some (.int i t)) (hg : GlS sc x := by rfl) (hd : (x == ("__debug__" : Str)) = false := by decide) : DE G N sc k (.Name x pos) (dC (.int i)) := by
  obtain ⟨t, h⟩ := h
  exact de_glob (v := .int i) hg h ⟨t, rfl⟩ (fun _ => rfl) hd
end
def FzS (o : Option Sl) (k : List D → Prop) (z : Prop) (_ : Tok k) (_ : Tok z) : Prop := match o with
  | some (.lst _ ds) => k ds
  | _ => z
theorem FzS_lst (a : Addr) (ds : List D) (k : List D → Prop) (z : Prop) (t : Tok k) (u : Tok z) : FzS (some (.lst a ds)) k z t u = k ds := rfl
theorem FzS_ext (d : D) (k : List D → Prop) (z : Prop) (t : Tok k) (u : Tok z) : FzS (some (.ext d)) k z t u = z := rfl
theorem sFz_w (i : Nat) (t : DTS) (Ex : DX) (E : DEnds) (env : Env') : sFz i t Ex E env = FzS env[i]? (fun ds => t Ex E (env.set i (.ext (.lst ds)))) (t Ex E env) .mk .mk := by
  unfold sFz FzS
  rcases env[i]? with _ | (_ | _ | _ | _ | _) <;> rfl
def fAbs : List D → (Sl → Prop) → Prop
  | [.int i], Q => Q (.ext (.int (if i < 0 then -i else i)))
  | _, _ => False
def fInt : List D → (Sl → Prop) → Prop
  | [.int i], Q => Q (.ext (.int i))
  | [.bl b], Q => Q (.ext (.int (if b then 1 else 0)))
  | _, _ => False
theorem t_int : TR "int" fInt := ⟨fun _ _ _ => fun xs H Q => (∃ i, xs = [.int i] ∧ Q (.int i) H) ∨ ∃ k, xs = [.bl k] ∧ Q (.int (if k then 1 else 0)) H, fun _ _ K F H vs ds Q R fh hr hf ha => by
    unfold fInt at hf
    split at hf
    · obtain ⟨v, rfl, r⟩ := hr.one
      exact .inl ⟨_, by rw [r.int], ha.int fh hf⟩
    · obtain ⟨v, rfl, r⟩ := hr.one
      exact .inr ⟨_, by rw [r.bl], ha.int fh hf⟩
    · exact hf.elim, fun X _ _ => call_int1⟩
end HD
namespace HD
open PySem PyProof.Rows L2
structure D.sh (d : D) : Prop where
  nv : d.noVal = true
  ok : d.py.showable = true
  nd : d.py.hasDict = false
  dp : d.py.depth ≤ 60
  len : d.py.shown.length ≤ sizeLine
def fRepr : List D → (Sl → Prop) → Prop
  | [d], Q => d.sh ∧ Q (.ext (.str d.py.shown))
  | _, _ => False
def fLtT : D → D → (Sl → Prop) → Prop
  | .tup xs, .tup ys, Q => ∃ ns ms : List Int, xs = ns.map D.int ∧ ys = ms.map D.int ∧ Q (.ext (.bl (HT.lexLt ns ms)))
  | _, _, _ => False
end HD
namespace HD
open PySem PyProof.Rows L2
theorem retD_reg (env : Env') (a : D) (cs : List (Addr × OC)) (q : Sl → Env' → Prop) : retD env (.reg a cs) q = q (.reg a cs) env := rfl
def nestC (a : Addr) (xs : List (Addr × List D)) : List (Addr × OC) := (a, .lst (xs.map fun p => .val (.ref p.1))) :: xs.map fun p => (p.1, .lst p.2)
abbrev nestS (a : Addr) (xs : List (Addr × List D)) : Sl := .reg (.val (.ref a)) (nestC a xs)
section
variable {K : PySem.W.Frag} {e : Ent} {env : Env'} {T : Tmp} {F : Hp} {σ : L2.St} {H : Hp}
theorem Holds.writeR {i : Nat} {sl sl' : Sl} {b : Addr} {o : HO} (h : Holds K e env T F σ H) (hi : env[i]? = some sl) (hb : b ∈ sl.owned) (own : sl'.owned = sl.owned) (ok : ∀ v, SlOk K F H v sl → SlOk K F (upd H b o) v sl') (hu : sl ≠ .un) : Holds K e (env.set i sl') T F σ (upd H b o) := by
  obtain ⟨A, B, e1, e2⟩ := splitE hi
  have own' : ownedE (env.set i sl') = ownedE env := by rw [e1, e2, own]
  have mb : b ∈ ownedE env := mem_ownedE hi hb
  have mm : b ∈ ownedE env ++ ownedT T := List.mem_append_left _ mb
  obtain ⟨Fn, _⟩ := h.ownedH b mm
  refine ⟨fun c o' q => ?_, by rw [List.length_set]; exact h.len, fun j s q => ?_, fun p hp => (h.temps p hp).write fun m => ?_, by rw [own']; exact h.nd, h.s1, fun c o' q n => ?_, by rw [own']; exact h.s3⟩
  · have nb : c ≠ b := fun z => by
      rw [z, Fn] at q
      cases q
    rw [upd_ne nb]
    exact h.fh c o' q
  · rw [List.getElem?_set] at q
    split at q
    · rename_i ij
      subst ij
      split at q
      · cases q
        right
        rcases h.slots i _ hi with z | ⟨v, hv, q1⟩
        · exact absurd z hu
        · exact ⟨v, hv, ok v q1⟩
      · cases q
    · rename_i ij
      rcases h.slots j s q with z | ⟨v, hv, ok'⟩
      · exact .inl z
      · exact .inr ⟨v, hv, ok'.write fun m => ij (owned_two h.nd hi q hb m)⟩
  · exact (List.nodup_append.mp h.nd).2.2 b mb b (List.mem_flatMap.mpr ⟨p, hp, m⟩) rfl
  · have nb : c ≠ b := fun z => by
      subst z
      rcases h.s3 c mm with y | y
      · exact n y
      · rw [q] at y
        cases y
    rw [upd_ne nb]
    exact h.s2 c o' q n
end
section
variable {G : GG} {N : List Str} {sc : SC} {k : Nat} {a b : Expr} {ta tb : DT} {apos cpos spos py pos : Pos} {x : Str}
def dNApp (i : Nat) (tI te : DT) : DT := fun Ex env Q => (∃ a0 xs0, env[i]? = some (nestS a0 xs0)) ∧ tI Ex env fun z env1 => match z with
  | .ext (.int n) => ∃ a1 xs b ds, env1[i]? = some (nestS a1 xs) ∧ atI xs n = some (b, ds) ∧ te Ex env1 fun y env2 => frzD env2 y fun d env3 =>
      ∃ a2 xs' j ds', env3[i]? = some (nestS a2 xs') ∧ xs'[j]? = some (b, ds') ∧ ds'.length < sizeLine ∧ Q (.ext .non) (env3.set i (nestS a2 (xs'.set j (b, ds' ++ [d]))))
  | _ => False
end
def sSeal (i : Nat) (t : DTS) : DTS := fun Ex E env => ∃ a xs, env[i]? = some (nestS a xs) ∧ t Ex E (env.set i (.ext (.lst (xs.map fun p => .lst p.2))))
def emp (bs : List Addr) : List (Addr × List D) := bs.map fun b => (b, [])
def dNest (ti : DTI) (i : Nat) : DT := fun Ex env Q => ti Ex env fun items keep env1 => keep (env1.set i .un) ∧ items.length ≤ sizeLine ∧ ∀ a (bs : List Addr), bs.length = items.length → Q (nestS a (emp bs)) (env1.set i .un)
end HD
namespace HD
open PySem PyProof.Rows L2
section
variable {κ β : Type} [DecidableEq κ]
def luK (kvs : List (κ × β)) (k : κ) : Option β := (kvs.find? fun kv => decide (kv.1 = k)).map (·.2)
def ptK (kvs : List (κ × β)) (k : κ) (v : β) : List (κ × β) := if kvs.any (fun kv => decide (kv.1 = k)) then kvs.map (fun kv => if kv.1 = k then (kv.1, v) else kv) else kvs ++ [(k, v)]
def drK (kvs : List (κ × β)) (k : κ) : List (κ × β) := kvs.filter fun kv => decide (kv.1 ≠ k)
theorem luK_cons (p : κ × β) (r : List (κ × β)) (k : κ) : luK (p :: r) k = if p.1 = k then some p.2 else luK r k := by
  unfold luK
  by_cases e : p.1 = k
  · simp [List.find?_cons, e]
  · simp [List.find?_cons, e]
end
section
variable {K : PySem.W.Frag} {F : Hp} {κ : Type} [DecidableEq κ]
def Ents (K : PySem.W.Frag) (F : Hp) (kvs : List (κ × D)) (vs : List (κ × V)) : Prop := vs.map (·.1) = kvs.map (·.1) ∧ Reps K F (kvs.map (·.2)) (vs.map (·.2))
theorem Ents.nil : Ents (κ := κ) K F [] [] := ⟨rfl, rfl⟩
theorem Ents.cons {k : κ} {d : D} {v : V} {kvs : List (κ × D)} {vs : List (κ × V)} (h : Rep K F d v) (t : Ents K F kvs vs) : Ents K F ((k, d) :: kvs) ((k, v) :: vs) :=
  ⟨by rw [List.map_cons, List.map_cons, t.1], .cons h t.2⟩
theorem Ents.inv {p : κ × D} {kvs : List (κ × D)} {vs : List (κ × V)} (h : Ents K F (p :: kvs) vs) : ∃ v r, vs = (p.1, v) :: r ∧ Rep K F p.2 v ∧ Ents K F kvs r := by
  obtain ⟨h1, h2⟩ := h
  cases vs with
  | nil => cases h1
  | cons q r =>
    rw [List.map_cons, List.map_cons] at h1
    injection h1 with e1 e2
    rw [List.map_cons, List.map_cons] at h2
    obtain ⟨v, r', e3, r1, r2⟩ := h2
    injection e3 with e4 e5
    subst e5
    exact ⟨q.2, r, by rw [← e1], by rw [e4]; exact r1, e2, r2⟩
theorem Ents.emp {vs : List (κ × V)} (h : Ents K F ([] : List (κ × D)) vs) : vs = [] := List.map_eq_nil_iff.1 h.1
theorem Ents.length {kvs : List (κ × D)} {vs : List (κ × V)} (h : Ents K F kvs vs) : kvs.length = vs.length := by
  have := congrArg List.length h.1
  rw [List.length_map, List.length_map] at this
  exact this.symm
theorem Ents.lu (k : κ) : ∀ {kvs : List (κ × D)} {vs : List (κ × V)}, Ents K F kvs vs → (∀ d, luK kvs k = some d → ∃ v, luK vs k = some v ∧ Rep K F d v) ∧ (luK vs k).isSome = (luK kvs k).isSome
  | [], vs, h => by
    have e := h.emp
    subst e
    exact ⟨fun d z => (by cases z), rfl⟩
  | p :: kvs, vs, h => by
    obtain ⟨v, r, rfl, r1, r2⟩ := h.inv
    obtain ⟨i1, i2⟩ := Ents.lu k r2
    rw [luK_cons, luK_cons]
    show (∀ d, _ = some d → ∃ v', (if p.1 = k then some v else luK r k) = some v' ∧ _) ∧ (if p.1 = k then some v else luK r k).isSome = _
    by_cases e : p.1 = k
    · rw [if_pos e, if_pos e]
      exact ⟨fun d z => by cases z; exact ⟨v, rfl, r1⟩, rfl⟩
    · rw [if_neg e, if_neg e]
      exact ⟨i1, i2⟩
end
abbrev dkS (a : Addr) (kvs : List (Key × D)) : Sl := .reg (.val (.ref a)) [(a, .dk kvs)]
abbrev dkD (kvs : List (Key × D)) : D := .dk (kvs.map (·.1)) (kvs.map (·.2))
def kD : Key → D
  | .inl i => .int i
  | .inr x => .str x
def dkAt (env : Env') (i : Nat) (kvs : List (Key × D)) : Prop := (∃ a, env[i]? = some (dkS a kvs)) ∨ env[i]? = some (.ext (dkD kvs))
section
variable {G : GG} {N : List Str} {sc : SC} {k : Nat} {a b : Expr} {ta tb : DT} {py pos spos apos cpos : Pos} {x : Str}
def dDIn (neg : Bool) (i : Nat) (t : DT) : DT := fun Ex env Q => t Ex env fun x env1 => ∃ key kvs, x = .ext (kD key) ∧ dkAt env1 i kvs ∧ Q (.ext (.bl (neg != (luK kvs key).isSome))) env1
def dDGet (i : Nat) (t : DT) : DT := fun Ex env Q => (∃ kvs, dkAt env i kvs) ∧ t Ex env fun x env1 => ∃ key kvs d, x = .ext (kD key) ∧ dkAt env1 i kvs ∧ luK kvs key = some d ∧ Q (.ext d) env1
def sPutD (i : Nat) (tk tv : DT) : DTS := fun Ex E env => tv Ex env fun y env0 => frzD env0 y fun d env1 => (∃ a kvs, env1[i]? = some (dkS a kvs)) ∧ tk Ex env1 fun x env2 => ∃ a kvs key, env2[i]? = some (dkS a kvs) ∧ x = .ext (kD key) ∧ kvs.length < sizeLine ∧ E.nx (env2.set i (dkS a (ptK kvs key d)))
def dDNew : DT := fun _ env Q => ∀ a, Q (dkS a []) env
def dDOne (tk tv : DT) : DT := fun Ex env Q => tk Ex env fun x env1 => tv Ex env1 fun y env2 => ∃ key, x = .ext (kD key) ∧ frzD env2 y fun d env3 => ∀ a, Q (dkS a [(key, d)]) env3
end
def sSealD (i : Nat) (t : DTS) : DTS := fun Ex E env => ∃ a kvs, env[i]? = some (dkS a kvs) ∧ t Ex E (env.set i (.ext (dkD kvs)))
def keyS (x : Sl) (q : List Key → Prop) : Prop := match x with
  | .ext (.dk ks _) => q ks
  | _ => False
theorem keyS_dk (ks : List Key) (ds : List D) (q : List Key → Prop) : keyS (.ext (.dk ks ds)) q = q ks := rfl
def dKeys (t : DT) : DTI := fun Ex env Q => t Ex env fun x env1 => keyS x fun ks => Q (ks.map kD) (fun _ => True) env1
end HD
namespace HD
open PySem PyProof.Rows L2
section
variable {G : GG} {N : List Str} {sc : SC} {k : Nat} {b : Expr} {tb : DT} {apos cpos py : Pos} {x : Str}
def dExtT (i : Nat) (t : DT) : DT := fun Ex env Q => (∃ a ds, env[i]? = some (.lst a ds)) ∧ t Ex env fun x env1 => ∃ a ds es, x = .ext (.tup es) ∧ env1[i]? = some (.lst a ds) ∧ ds.length + es.length ≤ sizeLine ∧ Q (.ext .non) (env1.set i (.lst a (ds ++ es)))
end
theorem seq_putD (i : Nat) (tk tv : DT) (u : DTS) (Ex : DX) (E : DEnds) (env : Env') : sSeq (sPutD i tk tv) u Ex E env = sPutD i tk tv Ex { E with nx := fun env1 => u Ex E env1 } env := rfl
theorem seq_sealD (i : Nat) (t u : DTS) (Ex : DX) (E : DEnds) (env : Env') : sSeq (sSealD i t) u Ex E env = sSealD i t Ex { E with nx := fun env1 => u Ex E env1 } env := rfl
end HD
namespace HD
open PySem PyProof.Rows L2
def fSortT : List D → (Sl → Prop) → Prop
  | [.tup ds], Q => ∃ ns : List Int, ds = ns.map D.int ∧ ∀ (ns' : List Int) (a : Addr), ns'.Perm ns → ns'.Pairwise (· ≤ ·) → Q (.lst a (ns'.map D.int))
  | _, _ => False
end HD
namespace HD
open PySem PyProof.Rows L2
open PySem.W (AlikeAll minD dataLt min_list_data readsAll_at keyToks keyToksAll)
abbrev pD (p : Int × Int) : D := .tup [.int p.1, .int p.2]
def lxP (p q : Int × Int) : Prop := p.1 < q.1 ∨ (p.1 = q.1 ∧ p.2 ≤ q.2)
def fMinP : List D → (Sl → Prop) → Prop
  | [.lst ds], Q => ∃ ps : List (Int × Int), ds = ps.map pD ∧ ps ≠ [] ∧ ∀ p ∈ ps, (∀ q ∈ ps, lxP p q) → Q (.ext (pD p))
  | _, _ => False
end HD
namespace HD
open PySem PyProof.Rows L2
section
variable {G : GG} {N : List Str} {sc : SC} {k : Nat} {b : Expr} {tb : DT} {apos cpos py : Pos} {x : Str}
def dRemove (i : Nat) (t : DT) : DT := fun Ex env Q => (∃ a ds, env[i]? = some (.lst a ds)) ∧ t Ex env fun x env1 => ∃ (a : Addr) (ns : List Int) (n : Int) (j : Nat), x = .ext (.int n) ∧ env1[i]? = some (.lst a (ns.map D.int)) ∧ ns[j]? = some n ∧ (∀ m, m < j → ns[m]? ≠ some n) ∧ Q (.ext .non) (env1.set i (.lst a ((ns.eraseIdx j).map D.int)))
end
end HD
namespace HD
open PySem PyProof.Rows L2
section
variable {K : PySem.W.Frag} {F : Hp}
abbrev dtS (a : Addr) (kvs : List (List Int × D)) : Sl := .reg (.val (.ref a)) [(a, .dt kvs)]
abbrev dtD (kvs : List (List Int × D)) : D := .dt (kvs.map (·.1)) (kvs.map (·.2))
abbrev kT (k : List Int) : D := .tup (k.map D.int)
def dtAt (env : Env') (i : Nat) (kvs : List (List Int × D)) : Prop := (∃ a, env[i]? = some (dtS a kvs)) ∨ env[i]? = some (.ext (dtD kvs))
end
section
variable {G : GG} {N : List Str} {sc : SC} {k : Nat} {a b : Expr} {ta tb : DT} {py pos spos apos cpos : Pos} {x : Str}
def dDInT (neg : Bool) (i : Nat) (t : DT) : DT := fun Ex env Q => t Ex env fun x env1 => ∃ key kvs, x = .ext (kT key) ∧ dtAt env1 i kvs ∧ Q (.ext (.bl (neg != (luK kvs key).isSome))) env1
def dDGetT (i : Nat) (t : DT) : DT := fun Ex env Q => (∃ kvs, dtAt env i kvs) ∧ t Ex env fun x env1 => ∃ key kvs d, x = .ext (kT key) ∧ dtAt env1 i kvs ∧ luK kvs key = some d ∧ Q (.ext d) env1
def sPutDT (i : Nat) (tk tv : DT) : DTS := fun Ex E env => tv Ex env fun y env0 => frzD env0 y fun d env1 => (∃ a kvs, env1[i]? = some (dtS a kvs)) ∧ tk Ex env1 fun x env2 => ∃ a kvs key, env2[i]? = some (dtS a kvs) ∧ x = .ext (kT key) ∧ kvs.length < sizeLine ∧ E.nx (env2.set i (dtS a (ptK kvs key d)))
def dDNewT : DT := fun _ env Q => ∀ a, Q (dtS a []) env
def sSealDT (i : Nat) (t : DTS) : DTS := fun Ex E env => ∃ a kvs, env[i]? = some (dtS a kvs) ∧ t Ex E (env.set i (.ext (dtD kvs)))
end
end HD
namespace HD
open PySem PyProof.Rows L2
def keyST (x : Sl) (q : List (List Int) → Prop) : Prop := match x with
  | .ext (.dt ks _) => q ks
  | _ => False
theorem keyST_dt (ks : List (List Int)) (ds : List D) (q : List (List Int) → Prop) : keyST (.ext (.dt ks ds)) q = q ks := rfl
def dKeysT (t : DT) : DTI := fun Ex env Q => t Ex env fun x env1 => keyST x fun ks => Q (ks.map kT) (fun _ => True) env1
end HD
namespace HD
open PySem PyProof.Rows L2
open PySem.W (dataLt keyToks keyToksAll dataLe EachIs AllAlike Sortable list_sort_data KdlSrc kdl_extend kdl_hint_dict alike alikeAll)
abbrev tI (k : List Int) : PyData := .tuple (k.map PyData.int)
def LxK (ks : List (List Int)) : Prop := ks.Pairwise fun a b => HT.lexLt b a = false
def fSortK : List D → (Sl → Prop) → Prop
  | [.dt ks _], Q => (ks.length ≤ 1 ∨ ∀ k ∈ ks, k ≠ []) ∧ ∀ (ks' : List (List Int)) (a : Addr), ks'.Perm ks → LxK ks' → Q (.lst a (ks'.map kT))
  | _, _ => False
theorem seq_putDT (i : Nat) (tk tv : DT) (u : DTS) (Ex : DX) (E : DEnds) (env : Env') : sSeq (sPutDT i tk tv) u Ex E env = sPutDT i tk tv Ex { E with nx := fun env1 => u Ex E env1 } env := rfl
theorem seq_sealDT (i : Nat) (t u : DTS) (Ex : DX) (E : DEnds) (env : Env') : sSeq (sSealDT i t) u Ex E env = sSealDT i t Ex { E with nx := fun env1 => u Ex E env1 } env := rfl
end HD
namespace HD
open PySem PyProof.Rows L2
def stepL {α : Type} (xs : List α) (c : Int) : List α := (sliceRange (sliceBounds none none (some c) xs.length).1 (sliceBounds none none (some c) xs.length).2.1 (sliceBounds none none (some c) xs.length).2.2).filterMap (xs[·]?)
def fStep (d : D) (o : Option Int) (Q : Sl → Prop) : Prop := match d, o with
  | .lst ds, some c => c ≠ 0 ∧ ∀ a, Q (.lst a (stepL ds c))
  | .fz ds, some c => c ≠ 0 ∧ ∀ a, Q (.lst a (stepL ds c))
  | .tup ds, some c => c = -1 ∧ Q (.ext (.tup ds.reverse))
  | _, _ => False
def dStep (ta : DT) (tp : DTO) : DT := fun Ex env Q => ta Ex env fun x env1 => tp Ex env1 fun o env2 => wd env2 x fun d => fStep d o fun sl => Q sl env2
end HD
namespace HD
open PySem L2
section
variable {G : GG} {N : List Str} {sc : SC} {k : Nat} {a b : Expr} {pos : Pos}
def sPar (i j : Nat) (t : DTA) : DTS := fun Ex E env => t Ex env fun xs env1 => frzDs env1 xs fun ds env2 => match ds with
  | [d, d'] => E.nx ((env2.set i (.ext d)).set j (.ext d'))
  | _ => False
theorem ds_par {x y : Str} {px py pt : Pos} {kt k2 pt2} {ta : DTA} (i j : Nat) (h : DAs G N sc k [a, b] ta) (hi : N[i]? = some x := by rfl) (hj : N[j]? = some y := by rfl) (hij : i ≠ j := by decide)
    (hx : sc.sc.names.lookup x = some .local := by rfl) (hy : sc.sc.names.lookup y = some .local := by rfl)
    (hw : ∀ env : Env, env.scope = sc.sc → swappedStores [.Tuple [.Name x px, .Name y py] kt pt] (.Tuple [a, b] k2 pt2) env = pure (some [x, y]) := by intro env h; unfold swappedStores Env.blockKind Env.kindOf; rw [h]; rfl)
    (hs : ∀ env, swapsWithSole [.Tuple [.Name x px, .Name y py] kt pt] (.Tuple [a, b] k2 pt2) pos.line env = pure false := by intro _; rfl) :
    DS G N sc k (.Assign [.Tuple [.Name x px, .Name y py] kt pt] (.Tuple [a, b] k2 pt2) pos) (sPar i j ta) := ⟨fun W => by
  obtain ⟨te, p1, i1⟩ := h.ex W
  refine ⟨tPar i j te, fun X S => ps_par S.calm (by rw [S.nms]; exact S.nd) (by rw [S.nms]; exact hi) (by rw [S.nms]; exact hj) hij (by rw [S.scp]; exact hx) (by rw [S.scp]; exact hy) (p1 X S) (hw _ S.scp) (hs _), fun e Ex hl env F σ H E Dn hh ht ok => ?_⟩
  refine i1 e Ex hl env [] F σ H _ _ hh ht fun vs H1 F1 env1 xs le hh1 q1 => ?_
  obtain ⟨ds, F2, env2, sm, hh2, r2, q2⟩ := hh1.frzs le q1
  rcases ds with _ | ⟨d, _ | ⟨d', _ | ⟨d3, ds⟩⟩⟩ <;> try exact q2.elim
  obtain ⟨v, vs1, rfl, rv, v2, vs2, rfl, rv2, rfl⟩ := r2
  refine ⟨v, v2, rfl, ?_⟩
  exact ok.nx _ F2 _ H1 ((((hh2.pushE rv2).pushE rv).assign i True.intro).assign j True.intro) q2⟩
end
end HD
namespace HD
open PySem L2
set_option maxHeartbeats 1000000 in
theorem meets_enum1 {v : Value} {o : Obj} {H : Heap → Prop} (B : Begins v o H) :
    PySem.Meets (Builtin.«enumerate.__new__» ⟨[.type "enumerate", v], []⟩) (fun _ R s => H s.heap ∧
      R (.ok (.ret (.ref (s.heap.push o).objs.size))) { s with heap := (s.heap.push o).push { cls := .type "enumerate", data := .fields #[.none, .bool false, .ref s.heap.objs.size, rawInt 0, .none, .none] } }) :=
  .of_wp fun prog w A R s h => by
    obtain ⟨hp, g, d, tk, os⟩ := s; obtain ⟨h1, h⟩ := h
    have hsub := sub_enumerate
    have q1 : ∀ {A' : Around} {E : Value → Shared → Prop} {Q : Value → Shared → Prop}, Q (.ref hp.objs.size) ⟨hp.push o, g, d, tk, os⟩ → wpAny (model prog w) A' (pyIter v) Q E ⟨hp, g, d, tk, os⟩ :=
      fun q => B.iter prog w _ _ ⟨hp, g, d, tk, os⟩ _ h1 q
    wp_walk using q1
    refine wpAny_stack_any fun st => wpAny_pure ?_
    split
    · rename_i c _ _ _ _ _
      cases (c == Value.type "enumerate")
      · wp_walk using q1
        exact ⟨_, rfl, h⟩
      · wp_walk using q1
        exact ⟨_, rfl, h⟩
    · wp_walk using q1
      exact ⟨_, rfl, h⟩
theorem enum_begins1 {prog : Program} {w : World} {A : Around} {E : Value → Shared → Prop} {s : Shared} {v : Value} {o : Obj} {H : Heap → Prop} {Q : Value → Shared → Prop} (B : Begins v o H) (h1 : H s.heap)
    (h : ∀ h', IsEnum h' (s.heap.objs.size + 1) s.heap.objs.size 0 .none → h'.get? s.heap.objs.size = some o → h'.objs.size = s.heap.objs.size + 2 →
      (∀ b o, s.heap.get? b = some o → h'.get? b = some o) → Q (.ref (s.heap.objs.size + 1)) { s with heap := h' }) :
    wpAny (model prog w) A (call (.type "enumerate") [v]) Q E s := by
  refine callType_new F.called_enumerate (by decide) (F.typeCall_enumerate_1 _) (F.newCall_enumerate_1 _) (fun obj => F.args_object_init_2 obj _) F.entry_enumerate_new
    (meets_enum1 B) ⟨h1, ?_⟩
  have hz : (s.heap.push o).objs.size = s.heap.objs.size + 1 := Heap.size_push ..
  show _ ∧ _
  rw [hz]
  have he : IsEnum ((s.heap.push o).push { cls := .type "enumerate", data := .fields #[.none, .bool false, .ref s.heap.objs.size, rawInt 0, .none, .none] }) (s.heap.objs.size + 1) s.heap.objs.size 0 .none := by
    have := Heap.get?_push_size (s.heap.push o) (o := { cls := .type "enumerate", data := .fields #[.none, .bool false, .ref s.heap.objs.size, rawInt 0, .none, .none] }) rfl
    rw [hz] at this; exact this
  refine ⟨⟨_, he, rfl⟩, h _ he (Heap.get?_push_of_some _ (Heap.get?_push_size _ B.free)) (by rw [Heap.size_push, hz]) fun b o x => Heap.get?_push_of_some _ (Heap.get?_push_of_some _ x)⟩
def IteX (b : Bool) (K : PySem.W.Frag) (a : Addr) : It :=
  ⟨fun i H => ∃ (xs : List V) (x : V), SqX b K H a xs ∧ xs[i]? = some x,
    fun i H v H' => ∃ T x, v = .ref T ∧ H T = none ∧ H' = upd H T (.tup [.int (i : Nat), x]) ∧ ∀ xs, SqX b K H a xs → xs[i]? = some x,
    fun i H => ∃ xs : List V, SqX b K H a xs ∧ i = xs.length⟩
theorem turn_enumX {P : Program} {w : World} {K : PySem.W.Frag} {elts : List Expr} {kk : Nat} {tpos : Pos} {b : Bool} {a n : Addr} (la : a < n) :
    Turn P w K (.Tuple elts kk tpos) (IteX b K a) [n + 1, n] (n + 1) (fun i h => (∃ old, IsEnum h (n + 1) n ((0 : Int) + (i : Int)) old) ∧ ItX b h n a i) where
  mem := by simp
  obj := fun i h st c hc => by
    obtain ⟨⟨old, he⟩, hi⟩ := st
    have e' : c = n + 1 ∨ c = n := by simpa using hc
    rcases e' with z | z
    · rw [z]; exact ⟨_, he, fun v q => nomatch q⟩
    · rw [z]; exact hi.obj
  keep := fun i h h' st k => by
    obtain ⟨⟨old, he⟩, hi⟩ := st
    exact ⟨⟨old, k (n + 1) (by simp) _ he⟩, hi.at fun o q => k n (by simp) o q⟩
  item := by
    intro X hP hw hK hc i pins s σ H E I hf st hg
    subst hP hw hK
    obtain ⟨he, hit⟩ := st
    obtain ⟨xs, x, hq, hx⟩ := hg
    obtain ⟨its, rv, p⟩ := Inv.seqX I hq
    obtain ⟨u, hu, ru⟩ := rv.get hx
    have hh := I.ok.hd hc
    have Z := GoesN.enumFrom (elts := elts) (x1 := kk) (pos := tpos) 0 (draws_X (prog := X.prog) (w := X.w) (A := X.A.in1) b hh n a (Nat.ne_of_lt la) its.toArray) (n + 1) (Nat.succ_ne_self _) (by
      intro z
      have e' : n + 1 = n ∨ n + 1 = a := by simpa using z
      have la' : (a : Nat) < n := la
      rcases e' with q | q
      · exact absurd q (Nat.succ_ne_self _)
      · exact absurd q (Nat.ne_of_gt (Nat.lt_succ_of_lt la'))) List.mem_cons_self
    have hi1 : i < its.length := (List.getElem?_eq_some_iff.mp hu).1
    refine Z.goes i s _ E (by rw [List.size_toArray]; exact hi1) ⟨he, hit, p⟩ fun v h' tk hY st' hk htk => ?_
    obtain ⟨T, t, x', rfl, hT, hx', hTup⟩ := hY
    rw [List.getElem?_toArray, hu] at hx'
    cases hx'
    obtain ⟨he', hit', _⟩ := st'
    have e0 : (0 : Int) + (i : Int) = (i : Int) := Int.zero_add _
    rw [e0] at hTup
    have new : ObjOk X.prog X.w (upd H T (.tup [.int (i : Nat), x])) h' T (.tup [.int (i : Nat), x]) := ⟨by show 2 ≤ sizeLine; decide, [.int i t, u], .cons ⟨_, rfl⟩ (.cons ru .nil), hTup⟩
    have I1 : L2.Inv X pins σ (upd H T (.tup [.int (i : Nat), x])) { s with heap := h', toks := tk } :=
      I.turnedNew (t' := tk) (ch := [n + 1, n]) (fun c o hb q => hk c o hb q) hf hT new
    refine ⟨.ref T, _, I1, rfl, ⟨T, x, rfl, I.hok.fresh hT, rfl, fun l hl => by rw [seqX_inj I hl hq]; exact hx⟩, ⟨he', hit'⟩, fun c hcm => ?_⟩
    have hlt : c < s.heap.objs.size := by
      have e' : c = n + 1 ∨ c = n := by simpa using hcm
      obtain ⟨old, he⟩ := he
      rcases e' with q | q
      · rw [q]; exact Heap.lt_size he
      · rw [q]; obtain ⟨_, e1, _⟩ := hit.obj; exact Heap.lt_size e1
    rw [upd_ne (Nat.ne_of_lt (Nat.lt_of_lt_of_le hlt hT))]
    exact (hf c hcm).1
  done := by
    intro X hP hw hK hc i pins s σ H E I hf st hg
    subst hP hw hK
    obtain ⟨he, hit⟩ := st
    obtain ⟨xs, hq, hend⟩ := hg
    obtain ⟨its, rv, p⟩ := Inv.seqX I hq
    have hh := I.ok.hd hc
    have Z := GoesN.enumFrom (elts := elts) (x1 := kk) (pos := tpos) 0 (draws_X (prog := X.prog) (w := X.w) (A := X.A.in1) b hh n a (Nat.ne_of_lt la) its.toArray) (n + 1) (Nat.succ_ne_self _) (by
      intro z
      have e' : n + 1 = n ∨ n + 1 = a := by simpa using z
      have la' : (a : Nat) < n := la
      rcases e' with q | q
      · exact absurd q (Nat.succ_ne_self _)
      · exact absurd q (Nat.ne_of_gt (Nat.lt_succ_of_lt la'))) List.mem_cons_self
    have en : i = its.toArray.size := by
      rw [List.size_toArray, ← rv.length]
      exact hend
    rw [en] at he hit
    refine Z.stops s _ E ⟨he, hit, p⟩ fun h' tk hk htk => ?_
    exact I.turnedL (t' := tk) (ch := [n + 1, n]) (fun c o hb q => hk c o hb q) hf
  self := fun A i s Q E st h => let ⟨⟨_, he⟩, _⟩ := st; wpAny_pyIter_enum he h
def iEnumX (K : PySem.W.Frag) (ta : TA) : TI := fun σ H R => ta σ H fun vs H1 => ∃ b a xs, vs = [.ref a] ∧ SqX b K H1 a xs ∧ R (IteX b K a) H1
theorem pi_enumX {X : Cx} {e : Expr} {ta : TA} {p pos tpos : Pos} {elts : List Expr} {kk : Nat} (hg : Gl X "enumerate") (hm : X.mg "enumerate" = none) (ha : PA X [e] ta) (hs : starEach [e] X.env = [(false, eval e X.env)]) :
    PI X (.Tuple elts kk tpos) (.Call (.Name "enumerate" p) [e] [] pos) (iEnumX X.K ta) := by
  refine ⟨fun pins s σ H R I h => ?_⟩
  refine PyProof.Rows.Call_ (ld_blt I hg hm PyProof.Rows.boot_enumerate (PyProof.Rows.callWith_type1 (thn (ha.run pos pins s σ H _ I h) fun us s1 ⟨vs, H1, I1, r1, q1⟩ => ?_) hs rfl))
  obtain ⟨b, a, xs, ex, hq, q⟩ := q1
  subst ex
  obtain ⟨u1, rfl, ru1⟩ := vals1 r1
  cases ru1
  obtain ⟨its, rv, p1⟩ := Inv.seqX I1 hq
  refine enum_begins1 (begins_X b a its.toArray) p1 fun h' he g1 hsz hk => wpAny_pyIter_enum he ?_
  have I2 : L2.Inv X pins σ H1 { s1 with heap := h' } := I1.kept (t' := s1.toks) hk
  refine ⟨s1.heap.objs.size + 1, [s1.heap.objs.size + 1, s1.heap.objs.size], _, _, H1, rfl, I2, turn_enumX p1.lt, ⟨⟨.none, he⟩, itX_new g1⟩, fun c hcm => ?_, q⟩
  have e' : c = s1.heap.objs.size + 1 ∨ c = s1.heap.objs.size := by simpa using hcm
  have hle : s1.heap.objs.size ≤ c := by
    rcases e' with z | z
    · rw [z]; exact Nat.le_add_right _ _
    · rw [z]; exact Nat.le_refl _
  exact I1.fpOk hle (I1.hok.fresh hle)
def enD (xs : List D) : List D := (xs.zipIdx).map fun p => D.tk [.int (p.2 : Nat), p.1]
def dEnum (ta : DT) : DTI := fun Ex env Q => ta Ex env fun x env1 => seqD env1 x fun xs k1 => Q (enD xs) k1 env1
theorem src_enum {K : PySem.W.Frag} {b : Bool} {a : Addr} {xs : List D} {k1 : Env' → Prop} {F0 : Hp} (h1 : Stands K b a xs k1 F0) : Src K (IteX b K a) (enD xs) k1 F0 := fun e env T F σ H i hh sm kk => by
  obtain ⟨vs, s1, r1⟩ := h1 e env T F σ H hh sm kk
  refine ⟨fun hi => ⟨vs, s1, ?_⟩, fun d hd => ?_⟩
  · rw [enD, List.length_map, List.length_zipIdx, r1.length] at hi
    exact hi.symm
  · rw [enD, List.getElem?_map, List.getElem?_zipIdx] at hd
    cases hz : xs[i]? with
    | none =>
      rw [hz] at hd
      cases hd
    | some x =>
      rw [hz] at hd
      have ed := Option.some.inj hd
      obtain ⟨v, hv, rv⟩ := r1.get hz
      refine ⟨⟨vs, v, s1, hv⟩, fun y H2 hyl => ?_⟩
      obtain ⟨T', x1, rfl, nT, rfl, f1⟩ := hyl
      have e1 := f1 _ s1
      rw [hv] at e1
      cases e1
      have g := Grow.frozen (o := .tup [.int (i : Nat), v]) hh.fh nT
      refine ⟨_, g, ?_⟩
      rw [← ed]
      refine ⟨T', [.int (i : Nat), v], rfl, SqT.of upd_same, ⟨.int (i : Nat), [v], rfl, ?_, v, [], rfl, Rep.same g.ff rv, rfl⟩⟩
      show V.int (i : Nat) = V.int ((0 + i : Nat) : Int)
      rw [Nat.zero_add]
section
variable {G : GG} {N : List Str} {sc : SC} {k : Nat} {a : Expr} {ta : DT} {p pos tpos : Pos} {elts : List Expr} {kk : Nat}
theorem di_enum (ha : DE G N sc k a ta) (hm : G.mg "enumerate" = none) (hg : GlS sc "enumerate" := by rfl) (hs : NoStar a [] := by intro _; rfl) :
    DI G N sc k (.Tuple elts kk tpos) (.Call (.Name "enumerate" p) [a] [] pos) (dEnum ta) := ⟨fun W => by
  obtain ⟨te, p1, i1⟩ := ha.ex W
  refine ⟨iEnumX G.K (tCons te tNil), fun X S => ?_, fun e Ex hl env T F σ H Q R hh ht hR => ?_⟩
  · rw [← S.K]
    exact pi_enumX (S.gl hg) (by rw [S.mg]; exact hm) (pa_cons (p1 X S) pa_nil (hs _)) (hs _)
  · refine i1 e Ex hl env T F σ H _ _ hh ht fun v H1 F1 env1 x hh1 q1 => ?_
    obtain ⟨b1, a1, xs, k1, F3, rfl, q3, sm3, hh3, st1, kk1⟩ := hh1.seqD q1
    obtain ⟨vs, s1, _⟩ := st1 e env1 T F3 σ H1 hh3 (Same.refl _) kk1
    exact ⟨b1, a1, vs, rfl, s1, hR _ H1 F3 env1 _ _ hh3 (src_enum st1) q3⟩⟩
end
end HD
namespace HD
open PySem PySem.Spec PyProof.Rows L2
def fMulT : D → D → (Sl → Prop) → Prop
  | .tup xs, .int k, Q => 0 ≤ k ∧ k < 2 ^ 63 ∧ xs.length * k.toNat ≤ sizeLine ∧ Q (.ext (.tup (List.replicate k.toNat xs).flatten))
  | _, _, _ => False
def fIsB : D → D → (Sl → Prop) → Prop
  | .bl i, .bl j, Q => Q (.ext (.bl (i == j)))
  | _, _, _ => False
def fNotB : D → D → (Sl → Prop) → Prop
  | .bl i, .bl j, Q => Q (.ext (.bl (!(i == j))))
  | _, _, _ => False
end HD
namespace HD
open PySem L2
theorem seq_setE (i : Nat) (t : DT) (u : DTS) (Ex : DX) (E : DEnds) (env : Env') : sSeq (sSetE i t) u Ex E env = t Ex env fun x env1 => frzD env1 x fun d env2 => u Ex E (env2.set i (.ext d)) := rfl
theorem seq_set (i : Nat) (t : DT) (u : DTS) (Ex : DX) (E : DEnds) (env : Env') : sSeq (sSet i t) u Ex E env = t Ex env fun x env1 => retD env1 x fun r env2 => u Ex E (env2.set i r) := rfl
theorem seq_drop (t : DT) (u : DTS) (Ex : DX) (E : DEnds) (env : Env') : sSeq (sDrop t) u Ex E env = t Ex env fun _ env1 => u Ex E env1 := rfl
theorem seq_asg (t : DT) (g : DTG) (u : DTS) (Ex : DX) (E : DEnds) (env : Env') : sSeq (sAsg t g) u Ex E env = t Ex env fun x env1 => frzD env1 x fun d env2 => g d env2 fun env3 => u Ex E env3 := rfl
theorem seq_if (c : DTT) (t v : DTS) (u : DTS) (Ex : DX) (E : DEnds) (env : Env') : sSeq (sIf c t v) u Ex E env = c Ex env fun b env1 => if b = true then t Ex { E with nx := fun env1 => u Ex E env1 } env1 else v Ex { E with nx := fun env1 => u Ex E env1 } env1 := rfl
theorem seq_for (ti : DTI) (g : DTG) (b : DTS) (u : DTS) (Ex : DX) (E : DEnds) (env : Env') : sSeq (sFor ti g b) u Ex E env = ti Ex env fun items keep env1 => forD g b keep Ex { E with nx := fun env1 => u Ex E env1 } items env1 := rfl
theorem dv0 (d : D) (r : Env') (Ex : DX) (Q : Sl → Env' → Prop) : dVar 0 Ex (.ext d :: r) Q = Q (.ext d) (.ext d :: r) := rfl
theorem dw0 (a : Addr) (ds : List D) (r : Env') (Ex : DX) (Q : Sl → Env' → Prop) : dVar 0 Ex (.lst a ds :: r) Q = Q (.al 0 a) (.lst a ds :: r) := rfl
theorem dv1 (s0 : Sl) (d : D) (r : Env') (Ex : DX) (Q : Sl → Env' → Prop) : dVar 1 Ex (s0 :: .ext d :: r) Q = Q (.ext d) (s0 :: .ext d :: r) := rfl
theorem dw1 (s0 : Sl) (a : Addr) (ds : List D) (r : Env') (Ex : DX) (Q : Sl → Env' → Prop) : dVar 1 Ex (s0 :: .lst a ds :: r) Q = Q (.al 1 a) (s0 :: .lst a ds :: r) := rfl
theorem dv2 (s0 s1 : Sl) (d : D) (r : Env') (Ex : DX) (Q : Sl → Env' → Prop) : dVar 2 Ex (s0 :: s1 :: .ext d :: r) Q = Q (.ext d) (s0 :: s1 :: .ext d :: r) := rfl
theorem dw2 (s0 s1 : Sl) (a : Addr) (ds : List D) (r : Env') (Ex : DX) (Q : Sl → Env' → Prop) : dVar 2 Ex (s0 :: s1 :: .lst a ds :: r) Q = Q (.al 2 a) (s0 :: s1 :: .lst a ds :: r) := rfl
theorem dv3 (s0 s1 s2 : Sl) (d : D) (r : Env') (Ex : DX) (Q : Sl → Env' → Prop) : dVar 3 Ex (s0 :: s1 :: s2 :: .ext d :: r) Q = Q (.ext d) (s0 :: s1 :: s2 :: .ext d :: r) := rfl
theorem dw3 (s0 s1 s2 : Sl) (a : Addr) (ds : List D) (r : Env') (Ex : DX) (Q : Sl → Env' → Prop) : dVar 3 Ex (s0 :: s1 :: s2 :: .lst a ds :: r) Q = Q (.al 3 a) (s0 :: s1 :: s2 :: .lst a ds :: r) := rfl
theorem dv4 (s0 s1 s2 s3 : Sl) (d : D) (r : Env') (Ex : DX) (Q : Sl → Env' → Prop) : dVar 4 Ex (s0 :: s1 :: s2 :: s3 :: .ext d :: r) Q = Q (.ext d) (s0 :: s1 :: s2 :: s3 :: .ext d :: r) := rfl
theorem dw4 (s0 s1 s2 s3 : Sl) (a : Addr) (ds : List D) (r : Env') (Ex : DX) (Q : Sl → Env' → Prop) : dVar 4 Ex (s0 :: s1 :: s2 :: s3 :: .lst a ds :: r) Q = Q (.al 4 a) (s0 :: s1 :: s2 :: s3 :: .lst a ds :: r) := rfl
theorem dv5 (s0 s1 s2 s3 s4 : Sl) (d : D) (r : Env') (Ex : DX) (Q : Sl → Env' → Prop) : dVar 5 Ex (s0 :: s1 :: s2 :: s3 :: s4 :: .ext d :: r) Q = Q (.ext d) (s0 :: s1 :: s2 :: s3 :: s4 :: .ext d :: r) := rfl
theorem dw5 (s0 s1 s2 s3 s4 : Sl) (a : Addr) (ds : List D) (r : Env') (Ex : DX) (Q : Sl → Env' → Prop) : dVar 5 Ex (s0 :: s1 :: s2 :: s3 :: s4 :: .lst a ds :: r) Q = Q (.al 5 a) (s0 :: s1 :: s2 :: s3 :: s4 :: .lst a ds :: r) := rfl
theorem dv6 (s0 s1 s2 s3 s4 s5 : Sl) (d : D) (r : Env') (Ex : DX) (Q : Sl → Env' → Prop) : dVar 6 Ex (s0 :: s1 :: s2 :: s3 :: s4 :: s5 :: .ext d :: r) Q = Q (.ext d) (s0 :: s1 :: s2 :: s3 :: s4 :: s5 :: .ext d :: r) := rfl
theorem dw6 (s0 s1 s2 s3 s4 s5 : Sl) (a : Addr) (ds : List D) (r : Env') (Ex : DX) (Q : Sl → Env' → Prop) : dVar 6 Ex (s0 :: s1 :: s2 :: s3 :: s4 :: s5 :: .lst a ds :: r) Q = Q (.al 6 a) (s0 :: s1 :: s2 :: s3 :: s4 :: s5 :: .lst a ds :: r) := rfl
theorem dv7 (s0 s1 s2 s3 s4 s5 s6 : Sl) (d : D) (r : Env') (Ex : DX) (Q : Sl → Env' → Prop) : dVar 7 Ex (s0 :: s1 :: s2 :: s3 :: s4 :: s5 :: s6 :: .ext d :: r) Q = Q (.ext d) (s0 :: s1 :: s2 :: s3 :: s4 :: s5 :: s6 :: .ext d :: r) := rfl
theorem dw7 (s0 s1 s2 s3 s4 s5 s6 : Sl) (a : Addr) (ds : List D) (r : Env') (Ex : DX) (Q : Sl → Env' → Prop) : dVar 7 Ex (s0 :: s1 :: s2 :: s3 :: s4 :: s5 :: s6 :: .lst a ds :: r) Q = Q (.al 7 a) (s0 :: s1 :: s2 :: s3 :: s4 :: s5 :: s6 :: .lst a ds :: r) := rfl
theorem dv8 (s0 s1 s2 s3 s4 s5 s6 s7 : Sl) (d : D) (r : Env') (Ex : DX) (Q : Sl → Env' → Prop) : dVar 8 Ex (s0 :: s1 :: s2 :: s3 :: s4 :: s5 :: s6 :: s7 :: .ext d :: r) Q = Q (.ext d) (s0 :: s1 :: s2 :: s3 :: s4 :: s5 :: s6 :: s7 :: .ext d :: r) := rfl
theorem dw8 (s0 s1 s2 s3 s4 s5 s6 s7 : Sl) (a : Addr) (ds : List D) (r : Env') (Ex : DX) (Q : Sl → Env' → Prop) : dVar 8 Ex (s0 :: s1 :: s2 :: s3 :: s4 :: s5 :: s6 :: s7 :: .lst a ds :: r) Q = Q (.al 8 a) (s0 :: s1 :: s2 :: s3 :: s4 :: s5 :: s6 :: s7 :: .lst a ds :: r) := rfl
theorem dv9 (s0 s1 s2 s3 s4 s5 s6 s7 s8 : Sl) (d : D) (r : Env') (Ex : DX) (Q : Sl → Env' → Prop) : dVar 9 Ex (s0 :: s1 :: s2 :: s3 :: s4 :: s5 :: s6 :: s7 :: s8 :: .ext d :: r) Q = Q (.ext d) (s0 :: s1 :: s2 :: s3 :: s4 :: s5 :: s6 :: s7 :: s8 :: .ext d :: r) := rfl
theorem dw9 (s0 s1 s2 s3 s4 s5 s6 s7 s8 : Sl) (a : Addr) (ds : List D) (r : Env') (Ex : DX) (Q : Sl → Env' → Prop) : dVar 9 Ex (s0 :: s1 :: s2 :: s3 :: s4 :: s5 :: s6 :: s7 :: s8 :: .lst a ds :: r) Q = Q (.al 9 a) (s0 :: s1 :: s2 :: s3 :: s4 :: s5 :: s6 :: s7 :: s8 :: .lst a ds :: r) := rfl
theorem dv10 (s0 s1 s2 s3 s4 s5 s6 s7 s8 s9 : Sl) (d : D) (r : Env') (Ex : DX) (Q : Sl → Env' → Prop) : dVar 10 Ex (s0 :: s1 :: s2 :: s3 :: s4 :: s5 :: s6 :: s7 :: s8 :: s9 :: .ext d :: r) Q = Q (.ext d) (s0 :: s1 :: s2 :: s3 :: s4 :: s5 :: s6 :: s7 :: s8 :: s9 :: .ext d :: r) := rfl
theorem dw10 (s0 s1 s2 s3 s4 s5 s6 s7 s8 s9 : Sl) (a : Addr) (ds : List D) (r : Env') (Ex : DX) (Q : Sl → Env' → Prop) : dVar 10 Ex (s0 :: s1 :: s2 :: s3 :: s4 :: s5 :: s6 :: s7 :: s8 :: s9 :: .lst a ds :: r) Q = Q (.al 10 a) (s0 :: s1 :: s2 :: s3 :: s4 :: s5 :: s6 :: s7 :: s8 :: s9 :: .lst a ds :: r) := rfl
theorem dv11 (s0 s1 s2 s3 s4 s5 s6 s7 s8 s9 s10 : Sl) (d : D) (r : Env') (Ex : DX) (Q : Sl → Env' → Prop) : dVar 11 Ex (s0 :: s1 :: s2 :: s3 :: s4 :: s5 :: s6 :: s7 :: s8 :: s9 :: s10 :: .ext d :: r) Q = Q (.ext d) (s0 :: s1 :: s2 :: s3 :: s4 :: s5 :: s6 :: s7 :: s8 :: s9 :: s10 :: .ext d :: r) := rfl
theorem dw11 (s0 s1 s2 s3 s4 s5 s6 s7 s8 s9 s10 : Sl) (a : Addr) (ds : List D) (r : Env') (Ex : DX) (Q : Sl → Env' → Prop) : dVar 11 Ex (s0 :: s1 :: s2 :: s3 :: s4 :: s5 :: s6 :: s7 :: s8 :: s9 :: s10 :: .lst a ds :: r) Q = Q (.al 11 a) (s0 :: s1 :: s2 :: s3 :: s4 :: s5 :: s6 :: s7 :: s8 :: s9 :: s10 :: .lst a ds :: r) := rfl
theorem dv12 (s0 s1 s2 s3 s4 s5 s6 s7 s8 s9 s10 s11 : Sl) (d : D) (r : Env') (Ex : DX) (Q : Sl → Env' → Prop) : dVar 12 Ex (s0 :: s1 :: s2 :: s3 :: s4 :: s5 :: s6 :: s7 :: s8 :: s9 :: s10 :: s11 :: .ext d :: r) Q = Q (.ext d) (s0 :: s1 :: s2 :: s3 :: s4 :: s5 :: s6 :: s7 :: s8 :: s9 :: s10 :: s11 :: .ext d :: r) := rfl
theorem dw12 (s0 s1 s2 s3 s4 s5 s6 s7 s8 s9 s10 s11 : Sl) (a : Addr) (ds : List D) (r : Env') (Ex : DX) (Q : Sl → Env' → Prop) : dVar 12 Ex (s0 :: s1 :: s2 :: s3 :: s4 :: s5 :: s6 :: s7 :: s8 :: s9 :: s10 :: s11 :: .lst a ds :: r) Q = Q (.al 12 a) (s0 :: s1 :: s2 :: s3 :: s4 :: s5 :: s6 :: s7 :: s8 :: s9 :: s10 :: s11 :: .lst a ds :: r) := rfl
theorem dv13 (s0 s1 s2 s3 s4 s5 s6 s7 s8 s9 s10 s11 s12 : Sl) (d : D) (r : Env') (Ex : DX) (Q : Sl → Env' → Prop) : dVar 13 Ex (s0 :: s1 :: s2 :: s3 :: s4 :: s5 :: s6 :: s7 :: s8 :: s9 :: s10 :: s11 :: s12 :: .ext d :: r) Q = Q (.ext d) (s0 :: s1 :: s2 :: s3 :: s4 :: s5 :: s6 :: s7 :: s8 :: s9 :: s10 :: s11 :: s12 :: .ext d :: r) := rfl
theorem dw13 (s0 s1 s2 s3 s4 s5 s6 s7 s8 s9 s10 s11 s12 : Sl) (a : Addr) (ds : List D) (r : Env') (Ex : DX) (Q : Sl → Env' → Prop) : dVar 13 Ex (s0 :: s1 :: s2 :: s3 :: s4 :: s5 :: s6 :: s7 :: s8 :: s9 :: s10 :: s11 :: s12 :: .lst a ds :: r) Q = Q (.al 13 a) (s0 :: s1 :: s2 :: s3 :: s4 :: s5 :: s6 :: s7 :: s8 :: s9 :: s10 :: s11 :: s12 :: .lst a ds :: r) := rfl
theorem dv14 (s0 s1 s2 s3 s4 s5 s6 s7 s8 s9 s10 s11 s12 s13 : Sl) (d : D) (r : Env') (Ex : DX) (Q : Sl → Env' → Prop) : dVar 14 Ex (s0 :: s1 :: s2 :: s3 :: s4 :: s5 :: s6 :: s7 :: s8 :: s9 :: s10 :: s11 :: s12 :: s13 :: .ext d :: r) Q = Q (.ext d) (s0 :: s1 :: s2 :: s3 :: s4 :: s5 :: s6 :: s7 :: s8 :: s9 :: s10 :: s11 :: s12 :: s13 :: .ext d :: r) := rfl
theorem dw14 (s0 s1 s2 s3 s4 s5 s6 s7 s8 s9 s10 s11 s12 s13 : Sl) (a : Addr) (ds : List D) (r : Env') (Ex : DX) (Q : Sl → Env' → Prop) : dVar 14 Ex (s0 :: s1 :: s2 :: s3 :: s4 :: s5 :: s6 :: s7 :: s8 :: s9 :: s10 :: s11 :: s12 :: s13 :: .lst a ds :: r) Q = Q (.al 14 a) (s0 :: s1 :: s2 :: s3 :: s4 :: s5 :: s6 :: s7 :: s8 :: s9 :: s10 :: s11 :: s12 :: s13 :: .lst a ds :: r) := rfl
theorem dv15 (s0 s1 s2 s3 s4 s5 s6 s7 s8 s9 s10 s11 s12 s13 s14 : Sl) (d : D) (r : Env') (Ex : DX) (Q : Sl → Env' → Prop) : dVar 15 Ex (s0 :: s1 :: s2 :: s3 :: s4 :: s5 :: s6 :: s7 :: s8 :: s9 :: s10 :: s11 :: s12 :: s13 :: s14 :: .ext d :: r) Q = Q (.ext d) (s0 :: s1 :: s2 :: s3 :: s4 :: s5 :: s6 :: s7 :: s8 :: s9 :: s10 :: s11 :: s12 :: s13 :: s14 :: .ext d :: r) := rfl
theorem dw15 (s0 s1 s2 s3 s4 s5 s6 s7 s8 s9 s10 s11 s12 s13 s14 : Sl) (a : Addr) (ds : List D) (r : Env') (Ex : DX) (Q : Sl → Env' → Prop) : dVar 15 Ex (s0 :: s1 :: s2 :: s3 :: s4 :: s5 :: s6 :: s7 :: s8 :: s9 :: s10 :: s11 :: s12 :: s13 :: s14 :: .lst a ds :: r) Q = Q (.al 15 a) (s0 :: s1 :: s2 :: s3 :: s4 :: s5 :: s6 :: s7 :: s8 :: s9 :: s10 :: s11 :: s12 :: s13 :: s14 :: .lst a ds :: r) := rfl
theorem dv16 (s0 s1 s2 s3 s4 s5 s6 s7 s8 s9 s10 s11 s12 s13 s14 s15 : Sl) (d : D) (r : Env') (Ex : DX) (Q : Sl → Env' → Prop) : dVar 16 Ex (s0 :: s1 :: s2 :: s3 :: s4 :: s5 :: s6 :: s7 :: s8 :: s9 :: s10 :: s11 :: s12 :: s13 :: s14 :: s15 :: .ext d :: r) Q = Q (.ext d) (s0 :: s1 :: s2 :: s3 :: s4 :: s5 :: s6 :: s7 :: s8 :: s9 :: s10 :: s11 :: s12 :: s13 :: s14 :: s15 :: .ext d :: r) := rfl
theorem dw16 (s0 s1 s2 s3 s4 s5 s6 s7 s8 s9 s10 s11 s12 s13 s14 s15 : Sl) (a : Addr) (ds : List D) (r : Env') (Ex : DX) (Q : Sl → Env' → Prop) : dVar 16 Ex (s0 :: s1 :: s2 :: s3 :: s4 :: s5 :: s6 :: s7 :: s8 :: s9 :: s10 :: s11 :: s12 :: s13 :: s14 :: s15 :: .lst a ds :: r) Q = Q (.al 16 a) (s0 :: s1 :: s2 :: s3 :: s4 :: s5 :: s6 :: s7 :: s8 :: s9 :: s10 :: s11 :: s12 :: s13 :: s14 :: s15 :: .lst a ds :: r) := rfl
theorem dv17 (s0 s1 s2 s3 s4 s5 s6 s7 s8 s9 s10 s11 s12 s13 s14 s15 s16 : Sl) (d : D) (r : Env') (Ex : DX) (Q : Sl → Env' → Prop) : dVar 17 Ex (s0 :: s1 :: s2 :: s3 :: s4 :: s5 :: s6 :: s7 :: s8 :: s9 :: s10 :: s11 :: s12 :: s13 :: s14 :: s15 :: s16 :: .ext d :: r) Q = Q (.ext d) (s0 :: s1 :: s2 :: s3 :: s4 :: s5 :: s6 :: s7 :: s8 :: s9 :: s10 :: s11 :: s12 :: s13 :: s14 :: s15 :: s16 :: .ext d :: r) := rfl
theorem dw17 (s0 s1 s2 s3 s4 s5 s6 s7 s8 s9 s10 s11 s12 s13 s14 s15 s16 : Sl) (a : Addr) (ds : List D) (r : Env') (Ex : DX) (Q : Sl → Env' → Prop) : dVar 17 Ex (s0 :: s1 :: s2 :: s3 :: s4 :: s5 :: s6 :: s7 :: s8 :: s9 :: s10 :: s11 :: s12 :: s13 :: s14 :: s15 :: s16 :: .lst a ds :: r) Q = Q (.al 17 a) (s0 :: s1 :: s2 :: s3 :: s4 :: s5 :: s6 :: s7 :: s8 :: s9 :: s10 :: s11 :: s12 :: s13 :: s14 :: s15 :: s16 :: .lst a ds :: r) := rfl
theorem dv18 (s0 s1 s2 s3 s4 s5 s6 s7 s8 s9 s10 s11 s12 s13 s14 s15 s16 s17 : Sl) (d : D) (r : Env') (Ex : DX) (Q : Sl → Env' → Prop) : dVar 18 Ex (s0 :: s1 :: s2 :: s3 :: s4 :: s5 :: s6 :: s7 :: s8 :: s9 :: s10 :: s11 :: s12 :: s13 :: s14 :: s15 :: s16 :: s17 :: .ext d :: r) Q = Q (.ext d) (s0 :: s1 :: s2 :: s3 :: s4 :: s5 :: s6 :: s7 :: s8 :: s9 :: s10 :: s11 :: s12 :: s13 :: s14 :: s15 :: s16 :: s17 :: .ext d :: r) := rfl
theorem dw18 (s0 s1 s2 s3 s4 s5 s6 s7 s8 s9 s10 s11 s12 s13 s14 s15 s16 s17 : Sl) (a : Addr) (ds : List D) (r : Env') (Ex : DX) (Q : Sl → Env' → Prop) : dVar 18 Ex (s0 :: s1 :: s2 :: s3 :: s4 :: s5 :: s6 :: s7 :: s8 :: s9 :: s10 :: s11 :: s12 :: s13 :: s14 :: s15 :: s16 :: s17 :: .lst a ds :: r) Q = Q (.al 18 a) (s0 :: s1 :: s2 :: s3 :: s4 :: s5 :: s6 :: s7 :: s8 :: s9 :: s10 :: s11 :: s12 :: s13 :: s14 :: s15 :: s16 :: s17 :: .lst a ds :: r) := rfl
theorem dv19 (s0 s1 s2 s3 s4 s5 s6 s7 s8 s9 s10 s11 s12 s13 s14 s15 s16 s17 s18 : Sl) (d : D) (r : Env') (Ex : DX) (Q : Sl → Env' → Prop) : dVar 19 Ex (s0 :: s1 :: s2 :: s3 :: s4 :: s5 :: s6 :: s7 :: s8 :: s9 :: s10 :: s11 :: s12 :: s13 :: s14 :: s15 :: s16 :: s17 :: s18 :: .ext d :: r) Q = Q (.ext d) (s0 :: s1 :: s2 :: s3 :: s4 :: s5 :: s6 :: s7 :: s8 :: s9 :: s10 :: s11 :: s12 :: s13 :: s14 :: s15 :: s16 :: s17 :: s18 :: .ext d :: r) := rfl
theorem dw19 (s0 s1 s2 s3 s4 s5 s6 s7 s8 s9 s10 s11 s12 s13 s14 s15 s16 s17 s18 : Sl) (a : Addr) (ds : List D) (r : Env') (Ex : DX) (Q : Sl → Env' → Prop) : dVar 19 Ex (s0 :: s1 :: s2 :: s3 :: s4 :: s5 :: s6 :: s7 :: s8 :: s9 :: s10 :: s11 :: s12 :: s13 :: s14 :: s15 :: s16 :: s17 :: s18 :: .lst a ds :: r) Q = Q (.al 19 a) (s0 :: s1 :: s2 :: s3 :: s4 :: s5 :: s6 :: s7 :: s8 :: s9 :: s10 :: s11 :: s12 :: s13 :: s14 :: s15 :: s16 :: s17 :: s18 :: .lst a ds :: r) := rfl
end HD
namespace HD
open PySem PyProof.Rows L2
section
variable {G : GG} {N : List Str} {sc : SC} {k : Nat} {a b : Expr} {ta tb : DT} {p p2 pos pos2 : Pos}
def dListZip (ta tb : DT) : DT := fun Ex env Q => ta Ex env fun x env1 => tb Ex env1 fun y env2 => seqD env2 x fun xs _ => seqD env2 y fun ys _ => ∀ a, Q (.lst a ((xs.zip ys).map fun p => D.tk [p.1, p.2])) env2
end
end HD
namespace HD
open PySem L2
abbrev Cells := List (Addr × OC)
def putC (cs : Cells) (b : Addr) (oc : OC) : Cells := cs.map fun p => if p.1 = b then (b, oc) else p
theorem putC_keys (cs : Cells) (b : Addr) (oc : OC) : (putC cs b oc).map (·.1) = cs.map (·.1) := by
  unfold putC
  rw [List.map_map]
  refine List.map_congr_left fun p _ => ?_
  show (if p.1 = b then (b, oc) else p).1 = p.1
  split
  · rename_i h
    exact h.symm
  · rfl
section
variable {K : PySem.W.Frag} {e : Ent} {env env' : Env'} {T T' : Tmp} {F : Hp} {σ : L2.St} {H : Hp}
theorem cells_write {v : V} {d : D} {cs : Cells} {b : Addr} {oc : OC} {o : HO} (h : SlOk K F H v (.reg d cs)) (ok : OC.ok K F b oc o) : SlOk K F (upd H b o) v (.reg d (putC cs b oc)) := by
  obtain ⟨h1, h2, h3⟩ := h
  refine ⟨h1, by rw [putC_keys]; exact h2, fun p hp => ?_⟩
  obtain ⟨q, hq, rfl⟩ := List.mem_map.1 hp
  obtain ⟨n, o', ho, okc⟩ := h3 q hq
  show F (if q.1 = b then (b, oc) else q).1 = none ∧ ∃ o1, upd H b o (if q.1 = b then (b, oc) else q).1 = some o1 ∧ OC.ok K F (if q.1 = b then (b, oc) else q).1 (if q.1 = b then (b, oc) else q).2 o1
  split
  · rename_i z
    exact ⟨by rw [← z]; exact n, o, upd_same, ok⟩
  · rename_i z
    exact ⟨n, o', by rw [upd_ne z]; exact ho, okc⟩
theorem Holds.cellW {i : Nat} {d : D} {cs : Cells} {b : Addr} {oc : OC} {o : HO} (h : Holds K e env T F σ H) (hi : env[i]? = some (.reg d cs)) (hb : b ∈ cs.map (·.1)) (ok : OC.ok K F b oc o) : Holds K e (env.set i (.reg d (putC cs b oc))) T F σ (upd H b o) :=
  h.writeR hi hb (putC_keys cs b oc) (fun v z => cells_write z ok) (fun z => nomatch z)
theorem cellOf_key {cs : Cells} {b : Addr} {oc : OC} (h : cellOf cs b = some oc) : b ∈ cs.map (·.1) := List.mem_map.2 ⟨(b, oc), cellOf_mem h, rfl⟩
theorem Holds.regroup (h : Holds K e env T F σ H) (len : env'.length = σ.length) (slots : ∀ (i : Nat) sl, env'[i]? = some sl → sl = .un ∨ ∃ v, σ[i]? = some (some v) ∧ SlOk K F H v sl) (temps : ∀ p ∈ T', SlOk K F H p.1 p.2)
    (nd : (ownedE env' ++ ownedT T').Nodup) (sub : ∀ a ∈ ownedE env' ++ ownedT T', a ∈ ownedE env ++ ownedT T) : Holds K e env' T' F σ H :=
  ⟨h.fh, len, slots, temps, nd, h.s1, h.s2, fun a ha => h.s3 a (sub a ha)⟩
theorem Holds.retemp {v : V} {sl sl' : Sl} (h : Holds K e env ((v, sl) :: T) F σ H) (ok : SlOk K F H v sl') (nd : sl'.owned.Nodup) (sub : ∀ a ∈ sl'.owned, a ∈ sl.owned) : Holds K e env ((v, sl') :: T) F σ H := by
  have h1 : (ownedE env ++ (sl.owned ++ ownedT T)).Nodup := h.nd
  obtain ⟨n1, n2, n3⟩ := List.nodup_append.mp h1
  obtain ⟨n4, n5, n6⟩ := List.nodup_append.mp n2
  refine h.regroup h.len h.slots (fun p hp => ?_) ?_ (fun a ha => ?_)
  · rcases List.mem_cons.mp hp with rfl | hp
    · exact ok
    · exact h.temps p (List.mem_cons_of_mem _ hp)
  · show (ownedE env ++ (sl'.owned ++ ownedT T)).Nodup
    refine List.nodup_append.mpr ⟨n1, List.nodup_append.mpr ⟨nd, n5, fun a ha b hb => n6 a (sub a ha) b hb⟩, fun a ha b hb => ?_⟩
    rcases List.mem_append.mp hb with hb | hb
    · exact n3 a ha b (List.mem_append_left _ (sub b hb))
    · exact n3 a ha b (List.mem_append_right _ hb)
  · have ha' : a ∈ ownedE env ++ (sl'.owned ++ ownedT T) := ha
    show a ∈ ownedE env ++ (sl.owned ++ ownedT T)
    rcases List.mem_append.mp ha' with hb | hb
    · exact List.mem_append_left _ hb
    · rcases List.mem_append.mp hb with hb | hb
      · exact List.mem_append_right _ (List.mem_append_left _ (sub a hb))
      · exact List.mem_append_right _ (List.mem_append_right _ hb)
theorem Holds.asReg {v : V} {p : Addr} {ds : List D} (h : Holds K e env ((v, .lst p ds) :: T) F σ H) : Holds K e env ((v, .reg (.val (.ref p)) [(p, .lst ds)]) :: T) F σ H := by
  obtain ⟨h1, h2, vs, h3, h4⟩ := h.temps (v, .lst p ds) List.mem_cons_self
  refine h.retemp ⟨h1, List.pairwise_singleton _ _, fun q hq => ?_⟩ (List.pairwise_singleton _ _) fun a ha => ha
  rw [List.mem_singleton.mp hq]
  exact ⟨h2, _, h3, vs, rfl, h4⟩
theorem Holds.extReg {v : V} {d : D} (h : Holds K e env ((v, .ext d) :: T) F σ H) : Holds K e env ((v, .reg d []) :: T) F σ H :=
  h.retemp ⟨h.temps (v, .ext d) List.mem_cons_self, List.nodup_nil, fun q hq => nomatch hq⟩ List.nodup_nil fun a ha => ha
def stoS (fz : Bool) (env : Env') (x : Sl) (k : D → Cells → Env' → Prop) : Prop := match x with
  | .ext d => k d [] env
  | .lst p ds => if fz = true then k (.lst ds) [] env else k (.val (.ref p)) [(p, .lst ds)] env
  | .reg d cs => k d cs env
  | .al i a => match env[i]? with
    | some (.lst b ds) => b = a ∧ k (.lst ds) [] (env.set i (.ext (.lst ds)))
    | _ => False
  | .ar _ _ => False
  | .un => False
theorem Holds.sto {fz : Bool} {v : V} {x : Sl} {k : D → Cells → Env' → Prop} (h : Holds K e env ((v, x) :: T) F σ H) (w : stoS fz env x k) : ∃ d cs F1 env', Same F F1 ∧ Holds K e env' ((v, .reg d cs) :: T) F1 σ H ∧ k d cs env' := by
  cases x with
  | un => exact w.elim
  | ar _ _ => exact w.elim
  | ext d => exact ⟨d, [], F, env, Same.refl _, h.extReg, w⟩
  | reg d cs => exact ⟨d, cs, F, env, Same.refl _, h, w⟩
  | lst p ds =>
    cases fz with
    | true =>
      obtain ⟨F1, sm, h1⟩ := h.freezeT
      exact ⟨.lst ds, [], F1, env, sm, h1.extReg, w⟩
    | false => exact ⟨_, _, F, env, Same.refl _, h.asReg, w⟩
  | al i a =>
    have w' : (match env[i]? with | some (.lst b ds) => b = a ∧ k (.lst ds) [] (env.set i (.ext (.lst ds))) | _ => False) := w
    split at w'
    · rename_i b ds hb
      obtain ⟨rfl, w'⟩ := w'
      have w2 : frzD env (.al i b) fun d env1 => k d [] env1 := by
        show (match env[i]? with | some (.lst c ds) => c = b ∧ k (.lst ds) [] (env.set i (.ext (.lst ds))) | some (.ext (.lst ds)) => False | _ => False)
        rw [hb]
        exact ⟨rfl, w'⟩
      obtain ⟨d, F1, env1, sm, h1, rd, q⟩ := h.frz1 w2
      exact ⟨d, [], F1, env1, sm, (h1.pushE rd).extReg, q⟩
    · exact w'.elim
theorem Holds.absorb {v : V} {i : Nat} {d d2 : D} {cs cs2 : Cells} (h : Holds K e env ((v, .reg d2 cs2) :: T) F σ H) (hi : env[i]? = some (.reg d cs)) :
    (∀ a ∈ cs.map (·.1), a ∉ cs2.map (·.1)) ∧ Rep K F d2 v ∧ Holds K e (env.set i (.reg d (cs ++ cs2))) T F σ H := by
  obtain ⟨A, B, e1, e2⟩ := splitE hi
  have nd : (ownedE env ++ (cs2.map (·.1) ++ ownedT T)).Nodup := h.nd
  have m1 : ∀ a ∈ cs.map (·.1), a ∈ ownedE env := fun a ha => mem_ownedE hi ha
  obtain ⟨n1, n2, n3⟩ := List.nodup_append.mp nd
  have dis : ∀ a ∈ cs.map (·.1), a ∉ cs2.map (·.1) := fun a ha hb => n3 a (m1 a ha) a (List.mem_append_left _ hb) rfl
  obtain ⟨t1, t2, t3⟩ := h.temps (v, .reg d2 cs2) List.mem_cons_self
  have perm : (ownedE env ++ (cs2.map (·.1) ++ ownedT T)).Perm (ownedE (env.set i (.reg d (cs ++ cs2))) ++ ownedT T) := by
    rw [e1, e2]
    show (A ++ (cs.map (·.1) ++ B) ++ (cs2.map (·.1) ++ ownedT T)).Perm (A ++ ((cs ++ cs2).map (·.1) ++ B) ++ ownedT T)
    simp only [List.map_append, List.append_assoc]
    refine List.Perm.append_left A (List.Perm.append_left _ ?_)
    rw [← List.append_assoc, ← List.append_assoc]
    exact List.Perm.append_right _ List.perm_append_comm
  refine ⟨dis, t1, h.regroup (by rw [List.length_set]; exact h.len) (fun j sl q => ?_) (fun p hp => h.temps p (List.mem_cons_of_mem _ hp)) (perm.nodup nd) fun a ha => perm.mem_iff.mpr ha⟩
  rw [List.getElem?_set] at q
  split at q
  · rename_i ij
    subst ij
    split at q
    · cases q
      rcases h.slots i _ hi with z | ⟨w, hw, o1, o2, o3⟩
      · cases z
      · refine .inr ⟨w, hw, o1, ?_, fun p hp => ?_⟩
        · rw [List.map_append]
          exact List.nodup_append.mpr ⟨o2, t2, fun a ha b hb z => dis a ha (z ▸ hb)⟩
        · rcases List.mem_append.mp hp with hp | hp
          · exact o3 p hp
          · exact t3 p hp
    · cases q
  · exact h.slots j sl q
theorem Holds.carve {i : Nat} {d : D} {b : Addr} {cs sub rest : Cells} (h : Holds K e env T F σ H) (hi : env[i]? = some (.reg d cs)) (hp : cs.Perm (sub ++ rest)) : Holds K e (env.set i (.reg d rest)) ((.ref b, .reg (.val (.ref b)) sub) :: T) F σ H := by
  obtain ⟨A, B, e1, e2⟩ := splitE hi
  have pk : (cs.map (·.1)).Perm (sub.map (·.1) ++ rest.map (·.1)) := by
    have := hp.map (·.1)
    rwa [List.map_append] at this
  have perm : (ownedE env ++ ownedT T).Perm (ownedE (env.set i (.reg d rest)) ++ (sub.map (·.1) ++ ownedT T)) := by
    rw [e1, e2]
    show (A ++ (cs.map (·.1) ++ B) ++ ownedT T).Perm (A ++ (rest.map (·.1) ++ B) ++ (sub.map (·.1) ++ ownedT T))
    simp only [List.append_assoc]
    refine List.Perm.append_left A ?_
    refine ((pk.trans List.perm_append_comm).append_right (B ++ ownedT T)).trans ?_
    simp only [List.append_assoc]
    refine List.Perm.append_left _ ?_
    rw [← List.append_assoc, ← List.append_assoc]
    exact List.Perm.append_right _ List.perm_append_comm
  have n : (sub.map (·.1) ++ rest.map (·.1)).Nodup := by
    rcases h.slots i _ hi with z | ⟨w, hw, o1, o2, o3⟩
    · cases z
    · exact pk.nodup o2
  obtain ⟨m1, m2, m3⟩ := List.nodup_append.mp n
  rcases h.slots i _ hi with z | ⟨w, hw, o1, o2, o3⟩
  · cases z
  refine h.regroup (by rw [List.length_set]; exact h.len) (fun j sl q => ?_) (fun p hp' => ?_) (perm.nodup h.nd) fun a ha => perm.mem_iff.mpr ha
  · rw [List.getElem?_set] at q
    split at q
    · rename_i ij
      subst ij
      split at q
      · cases q
        exact .inr ⟨w, hw, o1, m2, fun p hp' => o3 p (hp.mem_iff.mpr (List.mem_append_right _ hp'))⟩
      · cases q
    · exact h.slots j sl q
  · rcases List.mem_cons.mp hp' with rfl | hp'
    · exact ⟨rfl, m1, fun p hp' => o3 p (hp.mem_iff.mpr (List.mem_append_left _ hp'))⟩
    · exact h.temps p hp'
end
end HD
namespace HD
open PySem L2
def cellS (env : Env') (x : Sl) (k : Nat → Addr → D → Cells → OC → Prop) : Prop := match x with
  | .ar i b => match env[i]? with
    | some (.reg d cs) => match cellOf cs b with
      | some oc => k i b d cs oc
      | none => False
    | _ => False
  | _ => False
def ptrD (i : Nat) : D → Sl
  | .val (.ref q) => .ar i q
  | d => .ext d
def lstO (oc : OC) (k : List D → Prop) : Prop := match oc with
  | .lst ds => k ds
  | _ => False
def insO (oc : OC) (k : Str → Addr → List (Str × D) → Prop) : Prop := match oc with
  | .ins c dx fs => k c dx fs
  | _ => False
section
variable {K : PySem.W.Frag} {e : Ent} {env : Env'} {T : Tmp} {F : Hp} {σ : L2.St} {H : Hp}
theorem Holds.cellS {v : V} {x : Sl} {k : Nat → Addr → D → Cells → OC → Prop} (h : Holds K e env T F σ H) (m : (v, x) ∈ T) (w : HD.cellS env x k) :
    ∃ i b d cs oc, x = .ar i b ∧ v = .ref b ∧ env[i]? = some (.reg d cs) ∧ cellOf cs b = some oc ∧ (F b = none ∧ ∃ o, H b = some o ∧ OC.ok K F b oc o) ∧ k i b d cs oc := by
  cases x with
  | ar i b =>
    have ev : v = .ref b := h.temps _ m
    have w' : (match env[i]? with | some (.reg d cs) => (match cellOf cs b with | some oc => k i b d cs oc | none => False) | _ => False) := w
    split at w'
    · rename_i d cs hi
      split at w'
      · rename_i oc hc
        exact ⟨i, b, d, cs, oc, rfl, ev, hi, hc, h.cell hi hc, w'⟩
      · exact w'.elim
    · exact w'.elim
  | _ => exact w.elim
theorem putC_out {cs : Cells} {b : Addr} {oc : OC} (h : b ∉ cs.map (·.1)) : putC cs b oc = cs := by
  unfold putC
  refine (List.map_congr_left fun p hp => ?_).trans (List.map_id cs)
  exact if_neg fun z => h (List.mem_map.2 ⟨p, hp, z⟩)
theorem putC_app (cs cs2 : Cells) (b : Addr) (oc : OC) : putC (cs ++ cs2) b oc = putC cs b oc ++ putC cs2 b oc := List.map_append
theorem Holds.putIn {v : V} {i : Nat} {d d2 : D} {cs cs2 : Cells} {b : Addr} {oc : OC} {o : HO} (h : Holds K e env ((v, .reg d2 cs2) :: T) F σ H) (hi : env[i]? = some (.reg d cs)) (hb : b ∈ cs.map (·.1)) (ok : Rep K F d2 v → OC.ok K F b oc o) :
    (∀ a ∈ cs.map (·.1), a ∉ cs2.map (·.1)) ∧ Holds K e (env.set i (.reg d (putC cs b oc ++ cs2))) T F σ (upd H b o) := by
  obtain ⟨dis, rd, h1⟩ := h.absorb hi
  have hl : i < env.length := (List.getElem?_eq_some_iff.mp hi).1
  have hi1 : (env.set i (.reg d (cs ++ cs2)))[i]? = some (.reg d (cs ++ cs2)) := by rw [List.getElem?_set, if_pos rfl, if_pos hl]
  have h2 := h1.cellW hi1 (b := b) (by rw [List.map_append]; exact List.mem_append_left _ hb) (ok rd)
  rw [List.set_set, putC_app, putC_out (dis b hb)] at h2
  exact ⟨dis, h2⟩
theorem ptrD_ok {i : Nat} {d : D} {v : V} (h : Rep K F d v) : SlOk K F H v (ptrD i d) := by
  unfold ptrD
  split
  · exact h
  · exact h
theorem ptrD_owned (i : Nat) (d : D) : (ptrD i d).owned = [] := by
  unfold ptrD
  split <;> rfl
theorem Holds.pushP {v : V} {d : D} (i : Nat) (h : Holds K e env T F σ H) (ok : Rep K F d v) : Holds K e env ((v, ptrD i d) :: T) F σ H :=
  h.push (Grow.refl h.fh) (ptrD_ok ok) fun a ha => by rw [ptrD_owned] at ha; cases ha
theorem lookup_lu (vs : List (Str × V)) (f : Str) : vs.lookup f = luK vs f := by
  induction vs with
  | nil => rfl
  | cons p r ih =>
    rw [luK_cons]
    obtain ⟨g, x⟩ := p
    show (match f == g with | true => some x | false => List.lookup f r) = _
    by_cases h : g = f
    · rw [if_pos h, show (f == g) = true from beq_iff_eq.mpr h.symm]
    · rw [if_neg h, show (f == g) = false from beq_eq_false_iff_ne.mpr (Ne.symm h), ih]
def putFD (f : Str) (d : D) : List (Str × D) → List (Str × D)
  | [] => [(f, d)]
  | (g, x) :: r => if g = f then (g, d) :: r else (g, x) :: putFD f d r
theorem putF_ents {f : Str} {d : D} {v : V} (hd : Rep K F d v) : ∀ {fs : List (Str × D)} {vs : List (Str × V)}, Ents K F fs vs → Ents K F (putFD f d fs) (putF f v vs)
  | [], vs, h => by
    rw [h.emp]
    exact .cons hd .nil
  | (g, x) :: r, vs, h => by
    obtain ⟨u, rs, rfl, r1, r2⟩ := h.inv
    show Ents K F (if g = f then (g, d) :: r else (g, x) :: putFD f d r) (if g = f then (g, v) :: rs else (g, u) :: putF f v rs)
    split
    · exact .cons hd r2
    · exact .cons r1 (putF_ents hd r2)
end
structure ClsF (G : GG) (c f : Str) : Prop where
  cl : Cls G.K (He.ga G.K c)
  na : NoAttr G.K (He.ga G.K c) f
section
variable {G : GG} {N : List Str} {sc : SC} {k : Nat} {a b : Expr} {ta tb tc : DT} {apos cpos p p2 pos pos2 py spos : Pos} {x : Str}
def dVarR (i : Nat) : DT := fun _ env Q => match env[i]? with
  | some (.reg d _) => ∃ q, rootOf d = some q ∧ Q (.ar i q) env
  | some (.ar j q) => Q (.ar j q) env
  | _ => False
theorem de_varR (i : Nat) {pos : Pos} (hN : N[i]? = some x := by rfl) (hv : Vis sc.sc x := by first | exact Or.inl rfl | exact Or.inr (Or.inl rfl) | exact Or.inr (Or.inr rfl))
    (hd : (x == ("__debug__" : Str)) = false := by decide) (hcd : (x == ("__classdict__" : Str)) = false := by decide) : DE G N sc k (.Name x pos) (dVarR i) :=
  ⟨fun W => ⟨tVar i, fun X S => pe_var (by rw [S.nms]; exact hN) (S.vis hv) hd hcd, fun e Ex _ env T F σ H Q R hh ht hR => by
    unfold dVarR at ht
    split at ht
    · rename_i d cs q
      obtain ⟨q0, e0, ht⟩ := ht
      rcases hh.slots i _ q with z | ⟨v, hv, ok, _⟩
      · cases z
      rw [rootOf_some e0] at ok
      have ev : v = .ref q0 := ok
      subst ev
      exact ⟨_, hv, hR _ H F env (.ar i q0) (hh.push (Grow.refl hh.fh) rfl fun a ha => nomatch ha) ht⟩
    · rename_i j q0 q
      rcases hh.slots i _ q with z | ⟨v, hv, ok⟩
      · cases z
      have ev : v = .ref q0 := ok
      subst ev
      exact ⟨_, hv, hR _ H F env (.ar j q0) (hh.push (Grow.refl hh.fh) rfl fun a ha => nomatch ha) ht⟩
    · exact ht.elim⟩⟩
def dPtr (i j : Nat) : DT := fun _ env Q => match env[i]? with
  | some (.ext (.val (.ref q))) => Q (.ar j q) env
  | _ => False
def dAttr (c0 f : Str) (t : DT) : DT := fun Ex env Q => t Ex env fun x env1 => cellS env1 x fun i _ _ _ oc => insO oc fun c _ fs => c = c0 ∧ ∃ d, luK fs f = some d ∧ Q (ptrD i d) env1
theorem de_attr {c0 f : Str} (h : DE G N sc k a ta) (hc : ClsF G c0 f) (hb : ∀ env, attributeBase a f env (eval a env) = eval a env := by intro _; rfl) : DE G N sc k (.Attribute a f pos) (dAttr c0 f ta) := ⟨fun W => by
  obtain ⟨te, p1, i1⟩ := h.ex W
  refine ⟨tFld G.K te f, fun X S => by rw [← S.K]; exact pe_fld (p1 X S) (hb _), fun e Ex hl env T F σ H Q R hh ht hR => ?_⟩
  refine i1 e Ex hl env T F σ H _ _ hh ht fun u H1 F1 env1 z hh1 q1 => ?_
  obtain ⟨i, b, d, cs, oc, rfl, rfl, hi, hcell, ⟨_, o, ho, ok⟩, q⟩ := hh1.cellS List.mem_cons_self q1
  cases oc with
  | ins c dx fs =>
    obtain ⟨rfl, d1, h1, q⟩ := q
    obtain ⟨vs, rfl, m1, m2⟩ := ok
    obtain ⟨v, hv, rv⟩ := (Ents.lu f ⟨m1, m2⟩).1 d1 h1
    exact ⟨b, _, dx, vs, v, rfl, ho, hc.cl, hc.na, by rw [lookup_lu]; exact hv, hR v H1 F1 env1 _ (hh1.pop.pushP i rv) q⟩
  | _ => exact q.elim⟩
def sAttr (c0 f : Str) (fz : Bool) (t te : DT) : DTS := fun Ex E env => te Ex env fun y env1 => stoS fz env1 y fun d2 cs2 env2 => t Ex env2 fun x env3 => cellS env3 x fun i b r cs oc => insO oc fun c dx fs =>
  c = c0 ∧ fs.length < 1000 ∧ ((∀ a ∈ cs.map (·.1), a ∉ cs2.map (·.1)) → E.nx (env3.set i (.reg r (putC cs b (.ins c dx (putFD f d2 fs)) ++ cs2))))
theorem ds_attr {c0 f : Str} {fz : Bool} (h : DE G N sc k a ta) (hb : DE G N sc k b tb) (hc : ClsF G c0 f) (hs : ∀ env, swapsWith b (some (.Attribute a f spos)) pos.line env = pure false := by intro _; rfl) : DS G N sc k (.Assign [.Attribute a f spos] b pos) (sAttr c0 f fz ta tb) := ⟨fun W => by
  obtain ⟨te, p1, i1⟩ := h.ex W
  obtain ⟨tf, p2, i2⟩ := hb.ex W
  refine ⟨sFld G.K te tf f, fun X S => by rw [← S.K]; exact ps_fld (p1 X S) (p2 X S) (hs _), fun e Ex hl env F σ H E Dn hh ht ok => ?_⟩
  refine i2 e Ex hl env [] F σ H _ _ hh ht fun v H1 F1 env1 y hh1 q1 => ?_
  obtain ⟨d2, cs2, F2, env2, _, hh2, q2⟩ := hh1.sto q1
  refine i1 e Ex hl env2 _ F2 σ H1 _ _ hh2 q2 fun u H3 F3 env3 z hh3 q3 => ?_
  obtain ⟨i, b, d, cs, oc, rfl, rfl, hi, hcell, ⟨_, o, ho, okc⟩, q⟩ := hh3.cellS List.mem_cons_self q3
  cases oc with
  | ins c dx fs =>
    obtain ⟨rfl, hz, q⟩ := q
    obtain ⟨vs, rfl, m1, m2⟩ := okc
    have hle : vs.length < 1000 := by
      rw [← Ents.length (K := G.K) (F := F3) ⟨m1, m2⟩]
      exact hz
    obtain ⟨dis, hh4⟩ := hh3.pop.putIn (oc := .ins c dx (putFD f d2 fs)) (o := .ins (He.ga G.K c) dx (putF f v vs)) hi (cellOf_key hcell) (fun rd => ⟨_, rfl, (putF_ents rd ⟨m1, m2⟩).1, (putF_ents rd ⟨m1, m2⟩).2⟩)
    exact ⟨b, _, dx, vs, rfl, ho, hc.cl, hc.na, hle, ok.nx _ F3 σ _ hh4 (q dis)⟩
  | _ => exact q.elim⟩
def lstK (_ : Nat) (_ : Addr) (_ : D) (_ : Cells) (oc : OC) : Prop := lstO oc fun _ => True
theorem lstK_of {env : Env'} {x : Sl} {K : PySem.W.Frag} {e : Ent} {T : Tmp} {F : Hp} {σ : L2.St} {H : Hp} {v : V} (h : Holds K e env T F σ H) (m : (v, x) ∈ T) (w : cellS env x lstK) : ∃ b us, v = .ref b ∧ H b = some (.lst us) := by
  obtain ⟨i, b, d, cs, oc, rfl, rfl, hi, hcell, ⟨_, o, ho, okc⟩, q⟩ := h.cellS m w
  cases oc with
  | lst ds =>
    obtain ⟨us, rfl, _⟩ := okc
    exact ⟨b, us, rfl, ho⟩
  | _ => exact q.elim
def dAppR (fz : Bool) (t te : DT) : DT := fun Ex env Q => t Ex env fun x env1 => cellS env1 x lstK ∧ te Ex env1 fun y env2 => stoS fz env2 y fun d2 cs2 env3 => cellS env3 x fun i b r cs oc => lstO oc fun ds =>
  ds.length < sizeLine ∧ ((∀ a ∈ cs.map (·.1), a ∉ cs2.map (·.1)) → Q (.ext .non) (env3.set i (.reg r (putC cs b (.lst (ds ++ [d2])) ++ cs2))))
theorem de_appR {fz : Bool} (ha : DE G N sc k a ta) (hb : DE G N sc k b tb) (hw : FewArgs a "append" b [] cpos := by intro _; exact ⟨rfl, rfl, rfl, rfl⟩) (hline : (apos.endLine == cpos.line) = true := by rfl) :
    DE G N sc k (.Call (.Attribute a "append" apos) [b] [] cpos) (dAppR fz ta tb) := ⟨fun W => by
  obtain ⟨te, p1, i1⟩ := ha.ex W
  obtain ⟨tf, p2, i2⟩ := hb.ex W
  refine ⟨tBM G.K "list" rAppend te (tCons tf tNil), fun X S => ?_, fun e Ex hl env T F σ H Q R hh ht hR => ?_⟩
  · obtain ⟨hbase, hfew, hs, hplain⟩ := hw X.env
    rw [← S.K]
    exact pe_bm PySem.F.plainAttrs_list PySem.F.slot_list_append PySem.F.type_list_append mt_append (p1 X S) (pa_cons (p2 X S) pa_nil hs) hbase hfew hline hs hplain
  · refine i1 e Ex hl env T F σ H _ _ hh ht fun w H1 F1 env1 x hh1 ⟨q0, q1⟩ => ?_
    obtain ⟨b0, us0, rfl, hu0⟩ := lstK_of hh1 List.mem_cons_self q0
    refine ⟨.inl ⟨rfl, us0, SqL.of hu0⟩, ?_⟩
    refine i2 e Ex hl env1 _ F1 σ H1 _ _ hh1 q1 fun u H2 F2 env2 y hh2 q2 => ?_
    obtain ⟨d2, cs2, F3, env3, _, hh3, q3⟩ := hh2.sto q2
    show rAppend (.ref b0) [u] H2 R
    obtain ⟨i, b, d, cs, oc, rfl, eb, hi, hcell, ⟨_, o, ho, okc⟩, q⟩ := hh3.cellS (List.mem_cons_of_mem _ List.mem_cons_self) q3
    cases eb
    cases oc with
    | lst ds =>
      obtain ⟨us, rfl, rr⟩ := okc
      obtain ⟨hz, q⟩ := q
      obtain ⟨dis, hh4⟩ := hh3.putIn (oc := .lst (ds ++ [d2])) (o := .lst (us ++ [u])) hi (cellOf_key hcell) (fun rd => ⟨_, rfl, rr.append (.one rd)⟩)
      exact ⟨b0, us, u, rfl, rfl, ho, by rw [← rr.length]; exact hz, hR .non _ F3 _ (.ext .non) (hh4.pop.pushE rfl) (q dis)⟩
    | _ => exact q.elim⟩
def dExtR (t te : DT) : DT := fun Ex env Q => t Ex env fun x env1 => cellS env1 x lstK ∧ te Ex env1 fun y env2 => wd env2 y fun d2 => match d2 with
  | .lst es => cellS env2 x fun i b r cs oc => lstO oc fun ds => ds.length + es.length ≤ sizeLine ∧ Q (.ext .non) (env2.set i (.reg r (putC cs b (.lst (ds ++ es)))))
  | _ => False
def dClrR (t : DT) : DT := fun Ex env Q => t Ex env fun x env1 => cellS env1 x fun i b r cs oc => lstO oc fun _ => Q (.ext .non) (env1.set i (.reg r (putC cs b (.lst []))))
def dPopR (t : DT) : DT := fun Ex env Q => t Ex env fun x env1 => cellS env1 x fun i b r cs oc => lstO oc fun ds => ∃ d, ds[ds.length - 1]? = some d ∧ Q (ptrD i d) (env1.set i (.reg r (putC cs b (.lst ds.dropLast))))
def dIxR (t te : DT) : DT := fun Ex env Q => t Ex env fun x env1 => te Ex env1 fun y env2 => match y with
  | .ext (.int n) => cellS env2 x fun i _ _ _ oc => lstO oc fun ds => ∃ d, atI ds n = some d ∧ Q (ptrD i d) env2
  | _ => False
end
end HD
namespace HD
open PySem L2
def dkO (oc : OC) (k : List (Key × D) → Prop) : Prop := match oc with
  | .dk kvs => k kvs
  | .lkK _ _ kvs => k kvs
  | _ => False
def dtO' (oc : OC) (k : List (List Int × D) → Prop) : Prop := match oc with
  | .dt kvs => k kvs
  | .lkT _ _ kvs => k kvs
  | _ => False
def dkW (oc : OC) (k : List (Key × D) → Prop) : Prop := match oc with
  | .dk kvs => k kvs
  | _ => False
def dtW (oc : OC) (k : List (List Int × D) → Prop) : Prop := match oc with
  | .dt kvs => k kvs
  | _ => False
section
variable {G : GG} {N : List Str} {sc : SC} {k : Nat} {a b c : Expr} {ta tb tc : DT} {apos cpos p p2 pos pos2 py spos : Pos} {x : Str}
theorem de_ixR (ha : DE G N sc k a ta) (hb : DE G N sc k b tb) (hs : PlainIx b := by intro _ _; rfl) : DE G N sc k (.Subscript a b pos) (dIxR ta tb) := ⟨fun W => by
  obtain ⟨te, p1, i1⟩ := ha.ex W
  obtain ⟨tf, p2, i2⟩ := hb.ex W
  refine ⟨tOp (rIx G.K) te tf, fun X S => pe_ix (by rw [← S.K]; exact ix_seq) (p1 X S) (p2 X S) hs, fun e Ex hl env T F σ H Q R hh ht hR => ?_⟩
  refine i1 e Ex hl env T F σ H _ _ hh ht fun v H1 F1 env1 x hh1 q1 => ?_
  refine i2 e Ex hl env1 _ F1 σ H1 _ _ hh1 q1 fun u H2 F2 env2 y hh2 q2 => ?_
  cases y with
  | ext d =>
    cases d with
    | int n =>
      have eu : u = .int n := hh2.temps (u, .ext (.int n)) List.mem_cons_self
      obtain ⟨i, b, d, cs, oc, rfl, rfl, hi, hcell, ⟨_, o, ho, okc⟩, q⟩ := hh2.cellS (List.mem_cons_of_mem _ List.mem_cons_self) q2
      cases oc with
      | lst ds =>
        obtain ⟨us, rfl, rr⟩ := okc
        obtain ⟨d1, e1, q⟩ := q
        obtain ⟨w, e', r⟩ := rr.atI e1
        exact .inl ⟨b, us, n, w, rfl, eu, SqL.of ho, e', hR w _ F2 env2 _ (hh2.pop.pop.pushP i r) q⟩
      | _ => exact q.elim
    | _ => exact q2.elim
  | _ => exact q2.elim⟩
def sSetR (fz : Bool) (t tI te : DT) : DTS := fun Ex E env => te Ex env fun y env0 => stoS fz env0 y fun d2 cs2 env1 => t Ex env1 fun x env2 => tI Ex env2 fun z env3 => match z with
  | .ext (.int n) => cellS env3 x fun i b r cs oc => lstO oc fun ds => ∃ j, ixN ds.length n = some j ∧ ((∀ a ∈ cs.map (·.1), a ∉ cs2.map (·.1)) → E.nx (env3.set i (.reg r (putC cs b (.lst (ds.set j d2)) ++ cs2))))
  | _ => False
def dDGetR (t te : DT) : DT := fun Ex env Q => t Ex env fun x env1 => te Ex env1 fun y env2 => cellS env2 x fun i _ _ _ oc => dkO oc fun kvs => ∃ key d, y = .ext (kD key) ∧ luK kvs key = some d ∧ Q (ptrD i d) env2
def dDInR (neg : Bool) (te t : DT) : DT := fun Ex env Q => te Ex env fun y env1 => t Ex env1 fun x env2 => cellS env2 x fun _ _ _ _ oc => dkO oc fun kvs => ∃ key, y = .ext (kD key) ∧ Q (.ext (.bl (neg != (luK kvs key).isSome))) env2
def sPutR (fz : Bool) (t tk tv : DT) : DTS := fun Ex E env => tv Ex env fun y env0 => stoS fz env0 y fun d2 cs2 env1 => t Ex env1 fun x env2 => tk Ex env2 fun z env3 => cellS env3 x fun i b r cs oc => dkW oc fun kvs => ∃ key, z = .ext (kD key) ∧ kvs.length < sizeLine ∧
  ((∀ a ∈ cs.map (·.1), a ∉ cs2.map (·.1)) → E.nx (env3.set i (.reg r (putC cs b (.dk (ptK kvs key d2)) ++ cs2))))
def dkK (_ : Nat) (_ : Addr) (_ : D) (_ : Cells) (oc : OC) : Prop := dkO oc fun _ => True
def dGet2R (t te tf : DT) : DT := fun Ex env Q => t Ex env fun x env1 => cellS env1 x dkK ∧ te Ex env1 fun y env2 => tf Ex env2 fun z env3 => frzD env3 z fun d3 env4 => cellS env4 x fun i _ _ _ oc => dkO oc fun kvs => ∃ key, y = .ext (kD key) ∧ Q (ptrD i ((luK kvs key).getD d3)) env4
def dPop1R (t te : DT) : DT := fun Ex env Q => t Ex env fun x env1 => cellS env1 x dkK ∧ te Ex env1 fun y env2 => cellS env2 x fun i b r cs oc => dkW oc fun kvs => ∃ key d, y = .ext (kD key) ∧ luK kvs key = some d ∧ Q (ptrD i d) (env2.set i (.reg r (putC cs b (.dk (drK kvs key)))))
def dPop2R (t te tf : DT) : DT := fun Ex env Q => t Ex env fun x env1 => cellS env1 x dkK ∧ te Ex env1 fun y env2 => tf Ex env2 fun z env3 => frzD env3 z fun d3 env4 => cellS env4 x fun i b r cs oc => dkW oc fun kvs => ∃ key, y = .ext (kD key) ∧
  Q (ptrD i ((luK kvs key).getD d3)) (env4.set i (.reg r (putC cs b (.dk (drK kvs key)))))
end
end HD
namespace HD
open PySem PySem.Spec PyProof.Rows L2
section
variable {G : GG} {N : List Str} {sc : SC} {k : Nat} {a b c : Expr} {ta tb tc : DT} {apos cpos p p2 pos pos2 py spos : Pos} {x : Str}
def dDGetTR (t te : DT) : DT := fun Ex env Q => t Ex env fun x env1 => te Ex env1 fun y env2 => cellS env2 x fun i _ _ _ oc => dtO' oc fun kvs => ∃ key d, y = .ext (kT key) ∧ luK kvs key = some d ∧ Q (ptrD i d) env2
def dDInTR (neg : Bool) (te t : DT) : DT := fun Ex env Q => te Ex env fun y env1 => t Ex env1 fun x env2 => cellS env2 x fun _ _ _ _ oc => dtO' oc fun kvs => ∃ key, y = .ext (kT key) ∧ Q (.ext (.bl (neg != (luK kvs key).isSome))) env2
def sPutTR (fz : Bool) (t tk tv : DT) : DTS := fun Ex E env => tv Ex env fun y env0 => stoS fz env0 y fun d2 cs2 env1 => t Ex env1 fun x env2 => tk Ex env2 fun z env3 => cellS env3 x fun i b r cs oc => dtW oc fun kvs => ∃ key, z = .ext (kT key) ∧ kvs.length < sizeLine ∧
  ((∀ a ∈ cs.map (·.1), a ∉ cs2.map (·.1)) → E.nx (env3.set i (.reg r (putC cs b (.dt (ptK kvs key d2)) ++ cs2))))
def dtK (_ : Nat) (_ : Addr) (_ : D) (_ : Cells) (oc : OC) : Prop := dtO' oc fun _ => True
def dPop1TR (t te : DT) : DT := fun Ex env Q => t Ex env fun x env1 => cellS env1 x dtK ∧ te Ex env1 fun y env2 => cellS env2 x fun i b r cs oc => dtW oc fun kvs => ∃ key d, y = .ext (kT key) ∧ luK kvs key = some d ∧ Q (ptrD i d) (env2.set i (.reg r (putC cs b (.dt (drK kvs key)))))
end
end HD
namespace HD
open PySem PyProof.Rows L2
inductive Bk where
  | no
  | slot (i : Nat)
  | part (i : Nat)
def lend1 (m : Nat) (env : Env') (x : Sl) (k : Sl → Bk → Env' → Prop) : Prop := match m with
  | 0 => froz env x fun d => k (.ext d) .no env
  | 1 => match x with
    | .al i a => match env[i]? with
      | some (.lst b ds) => b = a ∧ k (.lst a ds) (.slot i) (env.set i .un)
      | _ => False
    | .ar i b => match env[i]? with
      | some (.reg d cs) => rootOf d = some b ∧ k (.reg (.val (.ref b)) cs) (.slot i) (env.set i .un)
      | _ => False
    | .lst a ds => k (.lst a ds) .no env
    | .reg d cs => k (.reg d cs) .no env
    | .ext d => k (.ext d) .no env
    | .un => False
  | _ => match x with
    | .ar i b => match env[i]? with
      | some (.reg d cs) => ∃ sub rest, cs.Perm (sub ++ rest) ∧ k (.reg (.val (.ref b)) sub) (.part i) (env.set i (.reg d rest))
      | _ => False
    | _ => False
def lendM : List Nat → Env' → List Sl → (List Sl → List Bk → Env' → Prop) → Prop
  | [], env, [], k => k [] [] env
  | m :: ms, env, x :: xs, k => lend1 m env x fun s bk env1 => lendM ms env1 xs fun ss bks env2 => k (s :: ss) (bk :: bks) env2
  | _, _, _, _ => False
def give1 (b : Bk) (env : Env') (s : Sl) (k : Env' → Prop) : Prop := match b with
  | .no => k env
  | .slot i => s.plain ∧ k (env.set i s)
  | .part i => match s with
    | .reg _ sub => match env[i]? with
      | some (.reg d rest) => (∀ a ∈ rest.map (·.1), a ∉ sub.map (·.1)) → k (env.set i (.reg d (rest ++ sub)))
      | _ => False
    | _ => False
def giveM : List Bk → Env' → List Sl → (Env' → Prop) → Prop
  | [], env, _, k => k env
  | b :: bs, env, s :: ss, k => give1 b env s fun env1 => giveM bs env1 ss k
  | _ :: _, _, [], _ => False
def BkOk (σ : L2.St) (v : V) : Bk → Prop
  | .slot i => σ[i]? = some (some v)
  | _ => True
def BksOk (σ : L2.St) : List V → List Bk → Prop
  | v :: vs, b :: bs => BkOk σ v b ∧ BksOk σ vs bs
  | _, _ => True
section
variable {K : PySem.W.Frag} {e : Ent} {σ : L2.St} {H : Hp}
theorem Holds.lend1 {m : Nat} {env : Env'} {T : Tmp} {F : Hp} {v : V} {x : Sl} {k : Sl → Bk → Env' → Prop} (h : Holds K e env ((v, x) :: T) F σ H) (w : HD.lend1 m env x k) :
    ∃ s bk F1 env1, Same F F1 ∧ Holds K e env1 ((v, s) :: T) F1 σ H ∧ BkOk σ v bk ∧ k s bk env1 := by
  match m with
  | 0 =>
    obtain ⟨d, F1, sm, h1, rd, q⟩ := h.froz1 w
    exact ⟨.ext d, .no, F1, env, sm, h1.pushE rd, trivial, q⟩
  | 1 =>
    cases x with
    | un => exact w.elim
    | ext d => exact ⟨_, .no, F, env, Same.refl _, h, trivial, w⟩
    | lst a ds => exact ⟨_, .no, F, env, Same.refl _, h, trivial, w⟩
    | reg d cs => exact ⟨_, .no, F, env, Same.refl _, h, trivial, w⟩
    | al i a =>
      have ev : v = .ref a := h.temps (v, .al i a) List.mem_cons_self
      have w' : (match env[i]? with | some (.lst b ds) => b = a ∧ k (.lst a ds) (.slot i) (env.set i .un) | _ => False) := w
      split at w'
      · rename_i b ds hb
        obtain ⟨rfl, w'⟩ := w'
        rcases h.slots i _ hb with z | ⟨u, hu, e1, _⟩
        · cases z
        subst e1
        subst ev
        exact ⟨_, .slot i, F, _, Same.refl _, h.pop.take hb hu, hu, w'⟩
      · exact w'.elim
    | ar i b =>
      have ev : v = .ref b := h.temps (v, .ar i b) List.mem_cons_self
      have w' : (match env[i]? with | some (.reg d cs) => rootOf d = some b ∧ k (.reg (.val (.ref b)) cs) (.slot i) (env.set i .un) | _ => False) := w
      split at w'
      · rename_i d cs hb
        obtain ⟨hr, w'⟩ := w'
        have ed := rootOf_some hr
        subst ed
        rcases h.slots i _ hb with z | ⟨u, hu, e1, _⟩
        · cases z
        have e1' : u = .ref b := e1
        subst e1'
        subst ev
        exact ⟨_, .slot i, F, _, Same.refl _, h.pop.take hb hu, hu, w'⟩
      · exact w'.elim
  | m + 2 =>
    cases x with
    | ar i b =>
      have ev : v = .ref b := h.temps (v, .ar i b) List.mem_cons_self
      have w' : (match env[i]? with | some (.reg d cs) => ∃ sub rest, cs.Perm (sub ++ rest) ∧ k (.reg (.val (.ref b)) sub) (.part i) (env.set i (.reg d rest)) | _ => False) := w
      split at w'
      · rename_i d cs hb
        obtain ⟨sub, rest, hp, w'⟩ := w'
        subst ev
        exact ⟨_, .part i, F, _, Same.refl _, h.pop.carve hb hp, trivial, w'⟩
      · exact w'.elim
    | _ => exact w.elim
theorem Holds.lendM : ∀ {ms : List Nat} {vs : List V} {xs : List Sl} {env : Env'} {T : Tmp} {F : Hp} {k : List Sl → List Bk → Env' → Prop}, vs.length = xs.length → Holds K e env (vs.zip xs ++ T) F σ H → HD.lendM ms env xs k →
    ∃ ss bks F1 env1, Same F F1 ∧ ss.length = vs.length ∧ Holds K e env1 (vs.zip ss ++ T) F1 σ H ∧ BksOk σ vs bks ∧ k ss bks env1
  | [], [], [], env, T, F, k, _, h, w => ⟨[], [], F, env, Same.refl _, rfl, h, trivial, w⟩
  | [], _, _ :: _, _, _, _, _, _, _, w => w.elim
  | _ :: _, _, [], _, _, _, _, _, _, w => w.elim
  | _, _ :: _, [], _, _, _, _, le, _, _ => by cases le
  | _, [], _ :: _, _, _, _, _, le, _, _ => by cases le
  | m :: ms, v :: vs, x :: xs, env, T, F, k, le, h, w => by
    have le' : vs.length = xs.length := by simpa using le
    have w' : HD.lend1 m env x fun s bk env1 => HD.lendM ms env1 xs fun ss bks env2 => k (s :: ss) (bk :: bks) env2 := w
    obtain ⟨s, bk, F1, env1, sm, h1, b1, w1⟩ := Holds.lend1 (T := vs.zip xs ++ T) h w'
    have h2 : Holds K e env1 (vs.zip xs ++ ((v, s) :: T)) F1 σ H := h1.perm List.perm_middle.symm
    obtain ⟨ss, bks, F2, env2, sm2, l2, h3, b2, w2⟩ := Holds.lendM le' h2 w1
    exact ⟨s :: ss, bk :: bks, F2, env2, sm.trans sm2, by rw [List.length_cons, List.length_cons, l2], h3.perm List.perm_middle, ⟨b1, b2⟩, w2⟩
theorem ownedT_zip : ∀ {vs : List V} {ss : List Sl}, ss.length = vs.length → ownedT (vs.zip ss) = ownedE ss
  | [], [], _ => rfl
  | [], _ :: _, h => by cases h
  | _ :: _, [], h => by cases h
  | v :: vs, s :: ss, h => by
    show s.owned ++ ownedT (vs.zip ss) = s.owned ++ ownedE ss
    rw [ownedT_zip (by simpa using h)]
theorem ownedT_app (T U : Tmp) : ownedT (T ++ U) = ownedT T ++ ownedT U := by
  unfold ownedT
  exact List.flatMap_append
theorem zip_get {vs : List V} {ss : List Sl} (le : ss.length = vs.length) {i : Nat} {s : Sl} (h : ss[i]? = some s) : ∃ v, vs[i]? = some v ∧ (v, s) ∈ vs.zip ss := by
  obtain ⟨hi, e⟩ := List.getElem?_eq_some_iff.mp h
  have hv : i < vs.length := by omega
  refine ⟨vs[i], List.getElem?_eq_getElem hv, ?_⟩
  refine List.mem_iff_getElem?.2 ⟨i, ?_⟩
  rw [List.getElem?_zip_eq_some]
  exact ⟨List.getElem?_eq_getElem hv, h⟩
theorem Holds.argsM {env : Env'} {T : Tmp} {F : Hp} {vs : List V} {ss : List Sl} (le : ss.length = vs.length) (h : Holds K e env (vs.zip ss ++ T) F σ H) : Holds K (entOf F H ss) ss [] F (vs.map some) H := by
  have nd := h.nd
  rw [ownedT_app, ownedT_zip le] at nd
  refine ⟨h.fh, by rw [List.length_map, le], fun i sl q => ?_, (fun p hp => nomatch hp), ?_, Same.refl _, fun a o q _ => ⟨q, fun z => z⟩, fun a ha => .inl ?_⟩
  · obtain ⟨v, hv, hm⟩ := zip_get le q
    exact .inr ⟨v, by rw [List.getElem?_map, hv]; rfl, h.temps _ (List.mem_append_left _ hm)⟩
  · show (ownedE ss ++ []).Nodup
    rw [List.append_nil]
    exact (List.nodup_append.mp (List.nodup_append.mp nd).2.1).1
  · have ha' : a ∈ ownedE ss ++ [] := ha
    rwa [List.append_nil] at ha'
theorem Holds.leftM {env : Env'} {T : Tmp} {F F' H' : Hp} {vs : List V} {ss fin : List Sl} {v : V} {r : Sl} (le : ss.length = vs.length) (h : Holds K e env (vs.zip ss ++ T) F σ H) (hf : Holds K (entOf F H ss) fin [(v, r)] F' (vs.map some) H') :
    fin.length = vs.length ∧ Holds K e env ((v, r) :: (vs.zip fin ++ T)) F' σ H' := by
  have lf : fin.length = vs.length := by rw [hf.len, List.length_map]
  have nd := h.nd
  rw [ownedT_app, ownedT_zip le] at nd
  obtain ⟨n1, n2, n3⟩ := List.nodup_append.mp nd
  obtain ⟨n4, n5, n6⟩ := List.nodup_append.mp n2
  have l : Left (ownedE ss) F H F' H' := ⟨hf.s1, hf.fh, fun b o q n => hf.s2 b o q n⟩
  have hmem : ∀ a, a ∈ ownedE env ++ ownedT T → a ∈ ownedE env ++ ownedT (vs.zip ss ++ T) := fun a ha => by
    rw [ownedT_app]
    rcases List.mem_append.mp ha with z | z
    · exact List.mem_append_left _ z
    · exact List.mem_append_right _ (List.mem_append_right _ z)
  have dis : ∀ a ∈ ownedE env ++ ownedT T, a ∉ ownedE ss := fun a ha hb => by
    rcases List.mem_append.mp ha with z | z
    · exact n3 a z a (List.mem_append_left _ hb) rfl
    · exact n6 a hb a z rfl
  have live : ∀ a ∈ ownedE env ++ ownedT T, H a ≠ none := fun a ha z => by
    obtain ⟨_, o, q⟩ := h.ownedH a (hmem a ha)
    rw [z] at q
    cases q
  have new : ∀ a ∈ ownedE fin ++ ownedT [(v, r)], a ∈ ownedE ss ∨ H a = none := fun a ha => hf.s3 a ha
  have apart : ∀ a ∈ ownedE fin ++ ownedT [(v, r)], a ∉ ownedE env ++ ownedT T := fun a ha hb => by
    rcases new a ha with z | z
    · exact dis a hb z
    · exact live a hb z
  have inA : ∀ a ∈ ownedE ss, a ∈ e.A0 ∨ e.H0 a = none := fun a ha => h.s3 a (by
    rw [ownedT_app, ownedT_zip le]
    exact List.mem_append_right _ (List.mem_append_left _ ha))
  refine ⟨lf, l.fh, h.len, fun i sl q => ?_, fun p hp => ?_, ?_, h.s1.trans l.ff, fun b o q n => ?_, fun a ha => ?_⟩
  · rcases h.slots i sl q with z | ⟨w, hw, ok⟩
    · exact .inl z
    · exact .inr ⟨w, hw, ok.left l fun a ha => dis a (List.mem_append_left _ (mem_ownedE q ha))⟩
  · rcases List.mem_cons.mp hp with rfl | hp
    · exact hf.temps (v, r) List.mem_cons_self
    · rcases List.mem_append.mp hp with hp | hp
      · obtain ⟨i, hi⟩ := List.mem_iff_getElem?.1 hp
        obtain ⟨p1, p2⟩ := p
        rw [List.getElem?_zip_eq_some] at hi
        obtain ⟨h1, h2⟩ := hi
        rcases hf.slots i p2 h2 with z | ⟨w, hw, ok⟩
        · subst z
          trivial
        · rw [List.getElem?_map, h1] at hw
          cases hw
          exact ok
      · exact (h.temps p (List.mem_append_right _ hp)).left l fun a ha => dis a (List.mem_append_right _ (List.mem_flatMap.mpr ⟨p, hp, ha⟩))
  · show (ownedE env ++ (r.owned ++ ownedT (vs.zip fin ++ T))).Nodup
    rw [ownedT_app, ownedT_zip lf]
    have hn : (ownedE fin ++ (r.owned ++ [])).Nodup := hf.nd
    rw [List.append_nil] at hn
    have hn2 : (r.owned ++ ownedE fin).Nodup := (List.perm_append_comm).nodup hn
    have ap : ∀ a ∈ r.owned ++ ownedE fin, a ∉ ownedE env ++ ownedT T := fun a ha => apart a (by
      show a ∈ ownedE fin ++ (r.owned ++ [])
      rw [List.append_nil]
      rcases List.mem_append.mp ha with z | z
      · exact List.mem_append_right _ z
      · exact List.mem_append_left _ z)
    rw [← List.append_assoc r.owned]
    refine List.nodup_append.mpr ⟨n1, List.nodup_append.mpr ⟨hn2, n5, fun a ha b hb z => ap a ha (z ▸ List.mem_append_right _ hb)⟩, fun a ha b hb z => ?_⟩
    subst z
    rcases List.mem_append.mp hb with hb | hb
    · exact ap a hb (List.mem_append_left _ ha)
    · exact n3 a ha a (List.mem_append_right _ hb) rfl
  · obtain ⟨q1, q2⟩ := h.s2 b o q n
    have nb : b ∉ ownedE ss := fun z => by
      rcases inA b z with y | y
      · exact n y
      · rw [q] at y
        cases y
    obtain ⟨r1, r2⟩ := l.out b o q1 nb
    exact ⟨r1, fun z => r2 (q2 z)⟩
  · have key : ∀ a ∈ ownedE fin ++ ownedT [(v, r)], a ∈ e.A0 ∨ e.H0 a = none := fun a ha => by
      rcases new a ha with z | z
      · exact inA a z
      · cases q : e.H0 a with
        | none => exact .inr rfl
        | some o =>
          by_cases hA : a ∈ e.A0
          · exact .inl hA
          · rw [(h.s2 a o q hA).1] at z
            cases z
    have ha' : a ∈ ownedE env ++ (r.owned ++ ownedT (vs.zip fin ++ T)) := ha
    rw [ownedT_app, ownedT_zip lf] at ha'
    rcases List.mem_append.mp ha' with hb | hb
    · exact h.s3 a (hmem a (List.mem_append_left _ hb))
    · rcases List.mem_append.mp hb with hb | hb
      · refine key a ?_
        show a ∈ ownedE fin ++ (r.owned ++ [])
        rw [List.append_nil]
        exact List.mem_append_right _ hb
      · rcases List.mem_append.mp hb with hb | hb
        · exact key a (List.mem_append_left _ hb)
        · exact h.s3 a (hmem a (List.mem_append_right _ hb))
theorem Holds.give1 {bk : Bk} {env : Env'} {T : Tmp} {F : Hp} {v : V} {s : Sl} {k : Env' → Prop} (h : Holds K e env ((v, s) :: T) F σ H) (b : BkOk σ v bk) (w : HD.give1 bk env s k) : ∃ env1, Holds K e env1 T F σ H ∧ k env1 := by
  cases bk with
  | no => exact ⟨env, h.pop, w⟩
  | slot i =>
    obtain ⟨hp, w⟩ := w
    have h2 := h.assign i hp
    have z : σ.set i (some v) = σ := by
      obtain ⟨hl, e⟩ := List.getElem?_eq_some_iff.mp (show σ[i]? = some (some v) from b)
      rw [← e]
      exact List.set_getElem_self hl
    rw [z] at h2
    exact ⟨_, h2, w⟩
  | part i =>
    cases s with
    | reg d2 sub =>
      have w' : (match env[i]? with | some (.reg d rest) => (∀ a ∈ rest.map (·.1), a ∉ sub.map (·.1)) → k (env.set i (.reg d (rest ++ sub))) | _ => False) := w
      split at w'
      · rename_i d rest hb
        obtain ⟨dis, _, h2⟩ := h.absorb hb
        exact ⟨_, h2, w' dis⟩
      · exact w'.elim
    | _ => exact w.elim
theorem Holds.giveM : ∀ {bks : List Bk} {vs : List V} {ss : List Sl} {env : Env'} {T : Tmp} {F : Hp} {k : Env' → Prop}, ss.length = vs.length → Holds K e env (vs.zip ss ++ T) F σ H → BksOk σ vs bks → HD.giveM bks env ss k → ∃ env1, Holds K e env1 T F σ H ∧ k env1
  | [], vs, ss, env, T, F, k, _, h, _, w => ⟨env, h.sub (List.sublist_append_right _ _), w⟩
  | _ :: _, _, [], _, _, _, _, _, _, _, w => w.elim
  | _ :: _, [], _ :: _, _, _, _, _, le, _, _, _ => by cases le
  | b :: bs, v :: vs, s :: ss, env, T, F, k, le, h, bo, w => by
    have w' : HD.give1 b env s fun env1 => HD.giveM bs env1 ss k := w
    obtain ⟨env1, h1, w1⟩ := Holds.give1 (T := vs.zip ss ++ T) h bo.1 w'
    exact Holds.giveM (by simpa using le) h1 bo.2 w1
def callM (spec : DSpec) (ms : List Nat) (Ex : DX) (env : Env') (xs : List Sl) (Q : Sl → Env' → Prop) : Prop := lendM ms env xs fun ss bks env1 => spec ss (fun r fin => r.plain ∧ giveM bks env1 fin fun env2 => Q r env2) (fun c fin => giveM bks env1 fin fun env2 => Ex c env2)
theorem Holds.callM {W : WX} {Ex : DX} {spec : DSpec} {n : Nat} {ms : List Nat} {env : Env'} {T : Tmp} {F : Hp} {vs : List V} {xs : List Sl} {Q : Sl → Env' → Prop} {R : VK} (hl : Link K e W Ex) (hn : ∀ ds Q X, spec ds Q X → ds.length = n) (le : vs.length = xs.length)
    (h : Holds K e env (vs.zip xs ++ T) F σ H) (w : HD.callM spec ms Ex env xs Q) (hR : ∀ v H' F' env' sl, Holds K e env' ((v, sl) :: T) F' σ H' → Q sl env' → R v H') : toSp K n spec vs H R (WE W σ) := by
  obtain ⟨ss, bks, F1, env1, _, ls, h1, b1, w1⟩ := h.lendM le w
  refine ⟨F1, ss, _, _, by rw [← hn _ _ _ w1, ls], h1.argsM ls, w1, fun v H' F' r fin hf hq => ?_, fun c dx H' F' fin hf hx hq => ?_⟩
  · obtain ⟨lf, h2⟩ := h1.leftM ls hf
    obtain ⟨_, q⟩ := hq
    have h3 : Holds K e env1 (vs.zip fin ++ ((v, r) :: T)) F' σ H' := h2.perm List.perm_middle.symm
    obtain ⟨env2, h4, q⟩ := h3.giveM lf b1 q
    exact hR v H' F' env2 r h4 q
  · have hf' : Holds K (entOf F1 H ss) fin [(V.non, Sl.ext .non)] F' (vs.map some) H' := hf.pushE rfl
    obtain ⟨lf, h2⟩ := h1.leftM ls hf'
    obtain ⟨env2, h4, q⟩ := h2.pop.giveM lf b1 hq
    exact hl c dx env2 F' σ H' h4.bare hx q
end
def dCallM (spec : DSpec) (ms : List Nat) (ta : DTA) : DT := fun Ex env Q => ta Ex env fun xs env1 => callM spec ms Ex env1 xs Q
section
variable {G : GG} {N : List Str} {sc : SC} {k kf n : Nat} {x : Str} {spec : DSpec} {e o : Expr} {es : List Expr} {p pos apos : Pos}
structure MDef (G : GG) (kf : Nat) (c m : Str) (n : Nat) (spec : DSpec) : Prop where
  ex : ∃ f fd ps, FnG G.P G.w G.K G.mg G.base (L2.CX G.P G.w) kf f fd ps (toSp G.K n spec) ∧ Meth G.K (He.ga G.K c) m f ∧ Binds G.K fd ps []
  cl : Cls G.K (He.ga G.K c)
  len : ∀ ds Q X, spec ds Q X → ds.length = n
def tMethD (C : Addr) (m : Str) (sp : Sp) (E : L2.St → XK) (ta : TE) (t : TA) : TE := fun σ H Q => ta σ H fun x H1 => ∃ a dx fs, x = .ref a ∧ H1 a = some (.ins C dx fs) ∧ fs.lookup m = none ∧ t σ H1 fun vs H2 => sp (x :: vs) H2 Q (E σ)
theorem MDef.pe {W : WX} {X : Cx} {to : TE} {ta : TA} {c m : Str} {pl : Sem Bool} (d : MDef G kf c m n spec) (S : Sit G N sc W k X) (hk : kf ≤ k) (ho : PE X o to) (ha : PA X (e :: es) ta) (he : NoStar e es) (hpl : ∀ env, (backTo pos (starEach es env)).any (·.1) = false)
    (ht : eval (.Call (.Attribute o m apos) (e :: es) [] pos) X.env = (do
      let ov ← eval o X.env
      standAt apos.atName
      let (f, first) ← holding [ov] (getMethod ov m pl)
      callWith pos f first (backTo pos (starEach (e :: es) X.env)) (backToKw pos (keywordEach [] X.env)))) :
    PE X (.Call (.Attribute o m apos) (e :: es) [] pos) (tMethD (He.ga G.K c) m (toSp G.K n spec) (WE W) to ta) := by
  obtain ⟨f, fd, ps, h1, h3, h4⟩ := d.ex
  have cl := d.cl
  have pass : ∀ σ, PassesAt (L2.CX X.prog X.w) X σ (WE W σ) := fun σ => passAt S.tk σ
  rw [← S.prog, ← S.w, ← S.K, ← S.mg, ← S.base] at h1
  rw [← S.K] at h3 h4 cl ⊢
  refine ⟨fun pins s σ H Q I h => ?_⟩
  refine PySem.W.methodCall_KW (pl := pl) (thn (ho.run pins s σ H _ I h) fun u s1 ⟨y, H1, I1, ry, a, dx, fs, ex, ea, l, q⟩ => ?_) ht
  subst ex
  obtain rfl : u = Value.ref a := ry
  refine getmeth_ok I1 ea cl h3 l ?_
  refine PySem.W.callWith_K (first := [.ref a]) (h₀ := X.base) I.ok.mod.kin h3.kp (thn (ha.run pos pins s1 σ H1 _ I1 q) fun us s2 ⟨vs, H2, I2, r, q2⟩ => ⟨I2.kIn, ?_⟩) (he _) (hpl _)
  exact runG (us := .ref a :: us) (vs := .ref a :: vs) h1 S.gd (S.room.mono hk) h4 (pass σ) I2 (.cons rfl r) q2
theorem MDef.pe0 {W : WX} {X : Cx} {to : TE} {c m : Str} {pl : Sem Bool} (d : MDef G kf c m n spec) (S : Sit G N sc W k X) (hk : kf ≤ k) (ho : PE X o to)
    (ht : eval (.Call (.Attribute o m apos) [] [] pos) X.env = (do
      let ov ← eval o X.env
      standAt apos.atName
      let (f, first) ← holding [ov] (getMethod ov m pl)
      callWith pos f first (backTo pos (starEach [] X.env)) (backToKw pos (keywordEach [] X.env)))) :
    PE X (.Call (.Attribute o m apos) [] [] pos) (tMethD (He.ga G.K c) m (toSp G.K n spec) (WE W) to tNil) := by
  obtain ⟨f, fd, ps, h1, h3, h4⟩ := d.ex
  have cl := d.cl
  have pass : ∀ σ, PassesAt (L2.CX X.prog X.w) X σ (WE W σ) := fun σ => passAt S.tk σ
  rw [← S.prog, ← S.w, ← S.K, ← S.mg, ← S.base] at h1
  rw [← S.K] at h3 h4 cl ⊢
  refine ⟨fun pins s σ H Q I h => ?_⟩
  refine PySem.W.methodCall_KW (pl := pl) (thn (ho.run pins s σ H _ I h) fun u s1 ⟨y, H1, I1, ry, a, dx, fs, ex, ea, l, q⟩ => ?_) ht
  subst ex
  obtain rfl : u = Value.ref a := ry
  refine getmeth_ok I1 ea cl h3 l ?_
  exact PySem.W.callWith_K0 (first := [.ref a]) I1.kIn h3.kp (runG (us := [.ref a]) (vs := [.ref a]) h1 S.gd (S.room.mono hk) h4 (pass σ) I1 (.cons rfl .nil) q)
def insK (c m : Str) (_ : Nat) (_ : Addr) (_ : D) (_ : Cells) (oc : OC) : Prop := insO oc fun c' _ fs => c' = c ∧ luK fs m = none
def objS (c m : Str) (env : Env') (x : Sl) : Prop := match x with
  | .reg (.val (.ref a)) cs => match cellOf cs a with
    | some (.ins c' _ fs) => c' = c ∧ luK fs m = none
    | _ => False
  | x => cellS env x (insK c m)
def dMethO (c m : Str) (spec : DSpec) (ms : List Nat) (to : DT) (ta : DTA) : DT := fun Ex env Q => to Ex env fun x env1 => objS c m env1 x ∧ ta Ex env1 fun xs env2 => callM spec ms Ex env2 (x :: xs) Q
theorem lookup_none {K : PySem.W.Frag} {F : Hp} {fs : List (Str × D)} {vs : List (Str × V)} {m : Str} (en : Ents K F fs vs) (h : luK fs m = none) : vs.lookup m = none := by
  rw [lookup_lu]
  have := (en.lu m).2
  rw [h] at this
  cases hv : luK vs m with
  | none => rfl
  | some _ => rw [hv] at this; cases this
theorem Holds.objS {K : PySem.W.Frag} {e : Ent} {env : Env'} {T : Tmp} {F : Hp} {σ : L2.St} {H : Hp} {v : V} {x : Sl} {c m : Str} (h : Holds K e env T F σ H) (hm : (v, x) ∈ T) (w : HD.objS c m env x) : ∃ a dx fs, v = .ref a ∧ H a = some (.ins (He.ga K c) dx fs) ∧ fs.lookup m = none := by
  have gen : ∀ x, (v, x) ∈ T → HD.cellS env x (insK c m) → ∃ a dx fs, v = .ref a ∧ H a = some (.ins (He.ga K c) dx fs) ∧ fs.lookup m = none := fun x hm w => by
    obtain ⟨i, b, d, cs, oc, rfl, rfl, hi, hcell, ⟨_, o, ho, okc⟩, q⟩ := h.cellS hm w
    cases oc with
    | ins c' dx fs =>
      obtain ⟨rfl, q⟩ := q
      obtain ⟨vs, rfl, m1, m2⟩ := okc
      exact ⟨b, dx, vs, rfl, ho, lookup_none ⟨m1, m2⟩ q⟩
    | _ => exact q.elim
  unfold HD.objS at w
  split at w
  · rename_i a cs
    split at w
    · rename_i c' dx fs hc
      obtain ⟨rfl, q⟩ := w
      obtain ⟨t1, _, t3⟩ := h.temps _ hm
      obtain ⟨_, o, ho, okc⟩ := t3 _ (cellOf_mem hc)
      obtain ⟨vs, rfl, m1, m2⟩ := okc
      exact ⟨a, dx, vs, t1, ho, lookup_none ⟨m1, m2⟩ q⟩
    · exact w.elim
  · exact gen x hm w
theorem im_methO {K : PySem.W.Frag} {W : WX} {c m : Str} {ms : List Nat} {te : TE} {to : DT} {ta : TA} {t : DTA} (h0 : Im K W te to) (h : ImA K W ta t) (hn : ∀ ds Q X, spec ds Q X → ds.length = n) : Im K W (tMethD (He.ga K c) m (toSp K n spec) (WE W) te ta) (dMethO c m spec ms to t) := fun e Ex hl env T F σ H Q R hh ht hR => by
  refine h0 e Ex hl env T F σ H _ _ hh ht fun v H1 F1 env1 x hh1 ⟨q0, q1⟩ => ?_
  obtain ⟨a, dx, fs, rfl, ha, hf⟩ := hh1.objS List.mem_cons_self q0
  refine ⟨a, dx, fs, rfl, ha, hf, ?_⟩
  refine h e Ex hl env1 _ F1 σ H1 _ _ hh1 q1 fun vs H2 F2 env2 xs le hh2 q2 => ?_
  have hh3 : Holds K e env2 ((V.ref a :: vs).zip (x :: xs) ++ T) F2 σ H2 := hh2.perm List.perm_middle
  exact hh3.callM hl hn (by rw [List.length_cons, List.length_cons, le]) q2 hR
end
end HD
namespace HD
open PySem PyProof.Rows L2
abbrev newS (c : Str) (a dx : Addr) : Sl := .reg (.val (.ref a)) [(a, .ins c dx []), (dx, .own a)]
def makeM (c : Str) (spec : DSpec) (ms : List Nat) (Ex : DX) (env : Env') (xs : List Sl) (Q : Sl → Env' → Prop) : Prop := lendM ms env xs fun ss bks env1 => ∀ a dx, a ≠ dx → spec (newS c a dx :: ss)
  (fun r fin => r = .ext .non ∧ match fin with | s0 :: fr => giveM bks env1 fr fun env2 => s0.plain ∧ Q s0 env2 | [] => False)
  (fun c fin => match fin with | _ :: fr => giveM bks env1 fr fun env2 => Ex c env2 | [] => False)
def dMake (c : Str) (spec : DSpec) (ms : List Nat) (ta : DTA) : DT := fun Ex env Q => ta Ex env fun xs env1 => makeM c spec ms Ex env1 xs Q
def tMakeD (C : Addr) (sp : Sp) (E : L2.St → XK) (t : TA) : TE := fun σ H Q => t σ H fun vs H1 => ∀ x dx, H1 x = none → H1 dx = none → dx ≠ x → sp (.ref x :: vs) (upd (upd H1 dx (.own x)) x (.ins C dx [])) (fun v H2 => v = .non ∧ Q (.ref x) H2) (E σ)
section
variable {K : PySem.W.Frag} {e : Ent} {σ : L2.St} {H : Hp}
theorem Holds.pushNew {env : Env'} {T : Tmp} {F : Hp} {c : Str} {x dx : Addr} (h : Holds K e env T F σ H) (hx : H x = none) (hd : H dx = none) (ne : dx ≠ x) : Holds K e env ((V.ref x, newS c x dx) :: T) F σ (upd (upd H dx (.own x)) x (.ins (He.ga K c) dx [])) := by
  have g1 : Grow F H F (upd H dx (.own x)) := Grow.loose h.fh hd
  have hx' : upd H dx (.own x) x = none := by rw [upd_ne ne.symm]; exact hx
  have g2 := g1.trans (Grow.loose (o := .ins (He.ga K c) dx []) g1.fh hx')
  refine h.push g2 ⟨rfl, ?_, fun p hp => ?_⟩ fun a ha => ?_
  · exact List.nodup_cons.2 ⟨fun z => ne (List.mem_singleton.1 z).symm, List.pairwise_singleton _ _⟩
  · rcases List.mem_cons.1 hp with rfl | hp
    · exact ⟨h.fh.free hx, _, upd_same, [], rfl, rfl, rfl⟩
    · rw [List.mem_singleton.1 hp]
      exact ⟨h.fh.free hd, .own x, by show upd (upd H dx (HO.own x)) x _ dx = _; rw [upd_ne ne, upd_same], rfl⟩
  · rcases List.mem_cons.1 ha with rfl | ha
    · exact hx
    · rw [List.mem_singleton.1 ha]
      exact hd
theorem im_make {W : WX} {c : Str} {spec : DSpec} {n : Nat} {ms : List Nat} {ta : TA} {t : DTA} (h : ImA K W ta t) (hn : ∀ ds Q X, spec ds Q X → ds.length = n) : Im K W (tMakeD (He.ga K c) (toSp K n spec) (WE W) ta) (dMake c spec ms t) := fun e Ex hl env T F σ H Q R hh ht hR => by
  refine h e Ex hl env T F σ H _ _ hh ht fun vs H1 F1 env1 xs le hh1 q1 x dx hx hd ne => ?_
  obtain ⟨ss, bks, F2, env2, _, ls, h1, b1, w1⟩ := hh1.lendM le q1
  have w2 := w1 x dx ne.symm
  have h2 : Holds K e env2 ((V.ref x :: vs).zip (newS c x dx :: ss) ++ T) F2 σ _ := h1.pushNew hx hd ne
  have ls' : (newS c x dx :: ss).length = (V.ref x :: vs).length := by rw [List.length_cons, List.length_cons, ls]
  refine ⟨F2, newS c x dx :: ss, _, _, by rw [← hn _ _ _ w2, ls'], h2.argsM ls', w2, fun v H' F' r fin hf hq => ?_, fun c' dc H' F' fin hf hxd hq => ?_⟩
  · obtain ⟨lf, h3⟩ := h2.leftM ls' hf
    obtain ⟨rfl, hq⟩ := hq
    cases fin with
    | nil => exact hq.elim
    | cons s0 fr =>
      have ev : v = .non := h3.temps (v, .ext .non) List.mem_cons_self
      refine ⟨ev, ?_⟩
      have h4 : Holds K e env2 (vs.zip fr ++ ((V.ref x, s0) :: T)) F' σ H' := h3.pop.perm List.perm_middle.symm
      obtain ⟨env3, h5, _, q⟩ := h4.giveM (by simpa using lf) b1 hq
      exact hR _ H' F' env3 s0 h5 q
  · have hf' : Holds K (entOf F2 _ (newS c x dx :: ss)) fin [(V.non, Sl.ext .non)] F' ((V.ref x :: vs).map some) H' := hf.pushE rfl
    obtain ⟨lf, h3⟩ := h2.leftM ls' hf'
    cases fin with
    | nil => exact hq.elim
    | cons s0 fr =>
      have h4 : Holds K e env2 (vs.zip fr ++ ((V.ref x, s0) :: T)) F' σ H' := h3.pop.perm List.perm_middle.symm
      obtain ⟨env3, h5, q⟩ := h4.giveM (by simpa using lf) b1 hq
      exact hl c' dc env3 F' σ H' h5.bare hxd q
end
structure KDef (G : GG) (kf : Nat) (c : Str) (n : Nat) (spec : DSpec) : Prop where
  ex : ∃ f fd ps, FnG G.P G.w G.K G.mg G.base (L2.CX G.P G.w) kf f fd ps (toSp G.K n spec) ∧ Mk G.K (He.ga G.K c) f ∧ Binds G.K fd ps []
  mg : G.mg c = some (.ref (He.ga G.K c))
  len : ∀ ds Q X, spec ds Q X → ds.length = n
section
variable {X : Cx} {C : CXT} {k : Nat} {f c : Addr} {fd : FuncData} {ps : List Str} {sp : Sp} {E : XK}
theorem run_makeG {pins : List (Addr × Obj)} {σ : L2.St} {H : Hp} {s : Shared} {Q : VK} {us : List Value} {vs : List V} (M : Mk X.K c f) (F : FnG X.prog X.w X.K X.mg X.base C k f fd ps sp) (gd : X.A.guards = some []) (hr : Room (k + 1) X.A) (hb : Binds X.K fd ps [])
    (pass : ∀ (pins : List (Addr × Obj)) (H : Hp) (s : Shared) (e : Value) (s' : Shared), L2.Inv X pins σ H s → C X.stack H s E e s' → X.xe e s') (I : L2.Inv X pins σ H s) (r : Vals vs us)
    (h : ∀ x dx, H x = none → H dx = none → dx ≠ x → sp (.ref x :: vs) (upd (upd H dx (.own x)) x (.ins c dx [])) (fun v H2 => v = .non ∧ Q (.ref x) H2) E) :
    wpAny (model X.prog X.w) X.A (call (.ref c) us) (EP X pins σ Q) X.xe s := by
  have hq := h (s.heap.objs.size + 1) s.heap.objs.size (I.hok.fresh (Nat.le_succ _)) (I.hok.fresh (Nat.le_refl _)) (Nat.ne_of_lt (Nat.lt_succ_self _))
  have I2 := L2.Inv.made (C := c) I
  have r2 : Vals (V.ref (s.heap.objs.size + 1) :: vs) (Value.ref (s.heap.objs.size + 1) :: us) := .cons rfl r
  have hl : (Value.ref (s.heap.objs.size + 1) :: us).length = ps.length := by
    have e := r2.length
    rw [F.fit _ _ _ _ hq] at e
    exact e.symm
  have b := hb { s with heap := (s.heap.push PySem.W.emptyDict).push (PySem.W.instObj c s.heap.objs.size) } (Value.ref (s.heap.objs.size + 1) :: us) I2.kIn (by rw [List.append_nil]; exact hl)
  rw [List.append_nil] at b
  refine wpAny_call (make_map (f := f) I.kIn M.makes M.init (beq_iff_eq.mp M.fn) (codeAny_mono (F.go _ X.stack _ _ ⟨Value.ref (s.heap.objs.size + 1) :: us, []⟩ (Value.ref (s.heap.objs.size + 1) :: us) _ _ E (by exact gd) (hr.make c us [])
    (I2.env0.make c us []) b r2 hq) fun r s' hq' => ?_))
  cases r with
  | error e => exact pass pins _ _ e s' I2 hq'
  | ok fl =>
    cases fl with
    | ret u =>
      obtain ⟨v, H', I3, rv, ev, q3⟩ := I2.after hq'
      subst ev
      exact ⟨rv, ⟨V.ref (s.heap.objs.size + 1), H', I3, rfl, q3⟩⟩
    | next => exact False.elim hq'
    | brk => exact False.elim hq'
    | cont => exact False.elim hq'
end
section
variable {G : GG} {N : List Str} {sc : SC} {k kf n : Nat} {spec : DSpec} {e o a : Expr} {es : List Expr} {p pos apos : Pos} {st : Stmt} {t : DTS} {ta : DT}
theorem de_make0 {c : Str} (ms : List Nat) (d : KDef G kf c n spec) (hk : kf + 1 ≤ k := by decide) (hg : GlS sc c := by rfl) (hdb : (c == ("__debug__" : Str)) = false := by decide) :
    DE G N sc k (.Call (.Name c p) [] [] pos) (dMake c spec ms dNil) := ⟨fun W => by
  refine ⟨_, fun X S => ?_, im_make (ta := tNil) im_nil d.len⟩
  obtain ⟨f, fd, ps, h1, h3, h4⟩ := d.ex
  have h2 := d.mg
  have pass : ∀ σ, PassesAt (L2.CX X.prog X.w) X σ (WE W σ) := fun σ => passAt S.tk σ
  rw [← S.prog, ← S.w, ← S.K, ← S.mg, ← S.base] at h1
  rw [← S.mg, ← S.K] at h2
  rw [← S.K] at h3 h4 ⊢
  refine ⟨fun pins s σ H Q I h => ?_⟩
  refine wpAny_Call_Name_kw (ld_glob I (S.gl hg) h2 ?_ hdb)
  exact PySem.W.callWith_K0 I.kIn h3.kp (run_makeG (us := []) h3 h1 S.gd (S.room.mono hk) h4 (pass σ) I .nil h)⟩
def sSetA (i : Nat) (t : DT) : DTS := fun Ex E env => t Ex env fun x env1 => match x with
  | .ar j b => E.nx (env1.set i (.ar j b))
  | .ext d => E.nx (env1.set i (.ext d))
  | _ => False
def dMoveR (i : Nat) : DT := fun _ env Q => match env[i]? with
  | some (.reg d cs) => Q (.reg d cs) (env.set i .un)
  | _ => False
end
end HD
namespace HD
open PySem L2
abbrev FnM (K : PySem.W.Frag) (m q : Str) (st : Stmt) (f : Addr) (fd : FuncData) : Prop := FunD K m q (defArgs st) (defBody st) (defScope st) [] [] f fd
theorem fn_go {G : GG} {x q : Str} {st : Stmt} {f : Addr} {fd : FuncData} {N ps : List Str} {k n m : Nat} {t : DTS} {sp : DSpec} (F : FnM G.K x q st f fd) (sc : FnScope N ps (defScope st)) (hb : DSs G N (fnS (defScope st)) k (defBody st) t) (hm : Meets t n m sp)
    (hn : ps.length = n) (hN : N.length = n + m) : FnG G.P G.w G.K G.mg G.base (L2.CX G.P G.w) (k + 1) f fd ps (toSp G.K n sp) := by
  subst hn
  refine fn_ok (He5.fun_of F) sc hb fun args Qd Xd h hl => ?_
  have e : N.length - args.length = m := by omega
  rw [e]
  exact hm args Qd Xd h
theorem MDef.of {G : GG} {c x q : Str} {st : Stmt} {f : Addr} {fd : FuncData} {N ps : List Str} {k n m : Nat} {t : DTS} {sp : DSpec} (F : FnM G.K x q st f fd) (M : Meth G.K (He.ga G.K c) x f) (C : Cls G.K (He.ga G.K c)) (sc : FnScope N ps (defScope st)) (hb : DSs G N (fnS (defScope st)) k (defBody st) t) (hm : Meets t n m sp)
    (hn : ps.length = n) (hN : N.length = n + m) (len : ∀ ds Q X, sp ds Q X → ds.length = n) (bd : Binds G.K fd ps []) : MDef G (k + 1) c x n sp :=
  ⟨⟨f, fd, ps, fn_go F sc hb hm hn hN, M, bd⟩, C, len⟩
theorem KDef.of {G : GG} {c x q : Str} {st : Stmt} {f : Addr} {fd : FuncData} {N ps : List Str} {k n m : Nat} {t : DTS} {sp : DSpec} (F : FnM G.K x q st f fd) (M : Mk G.K (He.ga G.K c) f) (mg : G.mg c = some (.ref (He.ga G.K c))) (sc : FnScope N ps (defScope st)) (hb : DSs G N (fnS (defScope st)) k (defBody st) t) (hm : Meets t n m sp)
    (hn : ps.length = n) (hN : N.length = n + m) (len : ∀ ds Q X, sp ds Q X → ds.length = n) (bd : Binds G.K fd ps []) : KDef G (k + 1) c n sp :=
  ⟨⟨f, fd, ps, fn_go F sc hb hm hn hN, M, bd⟩, mg, len⟩
section
variable {G : GG} {N : List Str} {sc : SC} {k kf n : Nat} {x : Str} {spec : DSpec} {e o a : Expr} {es : List Expr} {p pos apos : Pos} {ta : DT}
theorem de_methX {c m : Str} {to : DT} {ta : DTA} (ms : List Nat) (d : MDef G kf c m n spec) (ho : DE G N sc k o to) (ha : DAs G N sc k (e :: es) ta) (hk : kf ≤ k := by decide) (he : NoStar e es := by intro _; rfl) (hpl : ∀ env, (backTo pos (starEach es env)).any (·.1) = false := by intro _; rfl)
    (ht : ∀ env, eval (.Call (.Attribute o m apos) (e :: es) [] pos) env = (do
      let ov ← eval o env
      standAt apos.atName
      let (f, first) ← holding [ov] (getMethod ov m (do return (← importBound o env).getD true))
      callWith pos f first (backTo pos (starEach (e :: es) env)) (backToKw pos (keywordEach [] env))) := by intro _; rfl) :
    DE G N sc k (.Call (.Attribute o m apos) (e :: es) [] pos) (dMethO c m spec ms to ta) := ⟨fun W => by
  obtain ⟨te, p1, i1⟩ := ho.ex W
  obtain ⟨tf, p2, i2⟩ := ha.ex W
  exact ⟨_, fun X S => d.pe S hk (p1 X S) (p2 X S) he hpl (ht _), im_methO i1 i2 d.len⟩⟩
theorem de_methX0 {c m : Str} {to : DT} (ms : List Nat) (d : MDef G kf c m n spec) (ho : DE G N sc k o to) (hk : kf ≤ k := by decide)
    (ht : ∀ env, eval (.Call (.Attribute o m apos) [] [] pos) env = (do
      let ov ← eval o env
      standAt apos.atName
      let (f, first) ← holding [ov] (getMethod ov m (do return (← importBound o env).getD true))
      callWith pos f first (backTo pos (starEach [] env)) (backToKw pos (keywordEach [] env))) := by intro _; rfl) :
    DE G N sc k (.Call (.Attribute o m apos) [] [] pos) (dMethO c m spec ms to dNil) := ⟨fun W => by
  obtain ⟨te, p1, i1⟩ := ho.ex W
  exact ⟨_, fun X S => d.pe0 S hk (p1 X S) (ht _), im_methO i1 im_nil d.len⟩⟩
end
end HD
namespace HD
open PySem PySem.Spec PyProof.Rows L2
def oexB (K : PySem.W.Frag) (C : Addr) : Bool := match K.lookup C with
  | some ⟨.type "type", _, .cls cd, sl⟩ => (match cd.mro, sl.toList with
    | .ref D :: bm, [_, _, _, _, some (.builtin n), _] => D == C && (n == "ValueError.__new__" && (!cd.hasDel && (cd.hasDict && PySem.HandSPX.refsVE bm)))
    | _, _ => false)
  | _ => false
theorem oexB_ok {K : PySem.W.Frag} {C : Addr} (h : oexB K C = true) : ∃ nm q N bs bm sn sub ab col dd k0 k1 k2 k3 k5, K.lookup C = some (excClassObj nm q C N bs bm true sn sub ab col dd k0 k1 k2 k3 k5 "ValueError.__new__") ∧ PySem.HandSPX.refsVE bm = true := by
  unfold oexB at h
  split at h
  · rename_i dd cd sl ho
    split at h
    · rename_i D bm k0 k1 k2 k3 n k5 hm hs
      simp only [Bool.and_eq_true, beq_iff_eq, Bool.not_eq_true'] at h
      obtain ⟨rfl, rfl, hdel, hdct, ht⟩ := h
      obtain ⟨nm, bs, mro, ns, qn, hd, sn, sub, ab, col, del⟩ := cd
      dsimp only at hm hdel hdct
      subst hm hdel hdct
      obtain ⟨l⟩ := sl
      simp only at hs
      subst hs
      exact ⟨nm, qn, ns, bs, bm, sn, sub, ab, col, dd, k0, k1, k2, k3, k5, ho, ht⟩
    · cases h
  · cases h
def ntB (K : PySem.W.Frag) : Bool :=
  oexB K (He.ga K "NoText") && (decide (PySem.W.findIn K (clsV K "NoText") "__setattr__" = some (some (.builtin "object.__setattr__"))) && (decide (PySem.W.subIn K (clsV K "NoText") (.type "BaseException") = some true) && (decide (PySem.W.typeIn K (clsV K "NoText") = some (.type "type")) &&
    (PySem.W.keepIn K (clsV K "NoText") && (decide (PySem.W.findIn K (clsV K "NoText") "at" = some none) && (decide (PySem.W.specialIn K (clsV K "SumError") "__getattribute__" = some (some (.builtin "type.__getattribute__"))) &&
      (PySem.W.readsIn K (He.ga K "SumError") (.type "type") && ((match PySem.W.findCls K (clsV K "SumError") (.type "type") "__init__" with | some (.val v) => v == .builtin "ValueError.__init__" | _ => false) && xfB K (He.ga K "NoText")))))))))
structure NtC (K : PySem.W.Frag) : Prop where
  ox : OexC K (He.ga K "NoText")
  at_ : PySem.W.findIn K (clsV K "NoText") "at" = some none
  sg : PySem.W.specialIn K (clsV K "SumError") "__getattribute__" = some (some (.builtin "type.__getattribute__"))
  sr : PySem.W.readsIn K (He.ga K "SumError") (.type "type") = true
  si : PySem.W.findCls K (clsV K "SumError") (.type "type") "__init__" = some (.val (.builtin "ValueError.__init__"))
  xf : XfC K (He.ga K "NoText")
theorem ntB_ok {K : PySem.W.Frag} (h : ntB K = true) : NtC K := by
  unfold ntB at h
  simp only [Bool.and_eq_true, decide_eq_true_eq] at h
  obtain ⟨h1, h2, h3, h4, h5, h6, h7, h8, h9, h10⟩ := h
  refine ⟨⟨oexB_ok h1, h2, h3, h4, h5⟩, h6, h7, h8, ?_, xfB_ok h10⟩
  split at h9
  · rename_i v hv
    rw [hv, beq_iff_eq.1 h9]
  · cases h9
def ntDB (K : PySem.W.Frag) : Bool := ntB K && (decide (PySem.W.findIn K (clsV K "NoText") "__init__" = some (some (.ref (He.fAd K ("NoText", some "__init__"))))) && decide (PySem.W.typeIn K (.ref (He.fAd K ("NoText", some "__init__"))) = some (.type "function")))
theorem ntDB_ok {K : PySem.W.Frag} (h : ntDB K = true) : NtC K ∧ PySem.W.findIn K (clsV K "NoText") "__init__" = some (some (.ref (He.fAd K ("NoText", some "__init__")))) ∧ PySem.W.typeIn K (.ref (He.fAd K ("NoText", some "__init__"))) = some (.type "function") := by
  unfold ntDB at h
  simp only [Bool.and_eq_true, decide_eq_true_eq] at h
  exact ⟨ntB_ok h.1, h.2.1, h.2.2⟩
section
variable {X : Cx} {e : Expr} {es : List Expr} {ta : TA} {p p1 p2 pos : Pos} {x : Str} {S : Addr}
theorem pe_suinit {pl : Sem Bool} (hg : Gl X x) (hm : X.mg x = some (.ref S)) (h1 : PySem.W.specialIn X.K (.ref S) "__getattribute__" = some (some (.builtin "type.__getattribute__"))) (h2 : PySem.W.readsIn X.K S (.type "type") = true)
    (h3 : PySem.W.findCls X.K (.ref S) (.type "type") "__init__" = some (.val (.builtin "ValueError.__init__"))) (ha : PA X (e :: es) ta) (hdb : (x == ("__debug__" : Str)) = false)
    (hc : eval (.Call (.Attribute (.Name x p1) "__init__" p2) (e :: es) [] pos) X.env = (do
      let ov ← eval (.Name x p1) X.env
      standAt p2.atName
      let (f, first) ← holding [ov] (getMethod ov "__init__" pl)
      callWith pos f first (backTo pos (starEach (e :: es) X.env)) (backToKw pos (keywordEach [] X.env))))
    (he : starEach (e :: es) X.env = (false, eval e X.env) :: starEach es X.env) (hpl : (backTo pos (starEach es X.env)).any (·.1) = false) :
    PE X (.Call (.Attribute (.Name x p1) "__init__" p2) (e :: es) [] pos) (tVeI X.K ta) := by
  refine ⟨fun pins s σ H Q I h => ?_⟩
  refine PySem.W.methodCall_KW (ld_glob I hg hm ?_ hdb) hc
  refine PySem.W.method_cls I.kIn h1 (PySem.W.cls_value I.kIn h2 h3 rfl ?_)
  show wpAny _ _ (callWith pos (Value.builtin "ValueError.__init__") [] (backTo pos (starEach (e :: es) X.env)) []) _ _ _
  refine PyProof.Rows.callWith_method1 (thn (ha.run pos pins _ σ H _ (I.tok _) h) fun us s1 ⟨vs, H1, I1, r1, a, C, ws, ev, hl, T, ea, q⟩ => ?_) he hpl
  subst ev
  cases r1 with
  | @cons _ u0 _ ur ra rw' =>
    obtain rfl : u0 = Value.ref a := ra
    have hlen : ur.length ≤ sizeLine := by
      rw [← Paired.length rw', sizeLine_eq]
      omega
    exact oinit_ok T I1 ea hlen fun s' J => ⟨.non, H1, J, rfl, q⟩
end
def ntInit (K : PySem.W.Frag) : Sp := fun vs H Q _ => ∃ (a : Addr) (y : V), vs = [.ref a, y] ∧ H a = some (exo a (He.ga K "NoText") none) ∧ ∀ dx, H dx = none → dx ≠ a → Q .non (upd (upd H dx (exd dx [(("at" : Str), y)])) a (exo a (He.ga K "NoText") (some dx)))
theorem nt_fn {G : GG} {q m : Str} {st : Stmt} {f : Addr} {fd : FuncData} {k j : Nat} {p1 p2 p3 p4 p5 p6 p7 p8 p9 p10 : Pos} (T : NtC G.K) (F : FnM G.K "__init__" q st f fd) (S : FnScope ["self", "at"] ["self", "at"] (defScope st)) (hmg : G.mg "SumError" = some (clsV G.K "SumError"))
    (hb : defBody st = [.Expr (.Call (.Attribute (.Name "SumError" p1) "__init__" p2) [.Name "self" p3, .Constant (.str m) j p4] [] p5) p6, .Assign [.Attribute (.Name "self" p7) "at" p8] (.Name "at" p9) p10])
    (hc : ∀ env : Env, eval (.Call (.Attribute (.Name "SumError" p1) "__init__" p2) [.Name "self" p3, .Constant (.str m) j p4] [] p5) env = (do
      let ov ← eval (.Name "SumError" p1) env
      standAt p2.atName
      let (f, first) ← holding [ov] (getMethod ov "__init__" (do return (← importBound (.Name "SumError" p1) env).getD true))
      callWith p5 f first (backTo p5 (starEach [.Name "self" p3, .Constant (.str m) j p4] env)) (backToKw p5 (keywordEach [] env))))
    (hgl : GlS (fnS (defScope st)) "SumError") (hv0 : Vis (defScope st) "self") (hv1 : Vis (defScope st) "at") : FnG G.P G.w G.K G.mg G.base (L2.CX G.P G.w) (k + 1) f fd ["self", "at"] (ntInit G.K) := by
  refine fnG_of (He5.fun_of F) S (fun vs H Q E h => ?_) fun cd A out t H vs Q E gd hr hsp => ?_
  · obtain ⟨a, y, rfl, _⟩ := h
    rfl
  obtain ⟨a, y, rfl, ha, hq⟩ := hsp
  have SX : Sit G ["self", "at"] (fnS (defScope st)) (fun cls d _ H => E cls d H) k (cxOf (L2.CX G.P G.w) G.P G.w G.K G.mg G.base ["self", "at"] q (defScope st) f cd A out t H E) :=
    ⟨rfl, rfl, rfl, rfl, rfl, rfl, S.nd, rfl, rfl, hr, takes_of rfl rfl rfl rfl, fun _ _ => rfl, passes_of rfl, fun _ => ⟨rfl, rfl⟩, gd⟩
  refine ⟨tSeq (tDrop (tVeI G.K (tCons (tVar 0) (tCons (tC (.str m)) tNil)))) (tOst G.K "at" (tVar 0) (tVar 1)), ?_, ?_⟩
  · rw [hb]
    refine pss_cons (ps_expr (pe_suinit (pl := (do return (← importBound (.Name "SumError" p1) (cxOf (L2.CX G.P G.w) G.P G.w G.K G.mg G.base ["self", "at"] q (defScope st) f cd A out t H E).env).getD true)) (X := cxOf (L2.CX G.P G.w) G.P G.w G.K G.mg G.base ["self", "at"] q (defScope st) f cd A out t H E) (S := He.ga G.K "SumError") (SX.gl hgl) hmg T.sg T.sr T.si (pa_cons (pe_var rfl hv0) (pa_cons pe_str pa_nil)) (by decide) (hc _) rfl rfl)) (pss_one (ps_ost (pe_var rfl hv0) (pe_var rfl hv1)))
  · refine ⟨.ref a, rfl, a, He.ga G.K "NoText", [.str m], rfl, by show 1 ≤ 1000; omega, T.ox, ha, ?_⟩
    exact ⟨y, rfl, .ref a, rfl, a, He.ga G.K "NoText", rfl, T.ox, T.at_, .inl ⟨ha, fun dx h1 h2 => hq dx h1 h2⟩⟩
section
variable {X : Cx} {e : Expr} {es : List Expr} {ta : TA} {p pos : Pos}
theorem pmk_oexG {CX : CXT} {x : Str} {C fI : Addr} {k : Nat} {fd : FuncData} {ps : List Str} {sp : Sp} (T : OexC X.K C) (iC : PySem.W.findIn X.K (.ref C) "__init__" = some (some (.ref fI))) (tI : PySem.W.typeIn X.K (.ref fI) = some (.type "function"))
    (F : FnG X.prog X.w X.K X.mg X.base CX k fI fd ps sp) (gd : X.A.guards = some []) (hr : Room (k + 1) X.A) (hb : Binds X.K fd ps []) (hx : Passes CX X (fun _ _ _ => False)) (hg : Gl X x) (hm : X.mg x = some (.ref C)) (ha : PA X (e :: es) ta)
    (hdb : (x == ("__debug__" : Str)) = false) (he : starEach (e :: es) X.env = (false, eval e X.env) :: starEach es X.env) (hpl : (backTo pos (starEach es X.env)).any (·.1) = false) :
    PMk X (.Call (.Name x p) (e :: es) [] pos) (tMkO C sp [] ta) := by
  intro pins s σ H Q I h
  obtain ⟨nm, q, N, bs, bm, sn, sub, ab, col, dd, k0, k1, k2, k3, k5, hC, hbm⟩ := T.cls
  refine wpAny_Call_Name_kw (ld_glob I hg hm ?_ hdb)
  refine PySem.W.callWith_K (h₀ := X.base) I.ok.mod.kin T.kC (thn (ha.run pos pins s σ H _ I h) fun us s1 ⟨vs, H1, I1, r1, hz, q1⟩ => ⟨I1.kIn, ?_⟩) he hpl
  show wpAny _ _ (call (.ref C) us) _ _ _
  obtain ⟨hp, g, dr, tk, os⟩ := s1
  rw [List.append_nil] at q1
  have hsz : hp.objs.size ≤ hp.objs.size + 1 := Nat.le_succ _
  have hq := q1 (hp.objs.size + 1) (I1.hok.fresh hsz)
  have hget : ((hp.push (PySem.W.kdv_tup us)).push (PySem.HandSPX.excO C hp.objs.size)).get? (hp.objs.size + 1) = some (PySem.HandSPX.excO C hp.objs.size) := by heap_get
  have kk : ∀ b o, hp.get? b = some o → ((hp.push (PySem.W.kdv_tup us)).push (PySem.HandSPX.excO C hp.objs.size)).get? b = some o := fun b o e => Heap.get?_push_of_some _ (Heap.get?_push_of_some _ e)
  have I2 : L2.Inv X pins σ (upd H1 (hp.objs.size + 1) (exo (hp.objs.size + 1) C none)) ⟨(hp.push (PySem.W.kdv_tup us)).push (PySem.HandSPX.excO C hp.objs.size), g, dr, tk, os⟩ := I1.laid (t' := tk) (a := hp.objs.size + 1) kk hsz (exo_ok hget)
  have r2 : Vals (V.ref (hp.objs.size + 1) :: vs) (Value.ref (hp.objs.size + 1) :: us) := .cons rfl r1
  have hl : (Value.ref (hp.objs.size + 1) :: us).length = ps.length := by
    have e := r2.length
    rw [F.fit _ _ _ _ hq] at e
    exact e.symm
  have hus : us.length ≤ sizeLine := by
    rw [← Paired.length r1, sizeLine_eq]
    omega
  have b := hb ⟨(hp.push (PySem.W.kdv_tup us)).push (PySem.HandSPX.excO C hp.objs.size), g, dr, tk, os⟩ (Value.ref (hp.objs.size + 1) :: us) I2.kIn (by rw [List.append_nil]; exact hl)
  rw [List.append_nil] at b
  refine wpAny_call (PySem.HandSPX.call_own PySem.F.excBase_ValueError (fun Y => PySem.HandSPX.refsVE_contains Y bm hbm) (I1.kIn _ _ hC) (PySem.W.looks_findIn I1.kIn iC) (fun self => PySem.W.bind_fn I1.kIn self tI) hus
    (codeAny_mono (F.go _ X.stack _ _ ⟨Value.ref (hp.objs.size + 1) :: us, []⟩ (Value.ref (hp.objs.size + 1) :: us) _ _ (fun _ _ _ => False) (by exact gd) (hr.make C us []) (I2.env0.make C us []) b r2 hq) fun r s' hq' => ?_))
  cases r with
  | error er => exact hx pins σ _ _ er s' I2 hq'
  | ok fl =>
    cases fl with
    | ret u =>
      obtain ⟨v, H2, os2, bare2, un2, hok2, rv, ev, d, fs, ea, ed, hd1, q2⟩ := hq'
      subst ev
      obtain ⟨h2, g2, d2, t2, os'⟩ := s'
      exact ⟨rv, mk_end (raises_own T.exC T.tyC) I1 hsz kk un2 hok2 os2 bare2 ea ed hd1 q2⟩
    | next => exact False.elim hq'
    | brk => exact False.elim hq'
    | cont => exact False.elim hq'
end
structure NtDef (G : GG) (kf : Nat) : Prop where
  nt : NtC G.K
  mg : G.mg "NoText" = some (clsV G.K "NoText")
  ex : ∃ (f : Addr) (fd : FuncData), FnG G.P G.w G.K G.mg G.base (L2.CX G.P G.w) kf f fd ["self", "at"] (ntInit G.K) ∧ PySem.W.findIn G.K (clsV G.K "NoText") "__init__" = some (some (.ref f)) ∧ PySem.W.typeIn G.K (.ref f) = some (.type "function") ∧ Binds G.K fd ["self", "at"] []
def sRaiseT (t : DT) : DTS := fun Ex _ env => t Ex env fun x env1 => match x with
  | .ext (.int i) => ∃ n : Nat, i = (n : Int) ∧ Ex (ntS n) env1
  | _ => False
section
variable {G : GG} {N : List Str} {sc : SC} {k kf : Nat} {e : Expr} {t : DT} {p pos pos' : Pos}
theorem ds_raiseT (d : NtDef G kf) (h : DE G N sc k e t) (hk : kf + 1 ≤ k := by decide) (hg : GlS sc "NoText" := by rfl) (he : ∀ env, starEach [e] env = [(false, eval e env)] := by intro _; rfl) :
    DS G N sc k (.Raise (some (.Call (.Name "NoText" p) [e] [] pos)) none pos') (sRaiseT t) := ⟨fun W => by
  obtain ⟨te, p1, i1⟩ := h.ex W
  obtain ⟨f, fd, h1, h2, h3, h4⟩ := d.ex
  refine ⟨fun _ σ H => tMkO (He.ga G.K "NoText") (ntInit G.K) [] (tCons te tNil) σ H (fun cls dd H' => W cls dd σ H'), fun X S => ?_, fun e Ex hl env F σ H E Dn hh ht ok => ?_⟩
  · rw [← S.prog, ← S.w, ← S.K, ← S.mg, ← S.base] at h1
    have hm := d.mg
    have ho := d.nt.ox
    rw [← S.mg, ← S.K] at hm
    rw [← S.K] at h2 h3 h4 ho ⊢
    exact ps_raise S.calm S.tk (pmk_oexG ho h2 h3 h1 S.gd (S.room.mono hk) h4 (L2.passes_call S.tk fun _ _ _ _ z => z.elim) (S.gl hg) hm (pa_cons (p1 X S) pa_nil (he _)) (by decide) (he _) rfl)
  · refine i1 e Ex hl env [] F σ H _ _ hh ht fun v H1 F1 env1 x hh1 q1 => ?_
    match x, q1, hh1 with
    | .ext (.int i), q1, hh1 =>
      obtain ⟨n, rfl, q1⟩ := q1
      have ev : v = .int (n : Int) := hh1.temps (v, .ext (.int (n : Int))) List.mem_cons_self
      subst ev
      refine ⟨by show 1 ≤ 1000; omega, fun a na => ?_⟩
      refine ⟨a, .int (n : Int), rfl, upd_same, fun dx h5 h6 => ?_⟩
      have hdx : H1 dx = none := by rwa [upd_ne h6] at h5
      refine ⟨rfl, dx, [(("at" : Str), V.int (n : Int))], upd_same, ?_, hdx, ?_⟩
      · rw [upd_ne h6, upd_same]
      have eH : upd (del (upd (upd (upd H1 a (exo a (He.ga G.K "NoText") none)) dx (exd dx [(("at" : Str), V.int (n : Int))])) a (exo a (He.ga G.K "NoText") (some dx))) a) dx (.xd [(("at" : Str), V.int (n : Int))]) = upd H1 dx (.xd [(("at" : Str), V.int (n : Int))]) := by
        funext b
        by_cases e1 : b = dx
        · rw [e1, upd_same, upd_same]
        · rw [upd_ne e1, upd_ne e1]
          by_cases e2 : b = a
          · rw [e2, del_same, na]
          · rw [del_ne e2, upd_ne e2, upd_ne e1, upd_ne e2]
      rw [eH]
      have g := Grow.frozen (o := .xd [(("at" : Str), V.int (n : Int))]) hh1.fh hdx
      have z := hl (ntS n) (some dx) env1 _ σ _ (hh1.pop.grow g) (.inr ⟨n, dx, _, rfl, rfl, upd_same, by rfl⟩) q1
      rw [xk_nt] at z
      exact z⟩
end
def tXfF (C : Addr) (f : Str) (te : TE) : TE := fun σ H Q => te σ H fun x H1 => ∃ (a : Addr) (oe : Obj) (dd : Addr) (fs : List (Str × V)) (v : V), x = .ref a ∧ H1 a = some (.frz oe (.own a)) ∧ oe.cls = .ref C ∧ oe.dict = some dd ∧ (∃ vs, oe.data = .fields vs) ∧ H1 dd = some (.xd fs) ∧ fs.lookup f = some v ∧ Q v H1
theorem pe_xfF {X : Cx} {C : Addr} {e : Expr} {te : TE} {pos : Pos} {n : Str} (T : XfC X.K C) (hno : PySem.W.findIn X.K (.ref C) n = some none) (he : PE X e te) (hb : attributeBase e n X.env (eval e X.env) = eval e X.env) : PE X (.Attribute e n pos) (tXfF C n te) := by
  refine ⟨fun pins s σ H Q I h => ?_⟩
  refine attr_of hb (thn (he.run pins s σ H _ I h) fun u s1 hh => ?_)
  obtain ⟨x, H1, I1, rx, a, oe, dd, fs, v, ex, hH, hc, hd, ⟨vs, hf⟩, ea, l, q⟩ := hh
  subst ex
  obtain rfl : u = Value.ref a := rx
  have ha := (I1.hok a _ hH).1
  have hx : ObjOk X.prog X.w H1 s1.heap dd (.xd fs) := I1.hok dd _ ea
  obtain ⟨mA, hns, hr⟩ := hx
  obtain ⟨od, ho, hl⟩ := lookIn_ns hns
  obtain ⟨u, hu, ru⟩ := RelO.some_of (v := v) (o := mA n) (by rw [← l]; exact hr n)
  have J : PySem.W.InstAt s1.heap a oe C (some od) := ⟨ha, hc, by unfold PySem.W.notCls; rw [hf] <;> rfl, by rw [hd]; exact ho⟩
  exact HandSPX.exc_get I1.kIn J T.ga T.gg T.exC (PySem.W.findObj_own T.hdC hno rfl (by rw [hl, hu])) (handed_of ru) ⟨v, H1, I1.tok _, ru, q⟩
def dExcAt (t : DT) : DT := fun Ex env Q => t Ex env fun x env1 => match x with
  | .ext (.exc c) => ∃ n : Nat, c = ntS n ∧ Q (.ext (.int (n : Int))) env1
  | _ => False
section
variable {G : GG} {N : List Str} {sc : SC} {k : Nat} {e : Expr} {t : DT} {pos : Pos}
theorem de_excAt (T : NtC G.K) (h : DE G N sc k e t) (hb : ∀ env, attributeBase e "at" env (eval e env) = eval e env := by intro _; rfl) : DE G N sc k (.Attribute e "at" pos) (dExcAt t) := ⟨fun W => by
  obtain ⟨te, p1, i1⟩ := h.ex W
  refine ⟨tXfF (He.ga G.K "NoText") "at" te, fun X S => ?_, fun e Ex hl env T2 F σ H Q R hh ht hR => ?_⟩
  · have h1 := T.xf
    have h2 := T.at_
    rw [← S.K] at h1 h2 ⊢
    exact pe_xfF h1 h2 (p1 X S) (hb _)
  · refine i1 e Ex hl env T2 F σ H _ _ hh ht fun v H1 F1 env1 x hh1 q1 => ?_
    match x, q1, hh1 with
    | .ext (.exc c), q1, hh1 =>
      obtain ⟨n, rfl, q⟩ := q1
      have r : Rep G.K F1 (.exc (ntS n)) v := hh1.temps (v, .ext (.exc (ntS n))) List.mem_cons_self
      obtain ⟨a, oe, rfl, r1, r2, r3, r4⟩ := r
      rcases r3 with ⟨z, _⟩ | ⟨n2, dd, fs, z1, z2, z3, z4⟩
      · rw [isNt_nt] at z
        cases z
      · have en : n2 = n := ntS_inj z1.symm
        subst en
        rw [xk_nt] at r2
        exact ⟨a, oe, dd, fs, .int (n2 : Int), rfl, hh1.fh _ _ r1, r2, z2, r4, hh1.fh _ _ z3, z4, hR _ _ _ _ _ (hh1.pop.pushE (d := .int (n2 : Int)) rfl) q⟩⟩
end
end HD
namespace HD
open PySem PySem.W L2 PySem.Calls PyProof.Rows HandSHeadRun
def asC (g : Addr → Option Obj) (n : Nat) : List Addr := PySem.cStatics :: He.asD g n
def hookC (n : Nat) (fa : List He.Fa) (fn : List He.DefD) (ex : PySem.W.Frag → Bool) : PySem.W.Hook where
  α := He.AlD × Bool
  obs := fun s => (He.obsD fa fn (He.frG s.heap.get? (asC s.heap.get? n)), ex (He.frG s.heap.get? (asC s.heap.get? n)))
  val := fun _ => (He.valD fn, true)
  says := fun _ h => ∃ K : PySem.W.Frag, K.In h ∧ He.SaysD fa fn K ∧ ex K = true
  of := fun _ _ e => ⟨_, He.frG_in, congrArg (fun z : He.AlD × Bool => z.1) e, congrArg (fun z : He.AlD × Bool => z.2) e⟩
  keeps := fun _ _ _ ⟨K, hK, c⟩ k => ⟨K, PySem.W.Frag.In.keeps hK k, c⟩
def obsC (n : Nat) (fa : List He.Fa) (fn : List He.DefD) (ex : PySem.W.Frag → Bool) (g : Addr → Option Obj) : He.AlD × Bool := (He.obsD fa fn (He.frG g (asC g n)), ex (He.frG g (asC g n)))
theorem obsC_eq {n : Nat} {fa : List He.Fa} {fn : List He.DefD} {ex : PySem.W.Frag → Bool} {g : Addr → Option Obj} {s : Shared} (h : ∀ a, g a = s.heap.get? a) : obsC n fa fn ex g = (hookC n fa fn ex).obs s := by
  have e : g = s.heap.get? := funext h
  rw [e] <;> rfl
theorem obsC_app {n : Nat} {fa1 fa2 : List He.Fa} {fn1 fn2 : List He.DefD} {ex : PySem.W.Frag → Bool} {g : Addr → Option Obj} (h1 : obsC n fa1 fn1 (fun _ => true) g = (He.valD fn1, true)) (h2 : obsC n fa2 fn2 ex g = (He.valD fn2, true)) : obsC n (fa1 ++ fa2) (fn1 ++ fn2) ex g = (He.valD (fn1 ++ fn2), true) := by
  have a1 : He.obsD fa1 fn1 (He.frG g (asC g n)) = He.valD fn1 := congrArg (fun z : He.AlD × Bool => z.1) h1
  have a2 : He.obsD fa2 fn2 (He.frG g (asC g n)) = He.valD fn2 := congrArg (fun z : He.AlD × Bool => z.1) h2
  have a3 : ex (He.frG g (asC g n)) = true := congrArg (fun z : He.AlD × Bool => z.2) h2
  unfold He.obsD He.valD at a1 a2
  unfold obsC He.obsD He.valD
  rw [a3]
  generalize He.frG g (asC g n) = K at a1 a2
  have b1 := congrArg (fun z : He.AlD => z.1) a1
  have b2 := congrArg (fun z : He.AlD => z.1) a2
  have c1 := congrArg (fun z : He.AlD => z.2) a1
  have c2 := congrArg (fun z : He.AlD => z.2) a2
  dsimp only at b1 b2 c1 c2
  rw [Bool.and_eq_true] at b1 b2
  rw [List.all_append, List.all_append, List.map_append, List.map_append, b1.1, b1.2, b2.1, b2.2, c1, c2]
  rfl
theorem run_partsC {r : OpenRow} {q : Program} {n M : Nat} {fa1 fa2 : List He.Fa} {fn1 fn2 : List He.DefD} {ex : PySem.W.Frag → Bool} {loose : List PySem.Str} {w : World}
    (h0 : ∀ os : OsState, (endF (stepQ (denQ tabQ) r.prog w) M r.prog w os).map (fun s => (looksF r.prog (boot_heap w.params) s.abs, seenQ q loose (importedModules r.prog.main.body) (fun s => xlAt q [] s && recOk r.toRowW.records s) s.abs)) = some (true, openGood q loose))
    (h1 : ∀ os : OsState, (endF (stepQ (denQ tabQ) r.prog w) M r.prog w os).map (fun s => obsC n fa1 fn1 (fun _ => true) (getT s)) = some (He.valD fn1, true))
    (h2 : ∀ os : OsState, (endF (stepQ (denQ tabQ) r.prog w) M r.prog w os).map (fun s => obsC n fa2 fn2 ex (getT s)) = some (He.valD fn2, true)) :
    RunEq r q (hookC n (fa1 ++ fa2) (fn1 ++ fn2) ex) (fun s => obsC n (fa1 ++ fa2) (fn1 ++ fn2) ex (getT s)) M loose w := by
  intro os
  have h0 := h0 os
  have h1 := h1 os
  have h2 := h2 os
  generalize endF (stepQ (denQ tabQ) r.prog w) M r.prog w os = X at h0 h1 h2 ⊢
  cases X with
  | none => cases h0
  | some s =>
    have h0 := Option.some.inj h0
    have h1 := Option.some.inj h1
    have h2 := Option.some.inj h2
    have e := obsC_app h1 h2
    have e1 := congrArg (fun z => z.1) h0
    have e2 := congrArg (fun z => z.2) h0
    dsimp only at e1 e2
    show some _ = some _
    dsimp only
    rw [e1, e2, e]
    rfl
end HD
namespace LS.WD.RF.K56.E
open PySem L2 HD
def topS (i : Nat) : Stmt := PySem.Challenge.pw_sumorder_k56_texts_refused.main.body.getD i (.Pass ⟨0, 0, 0, 0⟩)
abbrev s_product : Stmt := topS 1
abbrev s_number_of : Stmt := topS 26
abbrev s_Words_init : Stmt := inClass (topS 27) 0
abbrev s_Words_left : Stmt := inClass (topS 27) 2
abbrev s_Words_close : Stmt := inClass (topS 27) 4
abbrev s_law_jar : Stmt := topS 30
abbrev s_law_prime : Stmt := topS 31
abbrev s_law_times : Stmt := topS 34
abbrev s_law_class : Stmt := topS 44
abbrev s_law_figures : Stmt := topS 46
abbrev s_law_text : Stmt := topS 50
abbrev s_Words_due : Stmt := inClass (topS 27) 1
abbrev s_Words_take_size : Stmt := inClass (topS 27) 6
abbrev s_law_dip : Stmt := topS 32
abbrev s_law_step : Stmt := topS 47
abbrev s_Words_is_done : Stmt := inClass (topS 27) 3
abbrev s_Words_take_name : Stmt := inClass (topS 27) 7
abbrev s_Words_take_worth : Stmt := inClass (topS 27) 8
abbrev s_law_number : Stmt := topS 37
abbrev s_law_sizes : Stmt := topS 38
abbrev s_law_some : Stmt := topS 39
abbrev s_law_due : Stmt := topS 48
abbrev s_law_bent_words : Stmt := topS 51
abbrev s_Words_take_stroke : Stmt := inClass (topS 27) 5
abbrev s_law_part : Stmt := topS 40
abbrev s_law_bent : Stmt := topS 52
abbrev s_law_ends : Stmt := topS 53
abbrev s_Words_take : Stmt := inClass (topS 27) 9
abbrev s_law_sheet : Stmt := topS 41
abbrev s_read_sheet : Stmt := topS 28
abbrev s_law_same : Stmt := topS 42
abbrev s_law_told : Stmt := topS 49
abbrev s_law : Stmt := topS 54
def y_product : He.DefD := ⟨("product", none), "product", "product", defArgs s_product, defBody s_product, defScope s_product, [], []⟩
def y_number_of : He.DefD := ⟨("number_of", none), "number_of", "number_of", defArgs s_number_of, defBody s_number_of, defScope s_number_of, [], []⟩
def y_Words_init : He.DefD := ⟨("Words", some "__init__"), "__init__", "Words.__init__", defArgs s_Words_init, defBody s_Words_init, defScope s_Words_init, [], []⟩
def y_Words_left : He.DefD := ⟨("Words", some "left"), "left", "Words.left", defArgs s_Words_left, defBody s_Words_left, defScope s_Words_left, [], []⟩
def y_Words_close : He.DefD := ⟨("Words", some "close"), "close", "Words.close", defArgs s_Words_close, defBody s_Words_close, defScope s_Words_close, [], []⟩
def y_law_jar : He.DefD := ⟨("_law_jar", none), "_law_jar", "_law_jar", defArgs s_law_jar, defBody s_law_jar, defScope s_law_jar, [], []⟩
def y_law_prime : He.DefD := ⟨("_law_prime", none), "_law_prime", "_law_prime", defArgs s_law_prime, defBody s_law_prime, defScope s_law_prime, [], []⟩
def y_law_times : He.DefD := ⟨("_law_times", none), "_law_times", "_law_times", defArgs s_law_times, defBody s_law_times, defScope s_law_times, [], []⟩
def y_law_class : He.DefD := ⟨("_law_class", none), "_law_class", "_law_class", defArgs s_law_class, defBody s_law_class, defScope s_law_class, [], []⟩
def y_law_figures : He.DefD := ⟨("_law_figures", none), "_law_figures", "_law_figures", defArgs s_law_figures, defBody s_law_figures, defScope s_law_figures, [], []⟩
def y_law_text : He.DefD := ⟨("_law_text", none), "_law_text", "_law_text", defArgs s_law_text, defBody s_law_text, defScope s_law_text, [], []⟩
def y_Words_due : He.DefD := ⟨("Words", some "due"), "due", "Words.due", defArgs s_Words_due, defBody s_Words_due, defScope s_Words_due, [], []⟩
def y_Words_take_size : He.DefD := ⟨("Words", some "take_size"), "take_size", "Words.take_size", defArgs s_Words_take_size, defBody s_Words_take_size, defScope s_Words_take_size, [], []⟩
def y_law_dip : He.DefD := ⟨("_law_dip", none), "_law_dip", "_law_dip", defArgs s_law_dip, defBody s_law_dip, defScope s_law_dip, [], []⟩
def y_law_step : He.DefD := ⟨("_law_step", none), "_law_step", "_law_step", defArgs s_law_step, defBody s_law_step, defScope s_law_step, [], []⟩
def y_Words_is_done : He.DefD := ⟨("Words", some "is_done"), "is_done", "Words.is_done", defArgs s_Words_is_done, defBody s_Words_is_done, defScope s_Words_is_done, [], []⟩
def y_Words_take_name : He.DefD := ⟨("Words", some "take_name"), "take_name", "Words.take_name", defArgs s_Words_take_name, defBody s_Words_take_name, defScope s_Words_take_name, [], []⟩
def y_Words_take_worth : He.DefD := ⟨("Words", some "take_worth"), "take_worth", "Words.take_worth", defArgs s_Words_take_worth, defBody s_Words_take_worth, defScope s_Words_take_worth, [], []⟩
def y_law_number : He.DefD := ⟨("_law_number", none), "_law_number", "_law_number", defArgs s_law_number, defBody s_law_number, defScope s_law_number, [], []⟩
def y_law_sizes : He.DefD := ⟨("_law_sizes", none), "_law_sizes", "_law_sizes", defArgs s_law_sizes, defBody s_law_sizes, defScope s_law_sizes, [], []⟩
def y_law_some : He.DefD := ⟨("_law_some", none), "_law_some", "_law_some", defArgs s_law_some, defBody s_law_some, defScope s_law_some, [], []⟩
def y_law_due : He.DefD := ⟨("_law_due", none), "_law_due", "_law_due", defArgs s_law_due, defBody s_law_due, defScope s_law_due, [], []⟩
def y_law_bent_words : He.DefD := ⟨("_law_bent_words", none), "_law_bent_words", "_law_bent_words", defArgs s_law_bent_words, defBody s_law_bent_words, defScope s_law_bent_words, [], []⟩
def y_Words_take_stroke : He.DefD := ⟨("Words", some "take_stroke"), "take_stroke", "Words.take_stroke", defArgs s_Words_take_stroke, defBody s_Words_take_stroke, defScope s_Words_take_stroke, [], []⟩
def y_law_part : He.DefD := ⟨("_law_part", none), "_law_part", "_law_part", defArgs s_law_part, defBody s_law_part, defScope s_law_part, [], []⟩
def y_law_bent : He.DefD := ⟨("_law_bent", none), "_law_bent", "_law_bent", defArgs s_law_bent, defBody s_law_bent, defScope s_law_bent, [], []⟩
def y_law_ends : He.DefD := ⟨("_law_ends", none), "_law_ends", "_law_ends", defArgs s_law_ends, defBody s_law_ends, defScope s_law_ends, [], []⟩
def y_Words_take : He.DefD := ⟨("Words", some "take"), "take", "Words.take", defArgs s_Words_take, defBody s_Words_take, defScope s_Words_take, [], []⟩
def y_law_sheet : He.DefD := ⟨("_law_sheet", none), "_law_sheet", "_law_sheet", defArgs s_law_sheet, defBody s_law_sheet, defScope s_law_sheet, [], []⟩
def y_read_sheet : He.DefD := ⟨("read_sheet", none), "read_sheet", "read_sheet", defArgs s_read_sheet, defBody s_read_sheet, defScope s_read_sheet, [], []⟩
def y_law_same : He.DefD := ⟨("_law_same", none), "_law_same", "_law_same", defArgs s_law_same, defBody s_law_same, defScope s_law_same, [], []⟩
def y_law_told : He.DefD := ⟨("_law_told", none), "_law_told", "_law_told", defArgs s_law_told, defBody s_law_told, defScope s_law_told, [], []⟩
def y_law : He.DefD := ⟨("law", none), "law", "law", defArgs s_law, defBody s_law, defScope s_law, [], []⟩
abbrev s_NoText_init : Stmt := inClass (topS 17) 0
def y_NoText_init : He.DefD := ⟨("NoText", some "__init__"), "__init__", "NoText.__init__", defArgs s_NoText_init, defBody s_NoText_init, defScope s_NoText_init, [], []⟩
def fn0 : List He.DefD := [y_product, y_number_of, y_Words_init, y_Words_left, y_Words_close, y_law_jar, y_law_prime, y_law_times, y_law_class]
def fn1 : List He.DefD := [y_law_figures, y_law_text, y_Words_due, y_Words_take_size, y_law_dip, y_law_step, y_Words_is_done, y_Words_take_name, y_Words_take_worth]
def fn2 : List He.DefD := [y_law_number, y_law_sizes, y_law_some, y_law_due, y_law_bent_words, y_Words_take_stroke, y_law_part, y_law_bent, y_law_ends]
def fn3 : List He.DefD := [y_Words_take, y_law_sheet, y_read_sheet, y_law_same, y_law_told, y_law, y_NoText_init]
def fnA : List He.DefD := fn0 ++ fn1
def fnB : List He.DefD := fn2 ++ fn3
def fn : List He.DefD := fnA ++ fnB
def fa0 : List He.Fa := [.glo "product", .glo "number_of", .mkr "Words", .meth "Words" "left", .meth "Words" "close", .glo "_law_jar", .glo "_law_prime", .glo "_law_times", .glo "_law_class", .glo "_law_figures", .glo "_law_text", .meth "Words" "due", .meth "Words" "take_size", .glo "_law_dip", .glo "_law_step", .meth "Words" "is_done", .meth "Words" "take_name", .meth "Words" "take_worth", .glo "_law_number", .glo "_law_sizes", .glo "_law_some"]
def fa1 : List He.Fa := [.glo "_law_due", .glo "_law_bent_words", .meth "Words" "take_stroke", .glo "_law_part", .glo "_law_bent", .glo "_law_ends", .meth "Words" "take", .glo "_law_sheet", .glo "read_sheet", .glo "_law_same", .glo "_law_told", .glo "law", .free "len", .free "range", .free "sorted", .free "set", .free "tuple", .free "list", .free "dict", .free "zip", .free "enumerate"]
def fa2 : List He.Fa := [.free "all", .free "any", .free "sum", .free "min", .free "max", .free "isinstance", .free "str", .free "int", .free "repr", .free "bool", .glo "Words", .cls "Words", .noat "Words" "names", .noat "Words" "parts", .noat "Words" "place", .noat "Words" "sizes", .noat "Words" "worths", .glo "NoBack", .glo "NoBag", .glo "NoDeeds", .glo "NoFilling"]
def fa3 : List He.Fa := [.glo "NoName", .glo "NoNumber", .glo "NoOffers", .glo "NoPart", .glo "NoRow", .glo "NoText", .glo "NoTree", .glo "NoWeights", .glo "NoWorths", .glo "SumError", .glo "TooMany", .free "ValueError", .int "MOST_FILLINGS" 4000, .int "MOST_NAMES" 12, .int "MOST_PARTS" 24, .int "MOST_SIZE" 4, .int "MOST_WORTH" 1000000000000, .int "MOST_WORTHS" 2000, .str "FIGURES" "0123456789"]
def faA : List He.Fa := fa0 ++ fa1
def faB : List He.Fa := fa2 ++ fa3
def fa : List He.Fa := faA ++ faB
def nm0 : List PySem.Str := ["product", "SumError", "NoFilling", "NoName", "TooMany", "NoDeeds", "NoOffers", "NoTree", "NoBag", "NoPart", "NoWorths", "NoBack", "NoWeights", "NoNumber", "NoRow", "NoText", "MOST_NAMES", "MOST_SIZE", "MOST_FILLINGS", "MOST_PARTS", "MOST_WORTH", "MOST_WORTHS", "FIGURES", "number_of", "Words", "read_sheet", "_law_jar", "_law_prime", "_law_dip", "_law_fillings"]
def nm1 : List PySem.Str := ["_law_times", "_law_look", "_law_word", "_law_number", "_law_sizes", "_law_some", "_law_part", "_law_sheet", "_law_same", "_law_call", "_law_class", "_law_refused", "_law_figures", "_law_step", "_law_due", "_law_told", "_law_text", "_law_bent_words", "_law_bent", "_law_ends"]
def nm : List PySem.Str := nm0 ++ nm1
abbrev R : PySem.W.OpenRow := PySem.W.OpenLaw.row PySem.Challenge.rw_sumorder_k56_texts_refused
def ex : PySem.W.Frag → Bool := fun K => xsB ["NoText"] K && ntDB K
abbrev hk : PySem.W.Hook := hookC 4 fa fn ex
def ob (s : PySem.W.SharedT) : He.AlD × Bool := obsC 4 fa fn ex (HandSHeadRun.getT s)
theorem obE (s : PySem.W.SharedT) : ob s = hk.obs s.abs := obsC_eq (HandSHeadRun.getT_eq s)
section
open PySem PySem.W PySem.Calls PyProof.Rows HandSHeadRun
theorem top0 (w : World) : ∀ os : PySem.OsState, (HandSHeadRun.endF (HandSHeadRun.stepQ (HandSHeadRun.denQ HandSHeadRun.tabQ) R.prog w) 8000 R.prog w os).map (fun s => (looksF R.prog (boot_heap w.params) s.abs, seenQ (view R.prog [54]) nm (importedModules R.prog.main.body) (fun s => xlAt (view R.prog [54]) [] s && recOk R.toRowW.records s) s.abs)) = some (true, openGood (view R.prog [54]) nm) := by
  intro os; kernel_rfl
theorem top1 (w : World) : ∀ os : PySem.OsState, (HandSHeadRun.endF (HandSHeadRun.stepQ (HandSHeadRun.denQ HandSHeadRun.tabQ) R.prog w) 8000 R.prog w os).map (fun s => obsC 4 faA fnA (fun _ => true) (HandSHeadRun.getT s)) = some (He.valD fnA, true) := by
  intro os; kernel_rfl
theorem top2 (w : World) : ∀ os : PySem.OsState, (HandSHeadRun.endF (HandSHeadRun.stepQ (HandSHeadRun.denQ HandSHeadRun.tabQ) R.prog w) 8000 R.prog w os).map (fun s => obsC 4 faB fnB ex (HandSHeadRun.getT s)) = some (He.valD fnB, true) := by
  intro os; kernel_rfl
end
theorem topRun (w : World) : HandSHeadRun.RunEq R (PySem.W.view R.prog [54]) hk ob 8000 nm w := run_partsC (top0 w) (top1 w) (top2 w)
section
open PySem PySem.W PySem.Calls PyProof.Rows HandSHeadRun
theorem hold2 (call : WalkO (view (OpenLaw.row PySem.Challenge.rw_sumorder_k56_texts_refused).prog [54]) nm (XL (view (OpenLaw.row PySem.Challenge.rw_sumorder_k56_texts_refused).prog [54]) []) hk.says (OpenLaw.row PySem.Challenge.rw_sumorder_k56_texts_refused).toRowW (HandSHeadRun.topDef (OpenLaw.row PySem.Challenge.rw_sumorder_k56_texts_refused).prog 54) [] fun f vs => PySem.call f vs) : PySem.Challenge.rw_sumorder_k56_texts_refused.Holds := by
  w_on
  refine LS.WD.RF.S56.hold_of fun said => ?_
  refine HandSHeadRun.head_any (r := (OpenLaw.row PySem.Challenge.rw_sumorder_k56_texts_refused)) (q := view (OpenLaw.row PySem.Challenge.rw_sumorder_k56_texts_refused).prog [54]) (H := hk) (ob := ob) (M := 8000) (loose := nm) (d := HandSHeadRun.topDef (OpenLaw.row PySem.Challenge.rw_sumorder_k56_texts_refused).prog 54) (kwd := []) obE
    (by kernel_rfl) (fun s => by kernel_rfl) topRun (by kernel_rfl) (by kernel_rfl) (by kernel_rfl) (by rfl) (by first | assumption | decide +kernel) (by decide +kernel) ⟨rfl, rfl, rfl, rfl, rfl, by decide +kernel⟩ ?hw call
  case hw => w_witness2
theorem nameE : (HandSHeadRun.topDef (OpenLaw.row PySem.Challenge.rw_sumorder_k56_texts_refused).prog 54).name = ("law" : PySem.Str) := by kernel_rfl
end
section
open PySem PySem.W PySem.Calls PyProof.Rows HandSHeadRun L2 HD
theorem hold3 (F : ∀ (w : World) (mg : Str → Option Value) (f : Addr) (h : Heap), hk.says w h → h.Ns mainGlobals mg → mg ("law" : PySem.Str) = some (.ref f) →
      ∃ (K : PySem.W.Frag) (fd : FuncData) (sp : Sp), K.In h ∧ (∀ (s : Shared) (v : Value), BindsTo s fd ⟨[v], []⟩ [(("script" : PySem.Str), v)]) ∧
        (∀ (H : Hp) (a : Addr) (ns : List Int), ns.length ≤ 63 → SqL K H a (ns.map V.int) → sp [.ref a] H (fun v _ => v = .bl true) fun _ _ _ => False) ∧
        ∀ base : Heap, K.In base → base.Ns mainGlobals mg → FnG PySem.Challenge.rw_sumorder_k56_texts_refused.prog w K mg base (L2.CX PySem.Challenge.pw_sumorder_k56_texts_refused w) 8 f fd [("script" : PySem.Str)] sp) :
    PySem.Challenge.rw_sumorder_k56_texts_refused.Holds := by
  refine hold2 ?_
  refine HD.walkW (l := PySem.Challenge.rw_sumorder_k56_texts_refused) (n := 63) (k := 8) (x := "script") (CX := fun w => L2.CX PySem.Challenge.pw_sumorder_k56_texts_refused w) rfl (by decide) (by kernel_rfl) ⟨rfl, by decide, by decide⟩ ?F (fun w H s e s' z => HD.cx_no H s e s' z)
  intro w mg f h Y N hm
  exact F w mg f h Y N (by rw [← nameE]; exact hm)
end
end LS.WD.RF.K56.E
namespace PM
def sz (S : List Nat) (n : Nat) : Nat := S.getD n 0
def prodN : List Nat → Nat
  | [] => 1
  | x :: xs => x * prodN xs
def psz (S : List Nat) (ns : List Nat) : Nat := prodN (ns.map (sz S))
def fills (S : List Nat) : List Nat → List (List Nat)
  | [] => [[]]
  | n :: ns => (List.range (sz S n)).flatMap fun w => (fills S ns).map (w :: ·)
def pl (S : List Nat) : Nat → List Nat → List Nat → Nat
  | acc, n :: ns, w :: ws => pl S (acc * sz S n + w) ns ws
  | acc, _, _ => acc
def ats (ns f : List Nat) : Nat → Nat := fun n => f.getD (ns.idxOf n) 0
structure Part where
  ns : List Nat
  ws : List Int
def Rising (l : List Nat) : Prop := l.Pairwise (· < ·)
theorem rising_ext {a b : List Nat} (ha : Rising a) (hb : Rising b) (h : ∀ n, n ∈ a ↔ n ∈ b) : a = b := by
  induction a generalizing b with
  | nil =>
    cases b with
    | nil => rfl
    | cons y b => exact absurd ((h y).2 List.mem_cons_self) (by simp)
  | cons x a ih =>
    cases b with
    | nil => exact absurd ((h x).1 List.mem_cons_self) (by simp)
    | cons y b =>
      have ha' := List.pairwise_cons.1 ha
      have hb' := List.pairwise_cons.1 hb
      have e : x = y := by
        rcases List.mem_cons.1 ((h x).1 List.mem_cons_self) with e | e
        · exact e
        · rcases List.mem_cons.1 ((h y).2 List.mem_cons_self) with e' | e'
          · exact e'.symm
          · have h1 := hb'.1 x e
            have h2 := ha'.1 y e'
            omega
      subst e
      rw [ih ha'.2 hb'.2 fun n => ?_]
      constructor
      · intro hn
        rcases List.mem_cons.1 ((h n).1 (List.mem_cons_of_mem _ hn)) with e | e
        · have := ha'.1 n hn; omega
        · exact e
      · intro hn
        rcases List.mem_cons.1 ((h n).2 (List.mem_cons_of_mem _ hn)) with e | e
        · have := hb'.1 n hn; omega
        · exact e
structure Part.Ok (S : List Nat) (p : Part) : Prop where
  rise : Rising p.ns
  lt : ∀ n ∈ p.ns, n < S.length
  len : p.ws.length = psz S p.ns
def val (S : List Nat) (p : Part) (g : Nat → Nat) : Int := p.ws.getD (pl S 0 p.ns (p.ns.map g)) 0
def mkP (S : List Nat) (ns : List Nat) (F : (Nat → Nat) → Int) : Part := ⟨ns, (fills S ns).map fun f => F (ats ns f)⟩
def joinP (S : List Nat) (jn : Int → Int → Int) (U : List Nat) (p q : Part) : Part := mkP S U fun g => jn (val S p g) (val S q g)
end PM
namespace LS
open PySem L2 HD PM
local macro_rules | `(tactic| trivial) => `(tactic| try simp -dsimp only [↓sSeq, ↓sIf, ↓sRet, ↓retD_ext, ↓retD_lst, ↓retD_al, ↓sSet, ↓sSetE, ↓sAsg, ↓sDrop, ↓sNext, ↓sFor, ↓sRetN, ↓sCont, ↓sBreak, ↓dTest, ↓dOp, ↓dVar_w, ↓dC, ↓dCons, ↓dNil, ↓dTup, ↓dLst, ↓frzDs, ↓frzD_ext, ↓frzD_lst, ↓frzD_al, ↓wd_ext, ↓wd_lst, ↓wd_al, ↓wds, ↓AtS_ext, ↓AtS_lst, ↓AtL, ↓fAdd, ↓fSub, ↓fMul, ↓fDiv, ↓fMod, ↓fPow, ↓fCmp, ↓fIn, ↓fEq_ii, ↓fEq_ss, ↓fEq_bb, ↓fEq_tt, ↓fEq_ll, ↓fNe_ii, ↓fNe_ss, ↓fNe_bb, ↓fNe_tt, ↓fNe_ll, ↓fIx_l, ↓fIx_t, ↓fIx_k, ↓fIx_f, ↓GetS_some, ↓NatS_some, ↓fSl, ↓fIsN, ↓fNotN, ↓D.knN, ↓dNot, ↓dAnd, ↓dOr, ↓dAndV_w, ↓dOrV_w, ↓dNotV, ↓dIf, ↓dNeg, ↓dChain_w, ↓BlS_bl, ↓dCall_w, ↓dCallJ_w, ↓anyAl, ↓frozs, ↓froz, ↓gSet, ↓gTupD, ↓gsCons, ↓gsNil, ↓dSeq, ↓seqD_tup, ↓seqD_elst, ↓seqD_lst, ↓seqD_al, ↓dRange1, ↓dRange2, ↓dZip, ↓dCB, ↓dLc, ↓dYes, ↓dNoPart, ↓dPart, ↓dSl, ↓fLen, ↓fMin, ↓fMax, ↓fSum, ↓fAll, ↓fAny, ↓fSorted, ↓fTuple, ↓fList, ↓dRg1, ↓dRg2, ↓dLstRg, ↓dTupRg, ↓dIndex, ↓fIdx, ↓dAppend_w, ↓dExtend_w, ↓extD_lst, ↓dPopAt_w, ↓popD_int, ↓dPop_w, ↓mutD_w, ↓sSetItem_w, ↓setD_int, ↓dSortSet, ↓dTable_w, ↓wipeE, finals1, finals2, finals3, finals4, finals5, finals6, fin1_ext, fin1_lst, List.getElem?_cons_zero, List.getElem?_cons_succ, List.getElem?_nil, List.set_cons_zero, List.set_cons_succ, List.cons_append, List.nil_append, List.append_nil, List.replicate_succ, List.replicate_zero, List.map_cons, List.map_nil, List.length_cons, List.length_nil, true_and, and_true, ite_true, ite_false, if_true, if_false, Bool.false_eq_true, decide_eq_true_eq, Sl.plain, D.isSq, eq_self_iff_true, forall_const, reduceIte, true_or, or_true, atI_0, atI_1, atI_2, atI_3, ixN_0, ixN_1, ixN_2, AtS_ext, AtS_lst, FzS_lst, FzS_ext, GetS_some, NatS_some, ↓fIsi1, ↓fIsi2, BoolS_some, HD.kb_non_tuple, HD.kb_non_list, HD.kb_non_bool, HD.kb_non_int, HD.kb_non_str, HD.kb_bl_tuple, HD.kb_bl_list, HD.kb_bl_bool, HD.kb_bl_int, HD.kb_bl_str, HD.kb_int_tuple, HD.kb_int_list, HD.kb_int_bool, HD.kb_int_int, HD.kb_int_str, HD.kb_str_tuple, HD.kb_str_list, HD.kb_str_bool, HD.kb_str_int, HD.kb_str_str, HD.kb_lst_tuple, HD.kb_lst_list, HD.kb_lst_bool, HD.kb_lst_int, HD.kb_lst_str, HD.kb_tup_tuple, HD.kb_tup_list, HD.kb_tup_bool, HD.kb_tup_int, HD.kb_tup_str, ↓sFz_w, ↓FzS_lst, ↓FzS_ext, ↓dSortSetL, ↓fAbs, ↓fInt, ↓fRepr, ↓fLtT, ↓sRaise, ↓sTryKeep, ↓dCallV_w, ↓dMeth, ↓fCount, ↓fSplit])
inductive Wd where
  | sum | most | least | wide | any
  deriving DecidableEq
def Wd.s : Wd → Str
  | .sum => Str.ofString "sum"
  | .most => Str.ofString "most"
  | .least => Str.ofString "least"
  | .wide => Str.ofString "wide"
  | .any => Str.ofString "any"
def jn : Wd → Int → Int → Int
  | .sum, a, b => a * b
  | .most, a, b => a + b
  | .least, a, b => a + b
  | .wide, a, b => if b < a then b else a
  | .any, a, b => if b < a then b else a
theorem w_any (w : Wd) : (w.s == Str.ofString "any") = decide (w = .any) := by cases w <;> decide +kernel
abbrev dW (w : Wd) : Sl := .ext (.str w.s)
abbrev dI (i : Int) : Sl := .ext (.int i)
def JarOk (n : Nat) (ds : List D) : Prop := ∃ (cells : List Int) (at' left : Int), ds = [.lst (iD cells), .int at', .int left] ∧ 0 ≤ at' ∧ at' ≤ n
theorem JarOk.up {n m : Nat} {ds : List D} (h : JarOk n ds) (hm : n ≤ m) : JarOk m ds := by
  obtain ⟨c, a, l, e, h1, h2⟩ := h
  exact ⟨c, a, l, e, h1, by omega⟩
theorem cut_iD (ns : List Int) (lo hi : Option Int) : cutD (iD ns) lo hi = iD ((ns.drop (HT.sIx ns.length 0 lo)).take (HT.sIx ns.length ns.length hi - HT.sIx ns.length 0 lo)) := by
  simp [cutD, List.map_take, List.map_drop]
def sp_law_jar : DSpec := fun args Q _ => ∃ ns : List Int, args = [.ext (.fz (iD ns))] ∧ ns.length ≤ 63 ∧ ∀ a ds fin, JarOk 0 ds → Q (.lst a ds) fin
def t_law_jar : DTS :=
    (sRet (dLst (dCons (dCB fList (dCons (dSl (dVar 0) dNoPart (dPart (dC (.int 63)))) dNil)) (dCons (dC (.int 0)) (dCons (dC (.int 0)) dNil)))))
theorem m_law_jar : Meets t_law_jar 1 0 sp_law_jar := by
  rintro args Qd Xd ⟨ns, rfl, hl, hQ⟩
  show t_law_jar _ _ [_]
  unfold t_law_jar
  trivial
  rw [cut_iD]
  exact ⟨by decide, fun a => hQ _ _ _ ⟨_, 0, 0, rfl, by omega, by omega⟩⟩
def sp_law_prime : DSpec := fun args Q _ => ∃ i : Int, args = [dI i] ∧ 0 ≤ i ∧ ∀ (r : Int) fin, 2147483423 ≤ r → r ≤ 2147483647 → Q (dI r) fin
def t_law_prime : DTS :=
    (sSeq (sSetE 1 (dLst (dCons (dC (.int 2147483647)) (dCons (dC (.int 2147483629)) (dCons (dC (.int 2147483587)) (dCons (dC (.int 2147483579)) (dCons (dC (.int 2147483563)) (dCons (dC (.int 2147483549)) (dCons (dC (.int 2147483543)) (dCons (dC (.int 2147483497)) dNil))))))))))
    (sRet (dOp fIx (dOp fAdd (dVar 1) (dLst (dCons (dC (.int 2147483489)) (dCons (dC (.int 2147483477)) (dCons (dC (.int 2147483423)) dNil))))) (dOp fMod (dVar 0) (dC (.int 11))))))
theorem m_law_prime : Meets t_law_prime 1 1 sp_law_prime := by
  rintro args Qd Xd ⟨i, rfl, hi, hQ⟩
  show t_law_prime _ _ [_, _]
  unfold t_law_prime
  trivial
  refine ⟨by decide, by decide, by decide, by decide, ?_⟩
  have h : i % 11 = 0 ∨ i % 11 = 1 ∨ i % 11 = 2 ∨ i % 11 = 3 ∨ i % 11 = 4 ∨ i % 11 = 5 ∨ i % 11 = 6 ∨ i % 11 = 7 ∨ i % 11 = 8 ∨ i % 11 = 9 ∨ i % 11 = 10 := by omega
  rcases h with h | h | h | h | h | h | h | h | h | h | h <;> rw [h] <;> exact ⟨_, rfl, hQ _ _ (by decide) (by decide)⟩
def sp_law_dip : DSpec := fun args Q _ => ∃ (n : Nat) (a : Addr) (ds : List D) (m : Int), args = [.lst a ds, dI m] ∧ JarOk n ds ∧ n < 4294967296 ∧ 0 < m ∧ m < 18446744073709551616 ∧
  ∀ (r : Int) ds' fin, 0 ≤ r → r < m → JarOk (n + 1) ds' → Q (dI r) (.lst a ds' :: fin)
def i1_law_dip : DTS :=
    (sSeq (sSetE 4 (dOp fMod (dOp fPow (dOp fAdd (dOp fAdd (dOp fMul (dOp fMod (dVar 3) (dC (.int 1000000007))) (dOp fAdd (dVar 2) (dC (.int 1)))) (dOp fMul (dC (.int 104729)) (dVar 2))) (dC (.int 17))) (dC (.int 3))) (dCall sp_law_prime (dCons (dVar 2) dNil))))
    (sSeq (sSetE 5 (dOp fMod (dOp fPow (dOp fAdd (dOp fAdd (dOp fMul (dVar 4) (dOp fAdd (dVar 2) (dC (.int 5)))) (dOp fMod (dVar 3) (dC (.int 65537)))) (dC (.int 1))) (dC (.int 5))) (dCall sp_law_prime (dCons (dOp fAdd (dVar 2) (dC (.int 3))) dNil))))
    (sSeq (sSetE 6 (dOp fMod (dOp fAdd (dOp fMul (dVar 5) (dVar 5)) (dVar 4)) (dCall sp_law_prime (dCons (dOp fAdd (dVar 2) (dC (.int 7))) dNil))))
    (sSetItem 0 (dC (.int 2)) (dOp fAdd (dOp fMul (dOp fAdd (dOp fMul (dVar 6) (dC (.int 2147483647))) (dVar 5)) (dC (.int 2147483629))) (dVar 4))))))
def k2_law_dip : DTS :=
    (sSeq (sSetItem 0 (dC (.int 2)) (dVar 3))
    (sIf (dOr (dTest (dOp (fCmp fun i j => decide (i < j)) (dVar 3) (dOp fPow (dC (.int 10)) (dC (.int 18))))) (dTest (dOp (fCmp fun i j => decide (j ≤ i)) (dVar 2) (dCB fLen (dCons (dOp fIx (dVar 0) (dC (.int 0))) dNil))))) i1_law_dip sNext))
def i3_law_dip : DTS :=
    (sSeq (sSetE 2 (dOp fIx (dVar 0) (dC (.int 1))))
    (sSeq (sSetItem 0 (dC (.int 1)) (dOp fAdd (dVar 2) (dC (.int 1))))
    (sSeq (sSetE 3 (dOp fAdd (dOp fMul (dC (.int 31)) (dVar 2)) (dC (.int 7))))
    (sSeq (sIf (dTest (dOp (fCmp fun i j => decide (j < i)) (dCB fLen (dCons (dOp fIx (dVar 0) (dC (.int 0))) dNil)) (dC (.int 0)))) (sSetE 3 (dOp fIx (dOp fIx (dVar 0) (dC (.int 0))) (dOp fMod (dVar 2) (dCB fLen (dCons (dOp fIx (dVar 0) (dC (.int 0))) dNil))))) sNext)
    k2_law_dip))))
def k4_law_dip : DTS :=
    (sSeq (sSetE 7 (dOp fMod (dOp fIx (dVar 0) (dC (.int 2))) (dVar 1)))
    (sSeq (sSetItem 0 (dC (.int 2)) (dOp fDiv (dOp fIx (dVar 0) (dC (.int 2))) (dVar 1)))
    (sRet (dVar 7))))
def t_law_dip : DTS :=
    (sSeq (sIf (dTest (dOp (fCmp fun i j => decide (i < j)) (dOp fIx (dVar 0) (dC (.int 2))) (dVar 1))) i3_law_dip sNext)
    k4_law_dip)
theorem q4_law_dip {Ex : DX} {E : DEnds} {n : Nat} {a : Addr} {m : Int} {cells : List Int} {at' left : Int} {s2 s3 s4 s5 s6 s7 : Sl} (h0 : 0 ≤ at') (h1 : at' ≤ (n : Int) + 1) (hm0 : 0 < m) (hm1 : m < 18446744073709551616)
    (hE : ∀ r ds' env, 0 ≤ r → r < m → JarOk (n + 1) ds' → E.rt (dI r) (.lst a ds' :: env)) : k4_law_dip Ex E [.lst a [.lst (iD cells), .int at', .int left], dI m, s2, s3, s4, s5, s6, s7] := by
  unfold k4_law_dip
  trivial
  refine ⟨hm0, ⟨hm0, ?_⟩, hE _ _ _ (Int.emod_nonneg _ (by omega)) (Int.emod_lt_of_pos _ hm0) ⟨cells, at', _, rfl, h0, by omega⟩⟩
  have : m.natAbs.log2 < 64 := (Nat.log2_lt (by omega)).2 (by omega)
  omega
theorem q3_law_dip {Ex : DX} {E : DEnds} {a : Addr} {m : Int} {cells : List Int} {at' left c : Int} {s4 s5 s6 s7 : Sl} (h0 : 0 ≤ at') (h1 : at' < 4294967296)
    (hE : ∀ left' u4 u5 u6, E.nx [.lst a [.lst (iD cells), .int (at' + 1), .int left'], dI m, dI at', dI c, u4, u5, u6, s7]) : i1_law_dip Ex E [.lst a [.lst (iD cells), .int (at' + 1), .int left], dI m, dI at', dI c, s4, s5, s6, s7] := by
  unfold i1_law_dip
  trivial
  have b0 := Int.emod_nonneg c (b := 1000000007) (by omega)
  have b1 := Int.emod_lt_of_pos c (b := 1000000007) (by omega)
  have b2 := Int.emod_nonneg c (b := 65537) (by omega)
  have b3 := Int.emod_lt_of_pos c (b := 65537) (by omega)
  generalize c % 1000000007 = c1 at *
  have g0 : 0 ≤ c1 * (at' + 1) := Int.mul_nonneg b0 (by omega)
  have g1 : c1 * (at' + 1) ≤ 1000000007 * 4294967296 := Int.mul_le_mul (by omega) (by omega) (by omega) (by omega)
  refine ⟨by decide, cmul64 (by omega) (by omega) (by omega) (by omega), cmul64 (by omega) (by omega) (by omega) (by omega), ⟨by decide, by decide, by omega⟩, at', rfl, h0, fun p fin p0 p1 => ?_⟩
  trivial
  have o0 := Int.emod_nonneg ((c1 * (at' + 1) + 104729 * at' + 17) ^ Int.toNat 3) (b := p) (by omega)
  have o1 := Int.emod_lt_of_pos ((c1 * (at' + 1) + 104729 * at' + 17) ^ Int.toNat 3) (b := p) (by omega)
  generalize (c1 * (at' + 1) + 104729 * at' + 17) ^ Int.toNat 3 % p = one at *
  generalize c % 65537 = c2 at *
  have g2 : 0 ≤ one * (at' + 5) := Int.mul_nonneg o0 (by omega)
  have g3 : one * (at' + 5) ≤ 2147483647 * 4294967300 := Int.mul_le_mul (by omega) (by omega) (by omega) (by omega)
  refine ⟨by omega, cmul64 (by omega) (by omega) (by omega) (by omega), by decide, ⟨by decide, by decide, by omega⟩, at' + 3, rfl, by omega, fun p' fin' p0' p1' => ?_⟩
  trivial
  have t0 := Int.emod_nonneg ((one * (at' + 5) + c2 + 1) ^ Int.toNat 5) (b := p') (by omega)
  have t1 := Int.emod_lt_of_pos ((one * (at' + 5) + c2 + 1) ^ Int.toNat 5) (b := p') (by omega)
  generalize (one * (at' + 5) + c2 + 1) ^ Int.toNat 5 % p' = two at *
  refine ⟨by omega, cmul64 (by omega) (by omega) (by omega) (by omega), at' + 7, rfl, by omega, fun p2 fin2 p20 p21 => ?_⟩
  trivial
  have u0 := Int.emod_nonneg (two * two + one) (b := p2) (by omega)
  have u1 := Int.emod_lt_of_pos (two * two + one) (b := p2) (by omega)
  generalize (two * two + one) % p2 = three at *
  refine ⟨by omega, cmul64 (by omega) (by omega) (by omega) (by omega), cmul64 (by omega) (by omega) (by omega) (by omega), hE _ _ _ _⟩
theorem q1_law_dip {Ex : DX} {E : DEnds} {a : Addr} {m : Int} {cells : List Int} {at' left c : Int} {s4 s5 s6 s7 : Sl} (h0 : 0 ≤ at') (h1 : at' < 4294967296)
    (hE : ∀ left' u4 u5 u6, E.nx [.lst a [.lst (iD cells), .int (at' + 1), .int left'], dI m, dI at', dI c, u4, u5, u6, s7]) : k2_law_dip Ex E [.lst a [.lst (iD cells), .int (at' + 1), .int left], dI m, dI at', dI c, s4, s5, s6, s7] := by
  unfold k2_law_dip
  trivial
  refine ⟨⟨by decide, by decide, by decide⟩, ?_⟩
  split
  · exact q3_law_dip h0 h1 hE
  · split
    · exact q3_law_dip h0 h1 hE
    · exact hE _ _ _ _
theorem m_law_dip : Meets t_law_dip 2 6 sp_law_dip := by
  rintro args Qd Xd ⟨n, a, ds, m, rfl, ⟨cells, at', left, rfl, h0, h1⟩, hn, hm0, hm1, hQ⟩
  show t_law_dip _ _ [_, _, .un, .un, .un, .un, .un, .un]
  unfold t_law_dip
  trivial
  have k2 : ∀ {at'' left'' : Int} {s2 s3 s4 s5 s6 s7 : Sl}, 0 ≤ at'' → at'' ≤ (n : Int) + 1 → k4_law_dip (exOf [Sl.lst a [D.lst (iD cells), D.int at', D.int left], dI m] Xd) (endsOf [Sl.lst a [D.lst (iD cells), D.int at', D.int left], dI m] Qd) [Sl.lst a [D.lst (iD cells), D.int at'', D.int left''], dI m, s2, s3, s4, s5, s6, s7] := by
    intro at'' left'' s2 s3 s4 s5 s6 s7 z0 z1
    refine q4_law_dip z0 z1 hm0 hm1 fun r ds' env r0 r1 hj => ?_
    trivial
    exact hQ _ _ _ r0 r1 hj
  split
  · unfold i3_law_dip
    trivial
    refine ⟨cmul64 (by omega) (by omega) (by omega) (by omega), ?_⟩
    split
    · rename_i hl
      refine ⟨hl, ?_⟩
      have z0 := Int.emod_nonneg at' (b := ((iD cells).length : Int)) (by omega)
      have z1 := Int.emod_lt_of_pos at' hl
      generalize at' % ((iD cells).length : Int) = j at z0 z1
      rw [List.length_map] at z1
      have hj : j.toNat < cells.length := by omega
      refine ⟨.int (cells[j.toNat]), atI_int z0 (by simp [List.getElem?_map, List.getElem?_eq_getElem hj]), ?_⟩
      exact q1_law_dip h0 (by omega) fun _ _ _ _ => k2 (by omega) (by omega)
    · exact q1_law_dip h0 (by omega) fun _ _ _ _ => k2 (by omega) (by omega)
  · exact k2 h0 (by omega)
end LS
namespace LS
open PySem L2 HD PM
local macro_rules | `(tactic| trivial) => `(tactic| try simp -dsimp only [↓sSeq, ↓sIf, ↓sRet, ↓retD_ext, ↓retD_lst, ↓retD_al, ↓sSet, ↓sSetE, ↓sAsg, ↓sDrop, ↓sNext, ↓sFor, ↓sRetN, ↓sCont, ↓sBreak, ↓dTest, ↓dOp, ↓dVar_w, ↓dC, ↓dCons, ↓dNil, ↓dTup, ↓dLst, ↓frzDs, ↓frzD_ext, ↓frzD_lst, ↓frzD_al, ↓wd_ext, ↓wd_lst, ↓wd_al, ↓wds, ↓AtS_ext, ↓AtS_lst, ↓AtL, ↓fAdd, ↓fSub, ↓fMul, ↓fDiv, ↓fMod, ↓fPow, ↓fCmp, ↓fIn, ↓fEq_ii, ↓fEq_ss, ↓fEq_bb, ↓fEq_tt, ↓fEq_ll, ↓fNe_ii, ↓fNe_ss, ↓fNe_bb, ↓fNe_tt, ↓fNe_ll, ↓fIx_l, ↓fIx_t, ↓fIx_k, ↓fIx_f, ↓GetS_some, ↓NatS_some, ↓fSl, ↓fIsN, ↓fNotN, ↓D.knN, ↓dNot, ↓dAnd, ↓dOr, ↓dAndV_w, ↓dOrV_w, ↓dNotV, ↓dIf, ↓dNeg, ↓dChain_w, ↓BlS_bl, ↓dCall_w, ↓dCallJ_w, ↓anyAl, ↓frozs, ↓froz, ↓gSet, ↓gTupD, ↓gsCons, ↓gsNil, ↓dSeq, ↓seqD_tup, ↓seqD_elst, ↓seqD_lst, ↓seqD_al, ↓dRange1, ↓dRange2, ↓dZip, ↓dCB, ↓dLc, ↓dYes, ↓dNoPart, ↓dPart, ↓dSl, ↓fLen, ↓fMin, ↓fMax, ↓fSum, ↓fAll, ↓fAny, ↓fSorted, ↓fTuple, ↓fList, ↓dRg1, ↓dRg2, ↓dLstRg, ↓dTupRg, ↓dIndex, ↓fIdx, ↓dAppend_w, ↓dExtend_w, ↓extD_lst, ↓dPopAt_w, ↓popD_int, ↓dPop_w, ↓mutD_w, ↓sSetItem_w, ↓setD_int, ↓dSortSet, ↓dTable_w, ↓wipeE, finals1, finals2, finals3, finals4, finals5, finals6, fin1_ext, fin1_lst, List.getElem?_cons_zero, List.getElem?_cons_succ, List.getElem?_nil, List.set_cons_zero, List.set_cons_succ, List.cons_append, List.nil_append, List.append_nil, List.replicate_succ, List.replicate_zero, List.map_cons, List.map_nil, List.length_cons, List.length_nil, true_and, and_true, ite_true, ite_false, if_true, if_false, Bool.false_eq_true, decide_eq_true_eq, Sl.plain, D.isSq, eq_self_iff_true, forall_const, reduceIte, true_or, or_true, atI_0, atI_1, atI_2, atI_3, ixN_0, ixN_1, ixN_2, AtS_ext, AtS_lst, FzS_lst, FzS_ext, GetS_some, NatS_some, ↓fIsi1, ↓fIsi2, BoolS_some, HD.kb_non_tuple, HD.kb_non_list, HD.kb_non_bool, HD.kb_non_int, HD.kb_non_str, HD.kb_bl_tuple, HD.kb_bl_list, HD.kb_bl_bool, HD.kb_bl_int, HD.kb_bl_str, HD.kb_int_tuple, HD.kb_int_list, HD.kb_int_bool, HD.kb_int_int, HD.kb_int_str, HD.kb_str_tuple, HD.kb_str_list, HD.kb_str_bool, HD.kb_str_int, HD.kb_str_str, HD.kb_lst_tuple, HD.kb_lst_list, HD.kb_lst_bool, HD.kb_lst_int, HD.kb_lst_str, HD.kb_tup_tuple, HD.kb_tup_list, HD.kb_tup_bool, HD.kb_tup_int, HD.kb_tup_str, ↓sFz_w, ↓FzS_lst, ↓FzS_ext, ↓dSortSetL, ↓fAbs, ↓fInt, ↓fRepr, ↓fLtT, ↓sRaise, ↓sTryKeep, ↓dCallV_w, ↓dMeth, ↓fCount, ↓fSplit])
def NumOk (w : Wd) (i : Int) : Prop := -1000000000000 ≤ i ∧ i ≤ 1000000000000 ∧ (w = .any → 0 ≤ i ∧ i ≤ 1)
def sp_law_number : DSpec := fun args Q _ => ∃ (n : Nat) (a : Addr) (ds : List D) (w : Wd), args = [.lst a ds, dW w] ∧ JarOk n ds ∧ n + 1 < 4294967296 ∧ ∀ (i : Int) ds' fin, NumOk w i → JarOk (n + 2) ds' → Q (dI i) (.lst a ds' :: fin)
def t_law_number : DTS :=
    (sSeq (sIf (dTest (dOp fEq (dVar 1) (dC (.str (Str.ofString "any"))))) (sRet (dCallJ sp_law_dip 0 (dCons (dC (.int 2)) dNil))) sNext)
    (sSeq (sSetE 2 (dCallJ sp_law_dip 0 (dCons (dC (.int 6)) dNil)))
    (sSeq (sIf (dTest (dOp fEq (dVar 2) (dC (.int 0)))) (sRet (dOp fIx (dLst (dCons (dOp fPow (dC (.int 10)) (dC (.int 12))) (dCons (dOp fSub (dC (.int 0)) (dOp fPow (dC (.int 10)) (dC (.int 12)))) (dCons (dOp fSub (dOp fPow (dC (.int 10)) (dC (.int 12))) (dC (.int 1))) (dCons (dC (.int 0)) dNil))))) (dCallJ sp_law_dip 0 (dCons (dC (.int 4)) dNil)))) sNext)
    (sSeq (sIf (dTest (dOp (fCmp fun i j => decide (i < j)) (dVar 2) (dC (.int 4)))) (sRet (dOp fSub (dCallJ sp_law_dip 0 (dCons (dC (.int 7)) dNil)) (dC (.int 3)))) sNext)
    (sRet (dOp fSub (dCallJ sp_law_dip 0 (dCons (dC (.int 2001)) dNil)) (dC (.int 1000))))))))
theorem m_law_number : Meets t_law_number 2 1 sp_law_number := by
  rintro args Qd Xd ⟨n, a, ds, w, rfl, hj, hn, hQ⟩
  show t_law_number _ _ [_, _, .un]
  unfold t_law_number
  trivial
  simp only [w_any, decide_eq_true_eq]
  split
  · rename_i hw
    refine ⟨n, a, ds, 2, rfl, hj, by omega, by decide, by decide, fun r ds' fin r0 r1 hj' => ?_⟩
    trivial
    exact hQ _ _ _ ⟨by omega, by omega, fun _ => by omega⟩ (hj'.up (by omega))
  · rename_i hw
    refine ⟨n, a, ds, 6, rfl, hj, by omega, by decide, by decide, fun r ds' fin r0 r1 hj' => ?_⟩
    trivial
    have c10 : CPow 10 12 := ⟨by decide, by decide, by decide⟩
    split
    · refine ⟨c10, c10, c10, by decide, fun b => ⟨n + 1, a, ds', 4, rfl, hj', by omega, by decide, by decide, fun r' ds'' fin' r0' r1' hj'' => ?_⟩⟩
      trivial
      have h : r' = 0 ∨ r' = 1 ∨ r' = 2 ∨ r' = 3 := by omega
      rcases h with rfl | rfl | rfl | rfl
      all_goals
        refine ⟨_, rfl, ?_⟩
        trivial
        exact hQ _ _ _ ⟨by decide, by decide, fun e => absurd e hw⟩ hj''
    · split
      · refine ⟨n + 1, a, ds', 7, rfl, hj', by omega, by decide, by decide, fun r' ds'' fin' r0' r1' hj'' => ?_⟩
        trivial
        exact hQ _ _ _ ⟨by omega, by omega, fun e => absurd e hw⟩ hj''
      · refine ⟨n + 1, a, ds', 2001, rfl, hj', by omega, by decide, by decide, fun r' ds'' fin' r0' r1' hj'' => ?_⟩
        trivial
        exact hQ _ _ _ ⟨by omega, by omega, fun e => absurd e hw⟩ hj''
def sp_law_times : DSpec := fun args Q _ => ∃ l : List Nat, (args = [.ext (.lst (nD l))] ∨ args = [.ext (.tup (nD l))]) ∧ (∀ x ∈ l, 0 < x) ∧ prodN l < 2 ^ 60 ∧ ∀ fin, Q (dI (prodN l : Nat)) fin
def b1_law_times : DTS :=
    (sSetE 1 (dOp fMul (dVar 1) (dVar 2)))
def k2_law_times : DTS :=
    (sRet (dVar 1))
def t_law_times : DTS :=
    (sSeq (sSetE 1 (dC (.int 1)))
    (sSeq (sFor (dSeq (dVar 0)) (gSet 2) b1_law_times)
    k2_law_times))
theorem prodN_pos {l : List Nat} (h : ∀ x ∈ l, 0 < x) : 0 < prodN l := by
  induction l with
  | nil => exact Nat.one_pos
  | cons x l ih => exact Nat.mul_pos (h x List.mem_cons_self) (ih fun y hy => h y (List.mem_cons_of_mem _ hy))
theorem q1_law_times {Ex : DX} {E : DEnds} {s0 : Sl} (l : List Nat) : ∀ (acc : Nat) (s2 : Sl), 0 < acc → (∀ x ∈ l, 0 < x) → acc * prodN l < 2 ^ 60 → (∀ u, E.nx [s0, dI (acc * prodN l : Nat), u]) →
    forD (gSet 2) b1_law_times (fun _ => True) Ex E (nD l) [s0, dI (acc : Nat), s2] := by
  induction l with
  | nil =>
    intro acc s2 _ _ _ hE
    refine ⟨True.intro, ?_⟩
    have := hE s2
    simpa [prodN] using this
  | cons x l ih =>
    intro acc s2 hz hp hb hE
    have hx := hp x List.mem_cons_self
    have hl := prodN_pos fun y hy => hp y (List.mem_cons_of_mem _ hy)
    have e : acc * prodN (x :: l) = acc * x * prodN l := by rw [prodN, Nat.mul_assoc]
    have hax : acc * x < 2 ^ 60 := Nat.lt_of_le_of_lt (Nat.le_mul_of_pos_right _ hl) (e ▸ hb)
    have ha : acc < 2 ^ 60 := Nat.lt_of_le_of_lt (Nat.le_mul_of_pos_right _ hx) hax
    have hx2 : x < 2 ^ 60 := Nat.lt_of_le_of_lt (Nat.le_mul_of_pos_left _ hz) hax
    rw [nD_cons, forD]
    unfold b1_law_times
    trivial
    refine ⟨cmulN (a := 60) (b := 60) (by simpa using ha) (by simpa using hx2) (by decide), ?_⟩
    have := ih (acc * x) (dI (x : Nat)) (Nat.mul_pos hz hx) (fun y hy => hp y (List.mem_cons_of_mem _ hy)) (e ▸ hb) (fun u => e ▸ hE u)
    rw [Int.natCast_mul] at this
    exact this
theorem m_law_times : Meets t_law_times 1 2 sp_law_times := by
  rintro args Qd Xd ⟨l, h, hp, hb, hQ⟩
  rcases h with rfl | rfl
  all_goals
    show t_law_times _ _ [_, .un, .un]
    unfold t_law_times
    trivial
    refine q1_law_times l 1 .un (by decide) hp (by rw [Nat.one_mul]; exact hb) fun u => ?_
    unfold k2_law_times
    trivial
    rw [Nat.one_mul]
    exact hQ _
structure SzOk (S : List Nat) : Prop where
  pos : ∀ s ∈ S, 0 < s
  few : S.length ≤ 24
  prod : prodN S ≤ 4096
  small : ∀ s ∈ S, s ≤ 4
abbrev dSz (S : List Nat) : Sl := .ext (.tup (nD S))
def sp_law_sizes : DSpec := fun args Q _ => ∃ (n : Nat) (a : Addr) (ds : List D) (most roof : Nat), args = [.lst a ds, dI (most : Nat), dI (roof : Nat)] ∧ JarOk n ds ∧ n + 64 < 4294967296 ∧ 0 < most ∧ most ≤ 24 ∧ 0 < roof ∧ roof ≤ 4096 ∧
  ∀ (S : List Nat) ds' fin, SzOk S → 0 < S.length → S.length ≤ most → prodN S ≤ roof → JarOk (n + 64) ds' → Q (dSz S) (.lst a ds' :: fin)
def b1_law_sizes : DTS :=
    (sSeq (sSetE 5 (dOp fIx (dLst (dCons (dC (.int 1)) (dCons (dC (.int 2)) (dCons (dC (.int 2)) (dCons (dC (.int 3)) (dCons (dC (.int 4)) dNil)))))) (dCallJ sp_law_dip 0 (dCons (dC (.int 5)) dNil))))
    (sDrop (dAppend 3 (dIf (dTest (dOp (fCmp fun i j => decide (i ≤ j)) (dOp fMul (dCall sp_law_times (dCons (dVar 3) dNil)) (dVar 5)) (dVar 2))) (dVar 5) (dC (.int 1))))))
def k2_law_sizes : DTS :=
    (sRet (dCB fTuple (dCons (dVar 3) dNil)))
def t_law_sizes : DTS :=
    (sSeq (sSet 3 (dLst dNil))
    (sSeq (sFor (dRange1 (dCons (dOp fAdd (dC (.int 1)) (dCallJ sp_law_dip 0 (dCons (dVar 1) dNil))) dNil)) (gSet 4) b1_law_sizes)
    k2_law_sizes))
theorem prodN_append (a b : List Nat) : prodN (a ++ b) = prodN a * prodN b := by
  induction a with
  | nil => simp [prodN]
  | cons x a ih => rw [List.cons_append, prodN, ih, prodN, Nat.mul_assoc]
theorem q1_law_sizes {Ex : DX} {E : DEnds} {a a2 : Addr} {s1 : Sl} {roof : Nat} (hr : 0 < roof) (hr' : roof ≤ 4096) (items : List D) : ∀ (n : Nat) (ds : List D) (S : List Nat) (s4 s5 : Sl), JarOk n ds → n + items.length < 4294967296 → (∀ s ∈ S, 0 < s ∧ s ≤ 4) → prodN S ≤ roof → S.length + items.length ≤ 24 →
    (∀ ds' S' u4 u5, JarOk (n + items.length) ds' → (∀ s ∈ S', 0 < s ∧ s ≤ 4) → prodN S' ≤ roof → S'.length = S.length + items.length → E.nx [.lst a ds', s1, dI (roof : Nat), .lst a2 (nD S'), u4, u5]) →
    forD (gSet 4) b1_law_sizes (fun _ => True) Ex E items [.lst a ds, s1, dI (roof : Nat), .lst a2 (nD S), s4, s5] := by
  induction items with
  | nil =>
    intro n ds S s4 s5 hj hn hs hp hl hE
    exact ⟨True.intro, hE _ _ _ _ hj hs hp rfl⟩
  | cons x items ih =>
    intro n ds S s4 s5 hj hn hs hp hl hE
    rw [List.length_cons] at hn hl
    rw [forD]
    unfold b1_law_sizes
    trivial
    refine ⟨by decide, fun b => ⟨n, a, ds, 5, rfl, hj, by omega, by decide, by decide, fun r ds' fin r0 r1 hj' => ?_⟩⟩
    trivial
    have fin' : ∀ s : Nat, 0 < s → s ≤ 4 → prodN S * s ≤ roof → ∀ u5, forD (gSet 4) b1_law_sizes (fun _ => True) Ex E items [.lst a ds', s1, dI (roof : Nat), .lst a2 (nD (S ++ [s])), .ext x, u5] := by
      intro s h0 h4 hps u5
      refine ih (n + 1) ds' (S ++ [s]) _ _ hj' (by omega) ?_ ?_ (by rw [List.length_append, List.length_singleton]; omega) ?_
      · intro y hy
        rcases List.mem_append.1 hy with h | h
        · exact hs y h
        · rw [List.mem_singleton.1 h]; exact ⟨h0, h4⟩
      · rw [prodN_append]; simpa [prodN] using hps
      · intro ds'' S' u4 u5' hj2 hs2 hp2 hl2
        refine hE _ _ _ _ (by rw [List.length_cons]; exact hj2.up (by omega)) hs2 hp2 ?_
        rw [hl2, List.length_append, List.length_singleton, List.length_cons]; omega
    obtain ⟨z, h0, h4, hz⟩ : ∃ z : Nat, 0 < z ∧ z ≤ 4 ∧ atI [D.int 1, D.int 2, D.int 2, D.int 3, D.int 4] r = some (D.int (z : Nat)) := by
      have h : r = 0 ∨ r = 1 ∨ r = 2 ∨ r = 3 ∨ r = 4 := by omega
      rcases h with rfl | rfl | rfl | rfl | rfl
      · exact ⟨1, by decide, by decide, rfl⟩
      · exact ⟨2, by decide, by decide, rfl⟩
      · exact ⟨2, by decide, by decide, rfl⟩
      · exact ⟨3, by decide, by decide, rfl⟩
      · exact ⟨4, by decide, by decide, rfl⟩
    refine ⟨_, hz, ?_⟩
    trivial
    refine ⟨S, .inl rfl, fun y hy => (hs y hy).1, by omega, fun fin2 => ?_⟩
    trivial
    refine ⟨.inr rfl, cmulN (a := 60) (b := 60) (by rw [Int.natAbs_natCast]; omega) (by rw [Int.natAbs_natCast]; omega) (by decide), ?_⟩
    split
    · rename_i hle
      have := fin' z h0 h4 (by exact_mod_cast hle) (dI (z : Nat))
      rw [nD_app] at this
      exact ⟨by rw [nD_len]; exact Nat.lt_of_le_of_lt (by omega : S.length ≤ 24) (by decide), this⟩
    · have := fin' 1 (by decide) (by decide) (by omega) (dI (z : Nat))
      rw [nD_app] at this
      exact ⟨by rw [nD_len]; exact Nat.lt_of_le_of_lt (by omega : S.length ≤ 24) (by decide), this⟩
theorem m_law_sizes : Meets t_law_sizes 3 3 sp_law_sizes := by
  rintro args Qd Xd ⟨n, a, ds, most, roof, rfl, hj, hn, hm0, hm1, hr0, hr1, hQ⟩
  show t_law_sizes _ _ [_, _, _, .un, .un, .un]
  unfold t_law_sizes
  trivial
  refine ⟨by decide, fun a2 => ⟨n, a, ds, most, rfl, hj, by omega, by omega, by omega, fun r ds' fin r0 r1 hj' => ?_⟩⟩
  trivial
  refine ⟨⟨by omega, by omega⟩, ?_⟩
  have hlen : (rgD 0 (1 + r)).length = 1 + r.toNat := by
    simp only [rgD, List.length_map, List.length_range]; omega
  refine q1_law_sizes (S := []) hr0 hr1 _ (n + 1) ds' _ _ hj' (by omega) (by simp) (show 1 ≤ roof from hr0) (by simp; omega) fun ds2 S2 u4 u5 hj2 hs2 hp2 hl2 => ?_
  unfold k2_law_sizes
  trivial
  have hl3 : S2.length = 1 + r.toNat := by rw [hl2, hlen]; simp
  exact hQ S2 _ _ ⟨fun s hs => (hs2 s hs).1, by omega, by omega, fun s hs => (hs2 s hs).2⟩ (by omega) (by omega) hp2 (hj2.up (by omega))
end LS
namespace LS
open PySem L2 HD PM
local macro_rules | `(tactic| trivial) => `(tactic| try simp -dsimp only [↓sSeq, ↓sIf, ↓sRet, ↓retD_ext, ↓retD_lst, ↓retD_al, ↓sSet, ↓sSetE, ↓sAsg, ↓sDrop, ↓sNext, ↓sFor, ↓sRetN, ↓sCont, ↓sBreak, ↓dTest, ↓dOp, ↓dVar_w, ↓dC, ↓dCons, ↓dNil, ↓dTup, ↓dLst, ↓frzDs, ↓frzD_ext, ↓frzD_lst, ↓frzD_al, ↓wd_ext, ↓wd_lst, ↓wd_al, ↓wds, ↓AtS_ext, ↓AtS_lst, ↓AtL, ↓fAdd, ↓fSub, ↓fMul, ↓fDiv, ↓fMod, ↓fPow, ↓fCmp, ↓fIn, ↓fEq_ii, ↓fEq_ss, ↓fEq_bb, ↓fEq_tt, ↓fEq_ll, ↓fNe_ii, ↓fNe_ss, ↓fNe_bb, ↓fNe_tt, ↓fNe_ll, ↓fIx_l, ↓fIx_t, ↓fIx_k, ↓fIx_f, ↓GetS_some, ↓NatS_some, ↓fSl, ↓fIsN, ↓fNotN, ↓D.knN, ↓dNot, ↓dAnd, ↓dOr, ↓dAndV_w, ↓dOrV_w, ↓dNotV, ↓dIf, ↓dNeg, ↓dChain_w, ↓BlS_bl, ↓dCall_w, ↓dCallJ_w, ↓anyAl, ↓frozs, ↓froz, ↓gSet, ↓gTupD, ↓gsCons, ↓gsNil, ↓dSeq, ↓seqD_tup, ↓seqD_elst, ↓seqD_lst, ↓seqD_al, ↓dRange1, ↓dRange2, ↓dZip, ↓dCB, ↓dLc, ↓dYes, ↓dNoPart, ↓dPart, ↓dSl, ↓fLen, ↓fMin, ↓fMax, ↓fSum, ↓fAll, ↓fAny, ↓fSorted, ↓fTuple, ↓fList, ↓dRg1, ↓dRg2, ↓dLstRg, ↓dTupRg, ↓dIndex, ↓fIdx, ↓dAppend_w, ↓dExtend_w, ↓extD_lst, ↓dPopAt_w, ↓popD_int, ↓dPop_w, ↓mutD_w, ↓sSetItem_w, ↓setD_int, ↓dSortSet, ↓dTable_w, ↓wipeE, finals1, finals2, finals3, finals4, finals5, finals6, fin1_ext, fin1_lst, List.getElem?_cons_zero, List.getElem?_cons_succ, List.getElem?_nil, List.set_cons_zero, List.set_cons_succ, List.cons_append, List.nil_append, List.append_nil, List.replicate_succ, List.replicate_zero, List.map_cons, List.map_nil, List.length_cons, List.length_nil, true_and, and_true, ite_true, ite_false, if_true, if_false, Bool.false_eq_true, decide_eq_true_eq, Sl.plain, D.isSq, eq_self_iff_true, forall_const, reduceIte, true_or, or_true, atI_0, atI_1, atI_2, atI_3, ixN_0, ixN_1, ixN_2, AtS_ext, AtS_lst, FzS_lst, FzS_ext, GetS_some, NatS_some, ↓fIsi1, ↓fIsi2, BoolS_some, HD.kb_non_tuple, HD.kb_non_list, HD.kb_non_bool, HD.kb_non_int, HD.kb_non_str, HD.kb_bl_tuple, HD.kb_bl_list, HD.kb_bl_bool, HD.kb_bl_int, HD.kb_bl_str, HD.kb_int_tuple, HD.kb_int_list, HD.kb_int_bool, HD.kb_int_int, HD.kb_int_str, HD.kb_str_tuple, HD.kb_str_list, HD.kb_str_bool, HD.kb_str_int, HD.kb_str_str, HD.kb_lst_tuple, HD.kb_lst_list, HD.kb_lst_bool, HD.kb_lst_int, HD.kb_lst_str, HD.kb_tup_tuple, HD.kb_tup_list, HD.kb_tup_bool, HD.kb_tup_int, HD.kb_tup_str, ↓sFz_w, ↓FzS_lst, ↓FzS_ext, ↓dSortSetL, ↓fAbs, ↓fInt, ↓fRepr, ↓fLtT, ↓sRaise, ↓sTryKeep, ↓dCallV_w, ↓dMeth, ↓fCount, ↓fSplit])
def sp_law_some : DSpec := fun args Q _ => ∃ (n : Nat) (a : Addr) (ds : List D) (many most : Nat), args = [.lst a ds, dI (many : Nat), dI (most : Nat)] ∧ JarOk n ds ∧ n + 64 < 4294967296 ∧ many ≤ 60 ∧ most ≤ 60 ∧
  ∀ (ns : List Nat) ds' fin, Rising ns → (∀ x ∈ ns, x < many) → ns.length ≤ most → JarOk (n + 64) ds' → Q (.ext (.tup (nD ns))) (.lst a ds' :: fin)
def b1_law_some : DTS :=
    (sIf (dTest (dOp (fCmp fun i j => decide (j < i)) (dCB fLen (dCons (dVar 3) dNil)) (dC (.int 0)))) (sDrop (dAppend 4 (dPopAt 3 (dCallJ sp_law_dip 0 (dCons (dCB fLen (dCons (dVar 3) dNil)) dNil))))) sNext)
def k2_law_some : DTS :=
    (sRet (dCB fTuple (dCons (dCB fSorted (dCons (dVar 4) dNil)) dNil)))
def t_law_some : DTS :=
    (sSeq (sSet 3 (dLstRg (dRg1 (dVar 1))))
    (sSeq (sSet 4 (dLst dNil))
    (sSeq (sFor (dRange1 (dCons (dCallJ sp_law_dip 0 (dCons (dOp fAdd (dVar 2) (dC (.int 1))) dNil)) dNil)) (gSet 5) b1_law_some)
    k2_law_some)))
theorem erase_perm {α : Type} (l : List α) : ∀ {i : Nat} (h : i < l.length), (l[i] :: l.eraseIdx i).Perm l := by
  induction l with
  | nil => intro i h; simp at h
  | cons x l ih =>
    intro i h
    cases i with
    | zero => exact .refl _
    | succ i =>
      have := ih (i := i) (by simpa using h)
      simp only [List.getElem_cons_succ, List.eraseIdx_cons_succ]
      exact (List.Perm.swap _ _ _).trans (List.Perm.cons x this)
theorem map_erase {α β : Type} (f : α → β) (l : List α) : ∀ i, (l.eraseIdx i).map f = (l.map f).eraseIdx i := by
  induction l with
  | nil => intro i; rfl
  | cons x l ih =>
    intro i
    cases i with
    | zero => rfl
    | succ i => simp only [List.eraseIdx_cons_succ, List.map_cons, ih]
theorem q1_law_some {Ex : DX} {E : DEnds} {a a2 a3 : Addr} {s1 s2 : Sl} {many : Nat} (items : List D) : ∀ (n : Nat) (ds : List D) (L Fd : List Nat) (s5 : Sl), JarOk n ds → n + items.length < 4294967296 → (L ++ Fd).Nodup → (∀ x ∈ L ++ Fd, x < many) → (L.length ≤ 60) → Fd.length + items.length ≤ 100 →
    (∀ ds' L' Fd' u5, JarOk (n + items.length) ds' → Fd'.Nodup → (∀ x ∈ Fd', x < many) → Fd'.length ≤ Fd.length + items.length → E.nx [.lst a ds', s1, s2, .lst a2 (nD L'), .lst a3 (nD Fd'), u5]) →
    forD (gSet 5) b1_law_some (fun _ => True) Ex E items [.lst a ds, s1, s2, .lst a2 (nD L), .lst a3 (nD Fd), s5] := by
  induction items with
  | nil =>
    intro n ds L Fd s5 hj hn hd hm hL hl hE
    exact ⟨True.intro, hE _ _ _ _ hj (List.nodup_append.1 hd).2.1 (fun x hx => hm x (List.mem_append_right _ hx)) (Nat.le_refl _)⟩
  | cons x items ih =>
    intro n ds L Fd s5 hj hn hd hm hL hl hE
    rw [List.length_cons] at hn hl
    rw [forD]
    unfold b1_law_some
    trivial
    rw [nD_len]
    split
    · rename_i h0
      have hL0 : 0 < L.length := by omega
      refine ⟨n, a, ds, (L.length : Int), rfl, hj, by omega, by omega, by omega, fun r ds' fin r0 r1 hj' => ?_⟩
      trivial
      have hr : r.toNat < L.length := by omega
      refine ⟨r0, by omega, .int (L[r.toNat] : Nat), by simp [List.getElem?_map, List.getElem?_eq_getElem hr], ?_⟩
      trivial
      refine ⟨by rw [nD_len]; exact Nat.lt_of_le_of_lt (by omega : Fd.length ≤ 100) (by decide), ?_⟩
      have pm : (L.eraseIdx r.toNat ++ (Fd ++ [L[r.toNat]])).Perm (L ++ Fd) := by
        have p1 := erase_perm L hr
        have p2 : (L.eraseIdx r.toNat ++ (Fd ++ [L[r.toNat]])).Perm (L[r.toNat] :: (L.eraseIdx r.toNat ++ Fd)) := by
          rw [← List.append_assoc]
          exact List.perm_append_singleton _ _
        exact p2.trans ((List.Perm.append_right Fd p1))
      have := ih (n + 1) ds' (L.eraseIdx r.toNat) (Fd ++ [L[r.toNat]]) (.ext x) hj' (by omega) (pm.nodup_iff.2 hd) (fun y hy => hm y (pm.mem_iff.1 hy)) (Nat.le_trans (List.length_eraseIdx_le _ _) hL)
        (by rw [List.length_append, List.length_singleton]; omega) fun ds2 L2 Fd2 u5 hj2 h2 h3 h4 => hE _ _ _ _ (by rw [List.length_cons]; exact hj2.up (by omega)) h2 h3 (by rw [List.length_append, List.length_singleton] at h4; rw [List.length_cons]; omega)
      rw [nD_app] at this
      have e : nD (L.eraseIdx r.toNat) = (nD L).eraseIdx r.toNat := map_erase _ _ _
      rw [e] at this
      exact this
    · exact ih n ds L Fd _ hj (by omega) hd hm hL (by omega) fun ds2 L2 Fd2 u5 hj2 h2 h3 h4 => hE _ _ _ _ (by rw [List.length_cons]; exact hj2.up (by omega)) h2 h3 (by rw [List.length_cons]; omega)
theorem rgD_nat (n : Nat) : rgD 0 (n : Int) = nD (List.range n) := by
  unfold rgD
  simp
theorem nat_of_ints {l : List Nat} {ns : List Int} (h : ns.Perm (l.map fun n : Nat => (n : Int))) : ∃ l' : List Nat, ns = l'.map (fun n : Nat => (n : Int)) ∧ l'.Perm l := by
  have h1 : ∀ x ∈ ns, 0 ≤ x := by
    intro x hx
    obtain ⟨y, _, rfl⟩ := List.mem_map.1 (h.mem_iff.1 hx)
    omega
  have e : ns = (ns.map Int.toNat).map fun n : Nat => (n : Int) := by
    rw [List.map_map]
    conv => lhs; rw [← List.map_id ns]
    refine List.map_congr_left fun x hx => ?_
    have := h1 x hx
    simp; omega
  refine ⟨ns.map Int.toNat, e, ?_⟩
  have := h.map Int.toNat
  rw [List.map_map] at this
  have e2 : l.map (Int.toNat ∘ fun n : Nat => (n : Int)) = l := by
    conv => rhs; rw [← List.map_id l]
    exact List.map_congr_left fun x _ => by simp
  rwa [e2] at this
theorem iD_nat (l : List Nat) : iD (l.map fun n : Nat => (n : Int)) = nD l := by simp [iD, nD]
theorem rising_of {l : List Nat} (h : (l.map fun n : Nat => (n : Int)).Pairwise (· ≤ ·)) (hn : l.Nodup) : Rising l := by
  rw [List.pairwise_map] at h
  exact (List.pairwise_and_iff.2 ⟨h, hn⟩).imp fun ⟨h1, h2⟩ => by
    have : _ ≠ _ := h2
    omega
theorem m_law_some : Meets t_law_some 3 3 sp_law_some := by
  rintro args Qd Xd ⟨n, a, ds, many, most, rfl, hj, hn, hm0, hm1, hQ⟩
  show t_law_some _ _ [_, _, _, .un, .un, .un]
  unfold t_law_some
  trivial
  refine ⟨RgOk.of_le (by omega) (by omega) (by omega) (by omega), fun a2 => ⟨by decide, fun a3 => ⟨n, a, ds, (most : Int) + 1, rfl, hj, by omega, by omega, by omega, fun r ds' fin r0 r1 hj' => ?_⟩⟩⟩
  trivial
  refine ⟨⟨by omega, by omega⟩, ?_⟩
  rw [rgD_nat]
  have hlen : (rgD 0 r).length = r.toNat := by simp [rgD]
  refine q1_law_some (many := many) _ (n + 1) ds' (List.range many) [] _ hj' (by omega) (by simpa using List.nodup_range) (by simp) (by simpa using hm0) (by simp; omega) fun ds2 L2 Fd2 u5 hj2 hd2 hm2 hl2 => ?_
  unfold k2_law_some
  trivial
  refine ⟨Fd2.map fun n : Nat => (n : Int), (iD_nat _).symm, fun ns' hp hw => ?_⟩
  obtain ⟨l, rfl, hl⟩ := nat_of_ints hp
  rw [show List.map D.int (List.map (fun n : Nat => (n : Int)) l) = nD l from iD_nat l]
  exact hQ l _ _ (rising_of hw (hl.nodup_iff.2 hd2)) (fun x hx => hm2 x (hl.mem_iff.1 hx)) (by rw [hl.length_eq]; simp at hl2; omega) (hj2.up (by omega))
abbrev dP (p : Part) : D := .tup [.tup (nD p.ns), .tup (iD p.ws)]
theorem psz_le {S ns : List Nat} (hS : ∀ s ∈ S, 0 < s) (h : Rising ns) (hl : ∀ n ∈ ns, n < S.length) : psz S ns ≤ prodN S := by
  have e : ns = (List.range S.length).filter fun n => decide (n ∈ ns) := by
    refine rising_ext h (List.Pairwise.filter _ List.pairwise_lt_range) fun n => ?_
    simp only [List.mem_filter, List.mem_range, decide_eq_true_eq]
    exact ⟨fun hn => ⟨hl n hn, hn⟩, fun hn => hn.2⟩
  have sub : ns.Sublist (List.range S.length) := by rw [e]; exact List.filter_sublist
  have e2 : (List.range S.length).map (sz S) = S := by
    refine List.ext_getElem? fun i => ?_
    rw [List.getElem?_map]
    by_cases hi : i < S.length
    · simp [List.getElem?_range hi, sz, List.getD_eq_getElem?_getD, List.getElem?_eq_getElem hi]
    · rw [List.getElem?_eq_none (by simpa using hi), List.getElem?_eq_none (by omega)]; rfl
  have sub2 : (ns.map (sz S)).Sublist S := by have := sub.map (sz S); rwa [e2] at this
  have gen : ∀ {a b : List Nat}, a.Sublist b → (∀ s ∈ b, 0 < s) → prodN a ≤ prodN b := by
    intro a b hs
    induction hs with
    | slnil => intro _; exact Nat.le_refl _
    | cons x h ih =>
      intro hb
      have h1 := ih fun s hs => hb s (List.mem_cons_of_mem _ hs)
      exact Nat.le_trans h1 (Nat.le_mul_of_pos_left _ (hb x List.mem_cons_self))
    | cons_cons x h ih =>
      intro hb
      exact Nat.mul_le_mul_left _ (ih fun s hs => hb s (List.mem_cons_of_mem _ hs))
  exact gen sub2 hS
theorem sz_mem {S : List Nat} {n : Nat} (h : n < S.length) : sz S n ∈ S := by
  unfold sz
  rw [List.getD_eq_getElem?_getD, List.getElem?_eq_getElem h]
  exact List.getElem_mem h
theorem sz_at {S : List Nat} {n : Nat} (h : n < S.length) : (nD S)[n]? = some (.int (sz S n : Nat)) := by
  unfold sz
  simp [List.getElem?_map, List.getD_eq_getElem?_getD, List.getElem?_eq_getElem h]
theorem rising_len {ns : List Nat} {m : Nat} (h : Rising ns) (hl : ∀ n ∈ ns, n < m) : ns.length ≤ m := by
  have e : ns = (List.range m).filter fun n => decide (n ∈ ns) := by
    refine rising_ext h (List.Pairwise.filter _ List.pairwise_lt_range) fun n => ?_
    simp only [List.mem_filter, List.mem_range, decide_eq_true_eq]
    exact ⟨fun hn => ⟨hl n hn, hn⟩, fun hn => hn.2⟩
  rw [e]
  have := List.length_filter_le (fun n => decide (n ∈ ns)) (List.range m)
  simpa using this
def NumsOk (w : Wd) (p : Part) : Prop := ∀ x ∈ p.ws, NumOk w x
def sp_law_part : DSpec := fun args Q _ => ∃ (n : Nat) (a : Addr) (ds : List D) (w : Wd) (S : List Nat) (most : Nat), args = [.lst a ds, dW w, dSz S, dI (most : Nat)] ∧ JarOk n ds ∧ n + 10000 < 4294967296 ∧ SzOk S ∧ most ≤ 60 ∧
  ∀ (p : Part) ds' fin, p.Ok S → NumsOk w p → p.ns.length ≤ most → JarOk (n + 10000) ds' → Q (.ext (dP p)) (.lst a ds' :: fin)
def e1_law_part : DT :=
    (dOp fIx (dVar 2) (dVar 6))
def e2_law_part : DT :=
    (dCallJ sp_law_number 0 (dCons (dVar 1) dNil))
def t_law_part : DTS :=
    (sSeq (sSetE 4 (dCallJ sp_law_some 0 (dCons (dCB fLen (dCons (dVar 2) dNil)) (dCons (dVar 3) dNil))))
    (sSeq (sSetE 5 (dCall sp_law_times (dCons (dLc (dSeq (dVar 4)) (gSet 6) dYes e1_law_part [6]) dNil)))
    (sRet (dTup (dCons (dVar 4) (dCons (dCB fTuple (dCons (dLc (dRange1 (dCons (dVar 5) dNil)) (gSet 7) dYes e2_law_part [7]) dNil)) dNil))))))
theorem q1_law_part {s0 s1 s3 s4 s5 s7 : Sl} {S : List Nat} {Q : Sl → Env' → Prop} (ns : List Nat) : ∀ (acc : List Nat), (∀ n ∈ ns, n < S.length) → acc.length + ns.length ≤ 100 → (∀ b, Q (.lst b (nD (acc ++ ns.map (sz S)))) [s0, s1, dSz S, s3, s4, s5, .un, s7]) →
    lcD (gSet 6) dYes e1_law_part [6] (fun _ => True) Q (nD ns) (nD acc) [s0, s1, dSz S, s3, s4, s5, .un, s7] := by
  induction ns with
  | nil =>
    intro acc _ _ hQ
    exact ⟨True.intro, fun b => by simpa using hQ b⟩
  | cons x ns ih =>
    intro acc hl hn hQ
    rw [List.length_cons] at hn
    rw [nD_cons, lcD]
    unfold e1_law_part
    trivial
    refine ⟨by rw [nD_len]; exact Nat.lt_of_le_of_lt (by omega : acc.length ≤ 100) (by decide), ?_⟩
    refine ⟨_, atN (sz_at (hl x List.mem_cons_self)), ?_⟩
    trivial
    have := ih (acc ++ [sz S x]) (fun n hn => hl n (List.mem_cons_of_mem _ hn)) (by rw [List.length_append, List.length_singleton]; omega) (fun b => by simpa using hQ b)
    rw [nD_app] at this
    exact this
theorem q2_law_part {a : Addr} {w : Wd} {s2 s3 s4 s5 s6 : Sl} {Q : Sl → Env' → Prop} (items : List D) : ∀ (n : Nat) (ds : List D) (acc : List Int), JarOk n ds → n + 2 * items.length + 1 < 4294967296 → acc.length + items.length ≤ 5000 → (∀ x ∈ acc, NumOk w x) →
    (∀ b ds' ws, JarOk (n + 2 * items.length) ds' → (∀ x ∈ ws, NumOk w x) → ws.length = acc.length + items.length → Q (.lst b (iD ws)) [.lst a ds', dW w, s2, s3, s4, s5, s6, .un]) →
    lcD (gSet 7) dYes e2_law_part [7] (fun _ => True) Q items (iD acc) [.lst a ds, dW w, s2, s3, s4, s5, s6, .un] := by
  induction items with
  | nil =>
    intro n ds acc hj _ _ hx hQ
    exact ⟨True.intro, fun b => hQ b _ _ hj hx rfl⟩
  | cons x items ih =>
    intro n ds acc hj hn hl hx hQ
    rw [List.length_cons] at hn hl
    rw [lcD]
    unfold e2_law_part
    trivial
    refine ⟨by rw [iD_len]; exact Nat.lt_of_le_of_lt (by omega : acc.length ≤ 5000) (by decide), n, a, ds, w, rfl, hj, by omega, fun i ds' fin hi hj' => ?_⟩
    trivial
    have := ih (n + 2) ds' (acc ++ [i]) hj' (by omega) (by rw [List.length_append, List.length_singleton]; omega) (fun y hy => by
      rcases List.mem_append.1 hy with h | h
      · exact hx y h
      · rw [List.mem_singleton.1 h]; exact hi) (fun b ds2 ws hj2 h2 h3 => hQ b ds2 ws (by rw [List.length_cons]; exact hj2.up (by omega)) h2 (by rw [h3, List.length_append, List.length_singleton, List.length_cons]; omega))
    rw [iD_app] at this
    exact this
theorem m_law_part : Meets t_law_part 4 4 sp_law_part := by
  rintro args Qd Xd ⟨n, a, ds, w, S, most, rfl, hj, hn, hS, hm, hQ⟩
  show t_law_part _ _ [_, _, _, _, .un, .un, .un, .un]
  unfold t_law_part
  trivial
  have := hS.few
  refine ⟨n, a, ds, S.length, most, by rw [nD_len], hj, by omega, by omega, hm, fun ns ds' fin hr hl hlen hj' => ?_⟩
  trivial
  refine q1_law_part (S := S) ns [] hl (by have := rising_len hr hl; simp; omega) fun b => ?_
  trivial
  have hp := psz_le hS.pos hr hl
  have hp4 := hS.prod
  refine ⟨ns.map (sz S), .inl rfl, fun x hx => ?_, ?_, fun fin2 => ?_⟩
  · obtain ⟨y, hy, rfl⟩ := List.mem_map.1 hx
    exact hS.pos _ (sz_mem (hl y hy))
  · exact Nat.lt_of_le_of_lt hp (by omega)
  trivial
  have hlen2 : (rgD 0 ((prodN (ns.map (sz S)) : Nat) : Int)).length = psz S ns := by simp [rgD, psz]
  refine ⟨⟨by have : prodN (ns.map (sz S)) = psz S ns := rfl; omega, by have : prodN (ns.map (sz S)) = psz S ns := rfl; omega⟩, ?_⟩
  refine q2_law_part (w := w) _ (n + 64) ds' [] hj' (by rw [hlen2]; omega) (by rw [hlen2]; simp; omega) (by simp) fun b ds2 ws hj2 hx2 hl2 => ?_
  trivial
  rw [hlen2] at hj2 hl2
  exact ⟨by decide, hQ ⟨ns, ws⟩ _ _ ⟨hr, hl, by simpa using hl2⟩ hx2 hlen (hj2.up (by omega))⟩
end LS
namespace LS
open PySem L2 HD PM
local macro_rules | `(tactic| trivial) => `(tactic| try simp -dsimp only [↓sSeq, ↓sIf, ↓sRet, ↓retD_ext, ↓retD_lst, ↓retD_al, ↓sSet, ↓sSetE, ↓sAsg, ↓sDrop, ↓sNext, ↓sFor, ↓sRetN, ↓sCont, ↓sBreak, ↓dTest, ↓dOp, ↓dVar_w, ↓dC, ↓dCons, ↓dNil, ↓dTup, ↓dLst, ↓frzDs, ↓frzD_ext, ↓frzD_lst, ↓frzD_al, ↓wd_ext, ↓wd_lst, ↓wd_al, ↓wds, ↓AtS_ext, ↓AtS_lst, ↓AtL, ↓fAdd, ↓fSub, ↓fMul, ↓fDiv, ↓fMod, ↓fPow, ↓fCmp, ↓fIn, ↓fEq_ii, ↓fEq_ss, ↓fEq_bb, ↓fEq_tt, ↓fEq_ll, ↓fNe_ii, ↓fNe_ss, ↓fNe_bb, ↓fNe_tt, ↓fNe_ll, ↓fIx_l, ↓fIx_t, ↓fIx_k, ↓fIx_f, ↓GetS_some, ↓NatS_some, ↓fSl, ↓fIsN, ↓fNotN, ↓D.knN, ↓dNot, ↓dAnd, ↓dOr, ↓dAndV_w, ↓dOrV_w, ↓dNotV, ↓dIf, ↓dNeg, ↓dChain_w, ↓BlS_bl, ↓dCall_w, ↓dCallJ_w, ↓anyAl, ↓frozs, ↓froz, ↓gSet, ↓gTupD, ↓gsCons, ↓gsNil, ↓dSeq, ↓seqD_tup, ↓seqD_elst, ↓seqD_lst, ↓seqD_al, ↓dRange1, ↓dRange2, ↓dZip, ↓dCB, ↓dLc, ↓dYes, ↓dNoPart, ↓dPart, ↓dSl, ↓fLen, ↓fMin, ↓fMax, ↓fSum, ↓fAll, ↓fAny, ↓fSorted, ↓fTuple, ↓fList, ↓dRg1, ↓dRg2, ↓dLstRg, ↓dTupRg, ↓dIndex, ↓fIdx, ↓dAppend_w, ↓dExtend_w, ↓extD_lst, ↓dPopAt_w, ↓popD_int, ↓dPop_w, ↓mutD_w, ↓sSetItem_w, ↓setD_int, ↓dSortSet, ↓dTable_w, ↓wipeE, finals1, finals2, finals3, finals4, finals5, finals6, fin1_ext, fin1_lst, List.getElem?_cons_zero, List.getElem?_cons_succ, List.getElem?_nil, List.set_cons_zero, List.set_cons_succ, List.cons_append, List.nil_append, List.append_nil, List.replicate_succ, List.replicate_zero, List.map_cons, List.map_nil, List.length_cons, List.length_nil, true_and, and_true, ite_true, ite_false, if_true, if_false, Bool.false_eq_true, decide_eq_true_eq, Sl.plain, D.isSq, eq_self_iff_true, forall_const, reduceIte, true_or, or_true, atI_0, atI_1, atI_2, atI_3, ixN_0, ixN_1, ixN_2, AtS_ext, AtS_lst, FzS_lst, FzS_ext, GetS_some, NatS_some, ↓fIsi1, ↓fIsi2, BoolS_some, HD.kb_non_tuple, HD.kb_non_list, HD.kb_non_bool, HD.kb_non_int, HD.kb_non_str, HD.kb_bl_tuple, HD.kb_bl_list, HD.kb_bl_bool, HD.kb_bl_int, HD.kb_bl_str, HD.kb_int_tuple, HD.kb_int_list, HD.kb_int_bool, HD.kb_int_int, HD.kb_int_str, HD.kb_str_tuple, HD.kb_str_list, HD.kb_str_bool, HD.kb_str_int, HD.kb_str_str, HD.kb_lst_tuple, HD.kb_lst_list, HD.kb_lst_bool, HD.kb_lst_int, HD.kb_lst_str, HD.kb_tup_tuple, HD.kb_tup_list, HD.kb_tup_bool, HD.kb_tup_int, HD.kb_tup_str, ↓sFz_w, ↓FzS_lst, ↓FzS_ext, ↓dSortSetL, ↓fAbs, ↓fInt, ↓fRepr, ↓fLtT, ↓sRaise, ↓sTryKeep, ↓dCallV_w, ↓dMeth, ↓fCount, ↓fSplit])
def D.pl : Nat → D → Bool
  | _, .non => true
  | _, .bl _ => true
  | _, .int _ => true
  | _, .str _ => true
  | k + 1, .lst ds => decide (ds.length ≤ 100000) && ds.all (D.pl k)
  | k + 1, .tup ds => decide (ds.length ≤ 100000) && ds.all (D.pl k)
  | _, _ => false
theorem noVals_of {ds : List D} (h : ∀ d ∈ ds, d.noVal = true) : D.noVals ds = true := by
  induction ds with
  | nil => rfl
  | cons d ds ih => rw [D.noVals, h d List.mem_cons_self, ih fun e he => h e (List.mem_cons_of_mem _ he)]; rfl
theorem pl_noVal : ∀ (k : Nat) (d : D), D.pl k d = true → d.noVal = true := by
  intro k
  induction k with
  | zero => intro d h; cases d <;> first | rfl | simp [D.pl] at h
  | succ k ih =>
    intro d h
    cases d with
    | lst ds => rw [D.pl, Bool.and_eq_true, List.all_eq_true] at h; exact noVals_of fun e he => ih e (h.2 e he)
    | tup ds => rw [D.pl, Bool.and_eq_true, List.all_eq_true] at h; exact noVals_of fun e he => ih e (h.2 e he)
    | non => rfl
    | bl _ => rfl
    | int _ => rfl
    | str _ => rfl
    | val _ => simp [D.pl] at h
    | fz _ => simp [D.pl] at h
    | tk _ => simp [D.pl] at h
    | exc _ => simp [D.pl] at h
    | glo _ => simp [D.pl] at h
    | dk _ _ => simp [D.pl] at h
    | dt _ _ => simp [D.pl] at h
def sp_same (k : Nat) : DSpec := fun args Q _ => ∃ d, args = [.ext d, .ext d] ∧ D.pl k d = true ∧ ∀ fin, Q (.ext (.bl true)) fin
def sp_sameR : Nat → DSpec
  | 0 => fun _ _ _ => False
  | k + 1 => sp_same k
def e1_law_same (sp_law_same : DSpec) : DT :=
    (dCall sp_law_same (dCons (dVar 2) (dCons (dVar 3) dNil)))
def t_law_same (sp_law_same : DSpec) : DTS :=
    (sSeq (sIf (dTest (dCB fIsi (dCons (dVar 1) (dCons (dTup (dCons (dC (.val (.ty "tuple"))) (dCons (dC (.val (.ty "list"))) dNil))) dNil)))) (sSeq (sIf (dOr (dTest (dOp fNe (dCB fIsi (dCons (dVar 1) (dCons (dC (.val (.ty "tuple"))) dNil))) (dCB fIsi (dCons (dVar 0) (dCons (dC (.val (.ty "tuple"))) dNil))))) (dTest (dOp fNe (dCB fIsi (dCons (dVar 1) (dCons (dC (.val (.ty "list"))) dNil))) (dCB fIsi (dCons (dVar 0) (dCons (dC (.val (.ty "list"))) dNil)))))) (sRet (dC (.bl false))) sNext)
    (sRet (dAndV (dOp fEq (dCB fLen (dCons (dVar 0) dNil)) (dCB fLen (dCons (dVar 1) dNil))) (dCB fAll (dCons (dLc (dZip (dVar 0) (dVar 1)) (gTupD 2 (gsCons (gSet 2) (gsCons (gSet 3) gsNil))) dYes (e1_law_same sp_law_same) [2, 3]) dNil))))) sNext)
    (sSeq (sIf (dOr (dTest (dCB fIsi (dCons (dVar 1) (dCons (dC (.val (.ty "bool"))) dNil)))) (dTest (dCB fIsi (dCons (dVar 0) (dCons (dC (.val (.ty "bool"))) dNil))))) (sRet (dAndV (dCB fIsi (dCons (dVar 1) (dCons (dC (.val (.ty "bool"))) dNil))) (dAndV (dCB fIsi (dCons (dVar 0) (dCons (dC (.val (.ty "bool"))) dNil))) (dOp fEq (dVar 0) (dVar 1))))) sNext)
    (sSeq (sIf (dTest (dCB fIsi (dCons (dVar 1) (dCons (dC (.val (.ty "int"))) dNil)))) (sRet (dAndV (dCB fIsi (dCons (dVar 0) (dCons (dC (.val (.ty "int"))) dNil))) (dOp fEq (dVar 0) (dVar 1)))) sNext)
    (sSeq (sIf (dTest (dOp fIsN (dVar 1) (dC .non))) (sRet (dOp fIsN (dVar 0) (dC .non))) sNext)
    (sRet (dAndV (dCB fIsi (dCons (dVar 0) (dCons (dC (.val (.ty "str"))) dNil))) (dOp fEq (dVar 0) (dVar 1))))))))
theorem zip_self (ds : List D) : (ds.zip ds).map (fun p => D.tk [p.1, p.2]) = ds.map fun d => D.tk [d, d] := by
  induction ds with
  | nil => rfl
  | cons d ds ih => simp only [List.zip_cons_cons, List.map_cons, ih]
theorem q1_law_same {k : Nat} {Q : Sl → Env' → Prop} {s0 s1 : Sl} {keep : Env' → Prop} (hk : ∀ e, keep e) (ds : List D) : ∀ (n : Nat), n + ds.length ≤ 100000 → (∀ d ∈ ds, D.pl k d = true) → (∀ b, Q (.lst b (List.replicate (n + ds.length) (.bl true))) [s0, s1, .un, .un]) →
    lcD (gTupD 2 (gsCons (gSet 2) (gsCons (gSet 3) gsNil))) dYes (e1_law_same (sp_same k)) [2, 3] keep Q (ds.map fun d => D.tk [d, d]) (List.replicate n (.bl true)) [s0, s1, .un, .un] := by
  induction ds with
  | nil => intro n _ _ hQ; exact ⟨hk _, hQ⟩
  | cons d ds ih =>
    intro n hl hp hQ
    rw [List.length_cons] at hl
    rw [List.map_cons, lcD]
    unfold e1_law_same
    trivial
    refine ⟨hk _, by rw [List.length_replicate]; exact Nat.lt_of_le_of_lt (by omega : n ≤ 100000) (by decide), d, rfl, hp d List.mem_cons_self, fun fin => ?_⟩
    trivial
    have := ih (n + 1) (by omega) (fun e he => hp e (List.mem_cons_of_mem _ he)) (fun b => by have := hQ b; rw [List.length_cons] at this; rw [show n + 1 + ds.length = n + (ds.length + 1) by omega]; exact this)
    rw [List.replicate_succ'] at this
    exact this
theorem m_law_same (k : Nat) : Meets (t_law_same (sp_sameR k)) 2 2 (sp_same k) := by
  rintro args Qd Xd ⟨d, rfl, hp, hQ⟩
  have nv := pl_noVal k d hp
  show t_law_same _ _ _ [_, _, .un, .un]
  unfold t_law_same
  cases d with
  | non =>
    trivial
    simp only [nv, D.isFz, D.isNon, Bool.or_false, Bool.or_true, Bool.false_eq_true, if_true, if_false, true_and]
    exact ⟨by decide, hQ _⟩
  | bl b =>
    trivial
    simp only [nv, D.isFz, D.isNon, Bool.or_false, Bool.or_true, Bool.false_eq_true, if_true, if_false, true_and, beq_self_eq_true]
    exact ⟨by decide, hQ _⟩
  | int i =>
    trivial
    simp only [nv, D.isFz, D.isNon, Bool.or_false, Bool.or_true, Bool.false_eq_true, if_true, if_false, true_and, beq_self_eq_true]
    exact ⟨by decide, hQ _⟩
  | str x =>
    trivial
    simp only [nv, D.isFz, D.isNon, Bool.or_false, Bool.or_true, Bool.false_eq_true, if_true, if_false, true_and, beq_self_eq_true]
    exact ⟨by decide, hQ _⟩
  | lst ds =>
    cases k with
    | zero => simp [D.pl] at hp
    | succ k =>
      rw [D.pl, Bool.and_eq_true, List.all_eq_true, decide_eq_true_eq] at hp
      trivial
      simp only [nv, D.isFz, D.isNon, Bool.or_false, Bool.or_true, Bool.true_or, Bool.false_eq_true, if_true, if_false, true_and, beq_self_eq_true, Bool.not_true]
      refine ⟨by decide, ?_⟩
      rw [zip_self]
      refine q1_law_same (k := k) (fun _ => True.intro) ds 0 (by omega) hp.2 fun b => ?_
      trivial
      refine ⟨List.replicate (0 + ds.length) true, by simp, ?_⟩
      have e : (List.replicate (0 + ds.length) true).all id = true := by simp
      rw [e]
      exact hQ _
  | tup ds =>
    cases k with
    | zero => simp [D.pl] at hp
    | succ k =>
      rw [D.pl, Bool.and_eq_true, List.all_eq_true, decide_eq_true_eq] at hp
      trivial
      simp only [nv, D.isFz, D.isNon, Bool.or_false, Bool.or_true, Bool.true_or, Bool.false_eq_true, if_true, if_false, true_and, beq_self_eq_true, Bool.not_true]
      refine ⟨by decide, ?_⟩
      rw [zip_self]
      refine q1_law_same (k := k) (fun _ => True.intro) ds 0 (by omega) hp.2 fun b => ?_
      trivial
      refine ⟨List.replicate (0 + ds.length) true, by simp, ?_⟩
      have e : (List.replicate (0 + ds.length) true).all id = true := by simp
      rw [e]
      exact hQ _
  | val _ => cases k <;> simp [D.pl] at hp
  | fz _ => cases k <;> simp [D.pl] at hp
  | tk _ => cases k <;> simp [D.pl] at hp
  | exc _ => cases k <;> simp [D.pl] at hp
  | glo _ => cases k <;> simp [D.pl] at hp
  | dk _ _ => cases k <;> simp [D.pl] at hp
  | dt _ _ => cases k <;> simp [D.pl] at hp
end LS
namespace LS
open PySem L2 HD PM
def D.pi : Nat → D → Bool
  | _, .non => true
  | _, .bl _ => true
  | _, .int _ => true
  | _, .str x => PyData.canLay0 (.str x)
  | k + 1, .lst ds => ds.all (D.pi k)
  | k + 1, .tup ds => ds.all (D.pi k)
  | _, _ => false
theorem pys_of {k : Nat} {ds : List D} (h : ∀ d ∈ ds, d.noVal = true ∧ d.py.canLay0 = true ∧ d.py.depth ≤ k) : D.noVals ds = true ∧ PyData.canLayAll0 (D.pys ds) = true ∧ PyData.depthAll (D.pys ds) ≤ k := by
  induction ds with
  | nil => exact ⟨rfl, rfl, by simp [D.pys, PyData.depthAll]⟩
  | cons d ds ih =>
    obtain ⟨h1, h2, h3⟩ := h d List.mem_cons_self
    obtain ⟨i1, i2, i3⟩ := ih fun e he => h e (List.mem_cons_of_mem _ he)
    refine ⟨by simp [D.noVals, h1, i1], by simp [D.pys, PyData.canLayAll0, h2, i2], ?_⟩
    simp only [D.pys, PyData.depthAll]
    omega
theorem pi_cmp0 : ∀ (k : Nat) (d : D), D.pi k d = true → d.noVal = true ∧ d.py.canLay0 = true ∧ d.py.depth ≤ k := by
  intro k
  induction k with
  | zero => intro d h; cases d <;> first | exact ⟨rfl, rfl, by simp [D.py, PyData.depth]⟩ | exact ⟨rfl, h, by simp [D.py, PyData.depth]⟩ | simp [D.pi] at h
  | succ k ih =>
    intro d h
    cases d with
    | lst ds =>
      rw [D.pi, List.all_eq_true] at h
      obtain ⟨h1, h2, h3⟩ := pys_of fun e he => ih e (h e he)
      exact ⟨h1, by simpa [D.py, PyData.canLay0] using h2, by simp only [D.py, PyData.depth]; omega⟩
    | tup ds =>
      rw [D.pi, List.all_eq_true] at h
      obtain ⟨h1, h2, h3⟩ := pys_of fun e he => ih e (h e he)
      exact ⟨h1, by simpa [D.py, PyData.canLay0] using h2, by simp only [D.py, PyData.depth]; omega⟩
    | non => exact ⟨rfl, rfl, by simp [D.py, PyData.depth]⟩
    | bl _ => exact ⟨rfl, rfl, by simp [D.py, PyData.depth]⟩
    | int _ => exact ⟨rfl, rfl, by simp [D.py, PyData.depth]⟩
    | str _ => exact ⟨rfl, h, by simp [D.py, PyData.depth]⟩
    | val _ => simp [D.pi] at h
    | fz _ => simp [D.pi] at h
    | tk _ => simp [D.pi] at h
    | exc _ => simp [D.pi] at h
    | glo _ => simp [D.pi] at h
    | dk _ _ => simp [D.pi] at h
    | dt _ _ => simp [D.pi] at h
theorem pi_cmp {k : Nat} {d : D} (hk : k ≤ 64) (h : D.pi k d = true) : d.cmp := by
  obtain ⟨h1, h2, h3⟩ := pi_cmp0 k d h
  refine ⟨h1, ?_⟩
  unfold SeqAt.shaped
  rw [h2]
  simp; omega
theorem pi_nats (k : Nat) (l : List Nat) : (nD l).all (D.pi k) = true := by
  rw [List.all_eq_true]
  intro d hd
  obtain ⟨i, _, rfl⟩ := List.mem_map.1 hd
  cases k <;> rfl
def Bd (k : Nat) (p : Part) : Prop := ∀ x ∈ p.ws, x.natAbs < 2 ^ k
end LS
namespace LS
open PySem L2 HD PM
theorem iD_snoc (l : List Int) (x : Int) : iD l ++ [D.int x] = iD (l ++ [x]) := (iD_app l [x]).symm
def xWords : List Str := [Str.ofString "filling", Str.ofString "name", Str.ofString "many", Str.ofString "deeds", Str.ofString "offers", Str.ofString "tree", Str.ofString "bag", Str.ofString "part", Str.ofString "worths", Str.ofString "back", Str.ofString "weights", Str.ofString "number", Str.ofString "row", Str.ofString "text"]
def xWord (c : Str) : Str := xWords.getD (xAll.idxOf c) (Str.ofString "")
theorem isX_glo {cs : List Str} {c : Str} (hc : c ∈ cs) (x : Str) (hx : x ∈ xAll) (Q : Sl → Prop) : fIsX (xtab cs) [.exc c, .glo x] Q = Q (.ext (.bl (decide (x = c)))) := by
  refine propext ⟨fun ⟨b, h, q⟩ => ?_, fun q => ⟨_, ?_, q⟩⟩
  · unfold xtab at h
    simp only [if_pos hc, if_pos hx, Option.some.injEq] at h
    rw [h]; exact q
  · unfold xtab
    simp only [if_pos hc, if_pos hx]
theorem isX_ve {cs : List Str} {c : Str} (hc : c ∈ cs) (Q : Sl → Prop) : fIsX (xtab cs) [.exc c, .val (.ty "ValueError")] Q = Q (.ext (.bl true)) := by
  refine propext ⟨fun ⟨b, h, q⟩ => ?_, fun q => ⟨_, ?_, q⟩⟩
  · unfold xtab at h
    simp only [if_pos hc, if_true, Option.some.injEq] at h
    rw [h]; exact q
  · unfold xtab
    simp only [if_pos hc, if_true]
def xKinds (c : Str) : List D := xAll.map fun x => D.bl (decide (x = c))
theorem xk_count {c : Str} (h : c ∈ xAll) : (xKinds c).countP (fun z => eqV z.toV (D.bl true).toV) = 1 := by
  simp only [xAll, List.mem_cons, List.not_mem_nil, or_false] at h
  rcases h with rfl | rfl | rfl | rfl | rfl | rfl | rfl | rfl | rfl | rfl | rfl | rfl | rfl | rfl <;> decide +kernel
theorem xk_at {c : Str} (h : c ∈ xAll) : D.at? (.bl true) (xKinds c) = some (xAll.idxOf c) := by
  simp only [xAll, List.mem_cons, List.not_mem_nil, or_false] at h
  rcases h with rfl | rfl | rfl | rfl | rfl | rfl | rfl | rfl | rfl | rfl | rfl | rfl | rfl | rfl <;> decide +kernel
theorem xk_split : Txt.split (Str.ofString "filling name many deeds offers tree bag part worths back weights number row text") (Str.ofString " ") = xWords := by decide +kernel
end LS
namespace LS
open PySem L2 HD PM
abbrev dPs (ps : List Part) : D := .tup (ps.map dP)
abbrev dSh (S : List Nat) (ps : List Part) : D := .tup [.tup (nD S), dPs ps]
structure ShOk (S : List Nat) (ps : List Part) : Prop where
  sz : SzOk S
  one : 0 < S.length
  ok : ∀ p ∈ ps, p.Ok S
  bd : ∃ b, 0 < b ∧ b * ps.length ≤ 40 * max ps.length 20 ∧ ∀ p ∈ ps, Bd b p
  few : ps.length ≤ 60
structure ShO4 (S : List Nat) (ps : List Part) : Prop extends ShOk S ps where
  b4 : ∀ p ∈ ps, Bd 40 p
instance {S : List Nat} {ps : List Part} : Coe (ShO4 S ps) (ShOk S ps) := ⟨fun h => h.toShOk⟩
end LS
namespace LS
open PySem L2 HD PM
def PsOk (w : Wd) (S : List Nat) (ps : List Part) : Prop := ∀ p ∈ ps, p.Ok S ∧ NumsOk w p
end LS
namespace LS
namespace K02
open PySem L2 HD PM
local macro_rules | `(tactic| trivial) => `(tactic| try simp -dsimp only [↓sSeq, ↓sIf, ↓sRet, ↓retD_ext, ↓retD_lst, ↓retD_al, ↓sSet, ↓sSetE, ↓sAsg, ↓sDrop, ↓sNext, ↓sFor, ↓sRetN, ↓sCont, ↓sBreak, ↓dTest, ↓dOp, ↓dVar_w, ↓dC, ↓dCons, ↓dNil, ↓dTup, ↓dLst, ↓frzDs, ↓frzD_ext, ↓frzD_lst, ↓frzD_al, ↓wd_ext, ↓wd_lst, ↓wd_al, ↓wds, ↓AtS_ext, ↓AtS_lst, ↓AtL, ↓fAdd, ↓fSub, ↓fMul, ↓fDiv, ↓fMod, ↓fPow, ↓fCmp, ↓fIn, ↓fEq_ii, ↓fEq_ss, ↓fEq_bb, ↓fEq_tt, ↓fEq_ll, ↓fNe_ii, ↓fNe_ss, ↓fNe_bb, ↓fNe_tt, ↓fNe_ll, ↓fIx_l, ↓fIx_t, ↓fIx_k, ↓fIx_f, ↓GetS_some, ↓NatS_some, ↓fSl, ↓fIsN, ↓fNotN, ↓D.knN, ↓dNot, ↓dAnd, ↓dOr, ↓dAndV_w, ↓dOrV_w, ↓dNotV, ↓dIf, ↓dNeg, ↓dChain_w, ↓BlS_bl, ↓dCall_w, ↓dCallJ_w, ↓anyAl, ↓frozs, ↓froz, ↓gSet, ↓gTupD, ↓gsCons, ↓gsNil, ↓dSeq, ↓seqD_tup, ↓seqD_elst, ↓seqD_lst, ↓seqD_al, ↓dRange1, ↓dRange2, ↓dZip, ↓dCB, ↓dLc, ↓dYes, ↓dNoPart, ↓dPart, ↓dSl, ↓fLen, ↓fMin, ↓fMax, ↓fSum, ↓fAll, ↓fAny, ↓fSorted, ↓fTuple, ↓fList, ↓dRg1, ↓dRg2, ↓dLstRg, ↓dTupRg, ↓dIndex, ↓fIdx, ↓dAppend_w, ↓dExtend_w, ↓extD_lst, ↓dPopAt_w, ↓popD_int, ↓dPop_w, ↓mutD_w, ↓sSetItem_w, ↓setD_int, ↓dSortSet, ↓dTable_w, ↓wipeE, finals1, finals2, finals3, finals4, finals5, finals6, fin1_ext, fin1_lst, List.getElem?_cons_zero, List.getElem?_cons_succ, List.getElem?_nil, List.set_cons_zero, List.set_cons_succ, List.cons_append, List.nil_append, List.append_nil, List.replicate_succ, List.replicate_zero, List.map_cons, List.map_nil, List.length_cons, List.length_nil, true_and, and_true, ite_true, ite_false, if_true, if_false, Bool.false_eq_true, decide_eq_true_eq, Sl.plain, D.isSq, eq_self_iff_true, forall_const, reduceIte, true_or, or_true, atI_0, atI_1, atI_2, atI_3, ixN_0, ixN_1, ixN_2, AtS_ext, AtS_lst, FzS_lst, FzS_ext, GetS_some, NatS_some, ↓fIsi1, ↓fIsi2, BoolS_some, HD.kb_non_tuple, HD.kb_non_list, HD.kb_non_bool, HD.kb_non_int, HD.kb_non_str, HD.kb_bl_tuple, HD.kb_bl_list, HD.kb_bl_bool, HD.kb_bl_int, HD.kb_bl_str, HD.kb_int_tuple, HD.kb_int_list, HD.kb_int_bool, HD.kb_int_int, HD.kb_int_str, HD.kb_str_tuple, HD.kb_str_list, HD.kb_str_bool, HD.kb_str_int, HD.kb_str_str, HD.kb_lst_tuple, HD.kb_lst_list, HD.kb_lst_bool, HD.kb_lst_int, HD.kb_lst_str, HD.kb_tup_tuple, HD.kb_tup_list, HD.kb_tup_bool, HD.kb_tup_int, HD.kb_tup_str, ↓sFz_w, ↓FzS_lst, ↓FzS_ext, ↓dSortSetL, ↓fAbs, ↓fInt, ↓fRepr, ↓fLtT, ↓sRaise, ↓sTryKeep, ↓dCallV_w, ↓dMeth, ↓fCount, ↓fSplit, dStep, fStep])
def sp_law_sheet : DSpec := fun args Q _ => ∃ (n : Nat) (a : Addr) (ds : List D) (w : Wd) (most roof parts : Nat), args = [.lst a ds, dW w, dI (most : Nat), dI (roof : Nat), dI (parts : Nat)] ∧ JarOk n ds ∧ n + 700000 < 4294967296 ∧ 0 < most ∧ most ≤ 24 ∧ 0 < roof ∧ roof ≤ 4096 ∧ parts ≤ 60 ∧
  ∀ (S : List Nat) (ps : List Part) ds' fin, SzOk S → 0 < S.length → S.length ≤ most → prodN S ≤ roof → PsOk w S ps → ps.length ≤ parts → (∀ p ∈ ps, p.ns.length ≤ 3) → JarOk (n + 700000) ds' → Q (.ext (dSh S ps)) (.lst a ds' :: fin)
def e1_law_sheet : DT :=
    (dCallJ sp_law_part 0 (dCons (dVar 1) (dCons (dVar 5) (dCons (dVar 7) dNil))))
def t_law_sheet : DTS :=
    (sSeq (sSetE 5 (dCallJ sp_law_sizes 0 (dCons (dVar 2) (dCons (dVar 3) dNil))))
    (sSeq (sSetE 6 (dCallJ sp_law_dip 0 (dCons (dOp fAdd (dVar 4) (dC (.int 1))) dNil)))
    (sSeq (sSetE 7 (dOp fAdd (dC (.int 2)) (dCallJ sp_law_dip 0 (dCons (dC (.int 2)) dNil))))
    (sRet (dTup (dCons (dVar 5) (dCons (dCB fTuple (dCons (dLc (dRange1 (dCons (dVar 6) dNil)) (gSet 8) dYes e1_law_sheet [8]) dNil)) dNil)))))))
theorem m_law_sheet : Meets t_law_sheet 5 4 sp_law_sheet := by
  rintro args Qd Xd ⟨n, a, ds, w, most, roof, parts, rfl, hj, hn, hm0, hm1, hr0, hr1, hp, hQ⟩
  show t_law_sheet _ _ [_, _, _, _, _, .un, .un, .un, .un]
  unfold t_law_sheet
  trivial
  refine ⟨n, a, ds, most, roof, rfl, hj, by omega, hm0, hm1, hr0, hr1, fun S ds1 fin hS hS1 hSm hSr hj1 => ?_⟩
  trivial
  refine ⟨n + 64, a, ds1, (parts : Int) + 1, rfl, hj1, by omega, by omega, by omega, fun r ds2 fin r0 r1 hj2 => ?_⟩
  trivial
  refine ⟨n + 64 + 1, a, ds2, 2, rfl, hj2, by omega, by omega, by omega, fun q ds3 fin q0 q1 hj3 => ?_⟩
  trivial
  refine ⟨⟨by omega, by omega⟩, ?_⟩
  have er : rgD 0 r = nD (List.range r.toNat) := by rw [← rgD_nat, Int.toNat_of_nonneg r0]
  rw [er]
  obtain ⟨wide, hw⟩ : ∃ z : Nat, 2 + q = (z : Nat) := ⟨(2 + q).toNat, by omega⟩
  refine lc_ind (fun k : Nat => D.int (k : Int)) (fun xs acc env => ∃ (m : Nat) (ds : List D) (ps : List Part), env = [.lst a ds, dW w, dI (most : Nat), dI (roof : Nat), dI (parts : Nat), dSz S, dI r, dI (2 + q), .un] ∧ acc = ps.map dP ∧ JarOk m ds ∧ m + 10000 * xs.length ≤ n + 700000 ∧ ps.length + xs.length = r.toNat ∧ PsOk w S ps ∧ ∀ p ∈ ps, p.ns.length ≤ 3) ?_ ?_ (List.range r.toNat) [] _
    ⟨n + 64 + 1 + 1, ds3, [], rfl, rfl, hj3, by simp; omega, by simp, by intro p hp; simp at hp, by intro p hp; simp at hp⟩
  · rintro acc env ⟨m, ds4, ps, rfl, rfl, hj4, hm4, hl, hps, h3⟩
    simp only [List.length_nil, Nat.add_zero, Nat.mul_zero] at hm4 hl
    refine ⟨True.intro, fun b => ?_⟩
    trivial
    exact ⟨by decide, hQ S ps _ _ hS hS1 hSm hSr hps (by omega) h3 (hj4.up hm4)⟩
  · rintro k xs acc env N ⟨m, ds4, ps, rfl, rfl, hj4, hm4, hl, hps, h3⟩ hN
    rw [List.length_cons] at hm4 hl
    refine ⟨True.intro, by rw [List.length_map]; exact Nat.lt_of_le_of_lt (by omega : _ ≤ 100) (by decide), ?_⟩
    unfold e1_law_sheet
    trivial
    refine ⟨m, a, ds4, w, S, wide, by rw [hw], hj4, by omega, hS, by omega, fun p ds5 fin h1 h2 h4 hj5 => ?_⟩
    trivial
    refine hN _ _ ⟨m + 10000, ds5, ps ++ [p], rfl, by simp, hj5, by omega, by rw [List.length_append, List.length_singleton]; omega, fun q hq => ?_, fun q hq => ?_⟩
    · rcases List.mem_append.1 hq with h | h
      · exact hps q h
      · rw [List.mem_singleton.1 h]; exact ⟨h1, h2⟩
    · rcases List.mem_append.1 hq with h | h
      · exact h3 q h
      · rw [List.mem_singleton.1 h]; omega
end K02
end LS
namespace LS
namespace K01
open PySem L2 HD PM
open K02 (sp_law_sheet)
local macro_rules | `(tactic| trivial) => `(tactic| try simp -dsimp only [↓sSeq, ↓sIf, ↓sRet, ↓retD_ext, ↓retD_lst, ↓retD_al, ↓sSet, ↓sSetE, ↓sAsg, ↓sDrop, ↓sNext, ↓sFor, ↓sRetN, ↓sCont, ↓sBreak, ↓dTest, ↓dOp, ↓dVar_w, ↓dC, ↓dCons, ↓dNil, ↓dTup, ↓dLst, ↓frzDs, ↓frzD_ext, ↓frzD_lst, ↓frzD_al, ↓wd_ext, ↓wd_lst, ↓wd_al, ↓wds, ↓AtS_ext, ↓AtS_lst, ↓AtL, ↓fAdd, ↓fSub, ↓fMul, ↓fDiv, ↓fMod, ↓fPow, ↓fCmp, ↓fIn, ↓fEq_ii, ↓fEq_ss, ↓fEq_bb, ↓fEq_tt, ↓fEq_ll, ↓fNe_ii, ↓fNe_ss, ↓fNe_bb, ↓fNe_tt, ↓fNe_ll, ↓fIx_l, ↓fIx_t, ↓fIx_k, ↓fIx_f, ↓GetS_some, ↓NatS_some, ↓fSl, ↓fIsN, ↓fNotN, ↓D.knN, ↓dNot, ↓dAnd, ↓dOr, ↓dAndV_w, ↓dOrV_w, ↓dNotV, ↓dIf, ↓dNeg, ↓dChain_w, ↓BlS_bl, ↓dCall_w, ↓dCallJ_w, ↓anyAl, ↓frozs, ↓froz, ↓gSet, ↓gTupD, ↓gsCons, ↓gsNil, ↓dSeq, ↓seqD_tup, ↓seqD_elst, ↓seqD_lst, ↓seqD_al, ↓dRange1, ↓dRange2, ↓dZip, ↓dCB, ↓dLc, ↓dYes, ↓dNoPart, ↓dPart, ↓dSl, ↓fLen, ↓fMin, ↓fMax, ↓fSum, ↓fAll, ↓fAny, ↓fSorted, ↓fTuple, ↓fList, ↓dRg1, ↓dRg2, ↓dLstRg, ↓dTupRg, ↓dIndex, ↓fIdx, ↓dAppend_w, ↓dExtend_w, ↓extD_lst, ↓dPopAt_w, ↓popD_int, ↓dPop_w, ↓mutD_w, ↓sSetItem_w, ↓setD_int, ↓dSortSet, ↓dTable_w, ↓wipeE, finals1, finals2, finals3, finals4, finals5, finals6, fin1_ext, fin1_lst, List.getElem?_cons_zero, List.getElem?_cons_succ, List.getElem?_nil, List.set_cons_zero, List.set_cons_succ, List.cons_append, List.nil_append, List.append_nil, List.replicate_succ, List.replicate_zero, List.map_cons, List.map_nil, List.length_cons, List.length_nil, true_and, and_true, ite_true, ite_false, if_true, if_false, Bool.false_eq_true, decide_eq_true_eq, Sl.plain, D.isSq, eq_self_iff_true, forall_const, reduceIte, true_or, or_true, atI_0, atI_1, atI_2, atI_3, ixN_0, ixN_1, ixN_2, AtS_ext, AtS_lst, FzS_lst, FzS_ext, GetS_some, NatS_some, ↓fIsi1, ↓fIsi2, BoolS_some, HD.kb_non_tuple, HD.kb_non_list, HD.kb_non_bool, HD.kb_non_int, HD.kb_non_str, HD.kb_bl_tuple, HD.kb_bl_list, HD.kb_bl_bool, HD.kb_bl_int, HD.kb_bl_str, HD.kb_int_tuple, HD.kb_int_list, HD.kb_int_bool, HD.kb_int_int, HD.kb_int_str, HD.kb_str_tuple, HD.kb_str_list, HD.kb_str_bool, HD.kb_str_int, HD.kb_str_str, HD.kb_lst_tuple, HD.kb_lst_list, HD.kb_lst_bool, HD.kb_lst_int, HD.kb_lst_str, HD.kb_tup_tuple, HD.kb_tup_list, HD.kb_tup_bool, HD.kb_tup_int, HD.kb_tup_str, ↓sFz_w, ↓FzS_lst, ↓FzS_ext, ↓dSortSetL, ↓fAbs, ↓fInt, ↓fRepr, ↓fLtT, ↓sRaise, ↓sTryKeep, ↓dCallV_w, ↓dMeth, ↓fCount, ↓fSplit, dStep, fStep, fMulT, fIsB, fNotB])
def sp_product : DSpec := sp_law_times
def b1_product : DTS :=
    (sSetE 1 (dOp fMul (dVar 1) (dVar 2)))
def k2_product : DTS :=
    (sRet (dVar 1))
def t_product : DTS :=
    (sSeq (sSetE 1 (dC (.int 1)))
    (sSeq (sFor (dSeq (dVar 0)) (gSet 2) b1_product)
    k2_product))
theorem q1_product {Ex : DX} {E : DEnds} {s0 : Sl} (l : List Nat) : ∀ (acc : Nat) (s2 : Sl), 0 < acc → (∀ x ∈ l, 0 < x) → acc * prodN l < 2 ^ 60 → (∀ u, E.nx [s0, dI (acc * prodN l : Nat), u]) →
    forD (gSet 2) b1_product (fun _ => True) Ex E (nD l) [s0, dI (acc : Nat), s2] := by
  induction l with
  | nil =>
    intro acc s2 _ _ _ hE
    refine ⟨True.intro, ?_⟩
    have := hE s2
    simpa [prodN] using this
  | cons x l ih =>
    intro acc s2 hz hp hb hE
    have hx := hp x List.mem_cons_self
    have hl := prodN_pos fun y hy => hp y (List.mem_cons_of_mem _ hy)
    have e : acc * prodN (x :: l) = acc * x * prodN l := by rw [prodN, Nat.mul_assoc]
    have hax : acc * x < 2 ^ 60 := Nat.lt_of_le_of_lt (Nat.le_mul_of_pos_right _ hl) (e ▸ hb)
    have ha : acc < 2 ^ 60 := Nat.lt_of_le_of_lt (Nat.le_mul_of_pos_right _ hx) hax
    have hx2 : x < 2 ^ 60 := Nat.lt_of_le_of_lt (Nat.le_mul_of_pos_left _ hz) hax
    rw [nD_cons, forD]
    unfold b1_product
    trivial
    refine ⟨cmulN (a := 60) (b := 60) (by simpa using ha) (by simpa using hx2) (by decide), ?_⟩
    have := ih (acc * x) (dI (x : Nat)) (Nat.mul_pos hz hx) (fun y hy => hp y (List.mem_cons_of_mem _ hy)) (e ▸ hb) (fun u => e ▸ hE u)
    rw [Int.natCast_mul] at this
    exact this
theorem m_product : Meets t_product 1 2 sp_product := by
  rintro args Qd Xd ⟨l, h, hp, hb, hQ⟩
  rcases h with rfl | rfl
  all_goals
    show t_product _ _ [_, .un, .un]
    unfold t_product
    trivial
    refine q1_product l 1 .un (by decide) hp (by rw [Nat.one_mul]; exact hb) fun u => ?_
    unfold k2_product
    trivial
    rw [Nat.one_mul]
    exact hQ _
end K01
end LS
namespace HD
open PySem PyProof.Rows L2
section
variable {G : GG} {N : List Str} {sc : SC} {k : Nat} {a : Expr} {ta : DT} {p p2 pos pos2 : Pos}
def dLenSet (t : DT) : DT := fun Ex env Q => t Ex env fun x env1 => wd env1 x fun d => match d with
  | .tup ds => ∃ ns : List Int, ds = ns.map D.int ∧ ns.length < 3000 ∧ ∀ m : Nat, (m = ns.length ↔ ns.Nodup) → Q (.ext (.int (m : Nat))) env1
  | _ => False
end
end HD
namespace HD
open PySem PyProof.Rows L2
def fSum2 : List D → (Sl → Prop) → Prop
  | [.lst ds], Q => ∃ ns : List Int, ds = ns.map D.int ∧ Q (.ext (.int ns.sum))
  | [.tup ds], Q => ∃ ns : List Int, ds = ns.map D.int ∧ Q (.ext (.int ns.sum))
  | _, _ => False
end HD
namespace LS
open PySem L2 HD PM
theorem pl_up : ∀ (k : Nat) (d : D), D.pl k d = true → D.pl (k + 1) d = true := by
  intro k
  induction k with
  | zero => intro d h; cases d <;> first | rfl | simp [D.pl] at h
  | succ k ih =>
    intro d h
    cases d with
    | lst ds => rw [D.pl, Bool.and_eq_true, List.all_eq_true] at h ⊢; exact ⟨h.1, fun e he => ih e (h.2 e he)⟩
    | tup ds => rw [D.pl, Bool.and_eq_true, List.all_eq_true] at h ⊢; exact ⟨h.1, fun e he => ih e (h.2 e he)⟩
    | _ => first | rfl | simp [D.pl] at h
theorem atI_mem {α : Type} {xs : List α} {r : Int} (h0 : 0 ≤ r) (h1 : r < xs.length) : ∃ x, atI xs r = some x ∧ x ∈ xs := by
  have hl : r.toNat < xs.length := by omega
  exact ⟨xs[r.toNat], atI_int h0 (List.getElem?_eq_getElem hl), List.getElem_mem hl⟩
end LS
namespace PM
open LS
def uniS (S : List Nat) (a b : List Nat) : List Nat := (List.range S.length).filter fun n => decide (n ∈ a) || decide (n ∈ b)
def joinL (w : Wd) (S : List Nat) (p : Part) (ps : List Part) : Part := ps.foldl (fun acc q => joinP S (jn w) (uniS S acc.ns q.ns) acc q) p
end PM
namespace HD
open PySem PyProof.Rows L2
open PySem.W (dataLt dataLe EachIs AllAlike Sortable list_sort_data sorted_data)
def SrtD (ds : List D) : Prop := D.noVals ds = true ∧ (∀ d ∈ ds, ∃ x r, d.py = .tuple (x :: r)) ∧ AllAlike (D.pys ds) ∧ ∀ d ∈ ds, d.py.depth ≤ 50
def fSortD : List D → (Sl → Prop) → Prop
  | [.lst ds], Q => SrtD ds ∧ ∀ (ds' : List D) (a : Addr), ds'.Perm ds → ds'.Pairwise (fun x y => dataLt y.py x.py = false) → Q (.lst a ds')
  | [.tup ds], Q => SrtD ds ∧ ∀ (ds' : List D) (a : Addr), ds'.Perm ds → ds'.Pairwise (fun x y => dataLt y.py x.py = false) → Q (.lst a ds')
  | _, _ => False
end HD
namespace HD
open PySem PyProof.Rows L2
def fInD (neg : Bool) : D → D → (Sl → Prop) → Prop
  | d, .lst ds, Q => d.cmp ∧ (D.lst ds).cmp ∧ d.py.depth ≤ 60 ∧ Q (.ext (.bl (neg != ds.any fun z => D.eqv z d)))
  | d, .tup ds, Q => d.cmp ∧ (D.tup ds).cmp ∧ d.py.depth ≤ 60 ∧ Q (.ext (.bl (neg != ds.any fun z => D.eqv z d)))
  | _, _, _ => False
end HD
namespace HD
open PySem PySem.Spec PyProof.Rows L2
def fJoin : D → D → (Sl → Prop) → Prop
  | .str a, .lst ds, Q => ∃ ys : List Str, ds = ys.map D.str ∧ (ys.map (·.length)).sum + ys.length * a.length ≤ 16777216 ∧ Q (.ext (.str (Str.join a ys)))
  | .str a, .tup ds, Q => ∃ ys : List Str, ds = ys.map D.str ∧ (ys.map (·.length)).sum + ys.length * a.length ≤ 16777216 ∧ Q (.ext (.str (Str.join a ys)))
  | _, _, _ => False
theorem reps_strs {K : PySem.W.Frag} {F : Hp} : ∀ {ys : List Str} {vs : List V}, Reps K F (ys.map D.str) vs → vs = ys.map V.str
  | [], vs, h => h
  | y :: ys, vs, h => by
    obtain ⟨v, rest, rfl, h1, h2⟩ := h
    have e1 : v = .str y := h1
    rw [e1, reps_strs h2]
    rfl
theorem pr_join (K : PySem.W.Frag) : Pr2 K (fun v u H Q => ∃ a p, ∃ ys : List Str, v = .str a ∧ [u] = [.ref p] ∧ (SqL K H p (ys.map V.str) ∨ SqT K H p (ys.map V.str)) ∧ (ys.map (·.length)).sum + ys.length * a.length ≤ 16777216 ∧ Q (.str (Txt.join a ys)) H) fJoin := fun F H v u d d' Q R fh r1 r2 h ha => by
  unfold fJoin at h
  split at h
  · obtain ⟨ys, rfl, hz, q⟩ := h
    obtain ⟨p, vs, rfl, hs, rr⟩ := r2.lst fh
    rw [reps_strs rr] at hs
    exact ⟨_, p, ys, r1.str, rfl, .inl (SqL.of hs), hz, by rw [TL.join_eq]; exact ha.str fh q⟩
  · obtain ⟨ys, rfl, hz, q⟩ := h
    obtain ⟨p, vs, rfl, hs, _, rr⟩ := r2.tup fh
    rw [reps_strs rr] at hs
    exact ⟨_, p, ys, r1.str, rfl, .inr hs, hz, by rw [TL.join_eq]; exact ha.str fh q⟩
  · exact h.elim
section
variable {G : GG} {N : List Str} {sc : SC} {k : Nat} {a b : Expr} {ta tb : DT} {apos cpos pos : Pos}
theorem de_join (ha : DE G N sc k a ta) (hb : DE G N sc k b tb) (hw : FewArgs a "join" b [] cpos := by intro _; exact ⟨rfl, rfl, rfl, rfl⟩) (hline : (apos.endLine == cpos.line) = true := by rfl) : DE G N sc k (.Call (.Attribute a "join" apos) [b] [] cpos) (dMeth D.isStr fJoin ta tb) :=
  de_meth (r := fun K => fun x xs H Q => ∃ a p, ∃ ys : List Str, x = .str a ∧ xs = [.ref p] ∧ (SqL K H p (ys.map V.str) ∨ SqT K H p (ys.map V.str)) ∧ (ys.map (·.length)).sum + ys.length * a.length ≤ 16777216 ∧ Q (.str (Txt.join a ys)) H) PySem.F.plainAttrs_str PySem.F.slot_str_join PySem.F.type_str_join (fun _ => mt_join) (fun _ => ty_str) pr_join ha hb hw hline
end
def fIntS : List D → (Sl → Prop) → Prop
  | [.str a], Q => ∃ n, intText? a = some n ∧ a.length ≤ 640 ∧ Q (.ext (.int n))
  | _, _ => False
theorem t_intS : TR "int" fIntS := ⟨fun _ _ _ => fun xs H Q => ∃ a n, xs = [.str a] ∧ intText? a = some n ∧ a.length ≤ 640 ∧ Q (.int n) H, fun _ _ K F H vs ds Q R fh hr hf ha => by
    unfold fIntS at hf
    split at hf
    · obtain ⟨v, rfl, r⟩ := hr.one
      obtain ⟨n, h1, h2, h3⟩ := hf
      exact ⟨_, n, by rw [r.str], h1, h2, ha.int fh h3⟩
    · exact hf.elim, fun X _ _ => call_int_str⟩
def fInSg (neg : Bool) : D → D → (Sl → Prop) → Prop
  | .str x, .str z, Q => ∃ c : Nat, x = ⟨#[c]⟩ ∧ Q (.ext (.bl (neg != decide (c ∈ z.cps.toList))))
  | _, _, _ => False
theorem c_inSg : CmpR .In (fInSg false) := ⟨fun K => fun x y H Q => ∃ (c : Nat) (z : Str), x = .str ⟨#[c]⟩ ∧ y = .str z ∧ Q (.bl (decide (c ∈ z.cps.toList))) H, fun _ F H v u d d' Q R fh h1 h2 hf ha => by
    unfold fInSg at hf
    split at hf
    · obtain ⟨c, rfl, q⟩ := hf
      exact ⟨c, _, h1.str, h2.str, ha.bl fh (by rw [Bool.false_bne] at q; exact q)⟩
    · exact hf.elim, fun _ h => op_in_sign⟩
def fSlS (d : D) (lo hi : Option Int) (Q : Sl → Prop) : Prop := match d with
  | .str z => z.length ≤ sizeLine ∧ Q (.ext (.str (cutS z lo hi)))
  | _ => False
def dSlS (ta : DT) (tl th : DTO) : DT := fun Ex env Q => ta Ex env fun x env1 => tl Ex env1 fun lo env2 => th Ex env2 fun hi env3 => wd env3 x fun d => fSlS d lo hi fun sl => Q sl env3
section
variable {G : GG} {N : List Str} {sc : SC} {k : Nat} {a : Expr} {ta : DT} {pos : Pos}
theorem de_sliceS {lo hi : Option Expr} {tl th : DTO} {p2 : Pos} (h : DE G N sc k a ta) (hl : DO' G N sc k lo tl) (hh : DO' G N sc k hi th) : DE G N sc k (.Subscript a (.Slice lo hi none p2) pos) (dSlS ta tl th) := ⟨fun W => by
  obtain ⟨te, p1, i1⟩ := h.ex W
  obtain ⟨tl', p2', i2⟩ := hl.ex W
  obtain ⟨th', p3, i3⟩ := hh.ex W
  refine ⟨tSl rSlS te tl' th', fun X S => pe_slice sl_str (p1 X S) (p2' X S) (p3 X S), fun e Ex hl env T F σ H Q R hh ht hR => ?_⟩
  refine i1 e Ex hl env T F σ H _ _ hh ht fun v H1 F1 env1 x hh1 q1 => ?_
  refine i2 e Ex hl env1 _ F1 σ H1 _ _ hh1 q1 fun lo' H2 F2 env2 hh2 q2 => ?_
  refine i3 e Ex hl env2 _ F2 σ H2 _ _ hh2 q2 fun hi' H3 F3 env3 hh3 q3 => ?_
  obtain ⟨d, rd, q4⟩ := hh3.wd (v := v) (sl := x) List.mem_cons_self q3
  have dn := hh3.pop.done hR
  cases d with
  | str z => exact ⟨z, rd.str, q4.1, dn.str hh3.fh q4.2⟩
  | _ => exact q4.elim⟩
def sgD (z : Str) : List D := z.cps.toList.map fun c => D.str ⟨#[c]⟩
def dSigns (t : DT) : DTI := fun Ex env Q => t Ex env fun x env1 => wd env1 x fun d => match d with
  | .str z => Q (sgD z) (fun _ => True) env1
  | _ => False
theorem di_signs {tg : Expr} (h : DE G N sc k a ta) : DI G N sc k tg a (dSigns ta) := ⟨fun W => by
  obtain ⟨te, p1, i1⟩ := h.ex W
  refine ⟨iStr te, fun X S => pi_str (p1 X S), fun e Ex hl env T F σ H Q R hh ht hR => ?_⟩
  refine i1 e Ex hl env T F σ H _ _ hh ht fun v H1 F1 env1 x hh1 q1 => ?_
  obtain ⟨d, rd, q2⟩ := hh1.wd (v := v) (sl := x) List.mem_cons_self q1
  cases d with
  | str z =>
    refine ⟨z, rd.str, hR _ H1 F1 env1 _ _ hh1.pop ?_ q2⟩
    intro e' env' T' F' σ' H' i hh' sm _
    have hl : (sgD z).length = z.cps.size := by
      unfold sgD
      rw [List.length_map, Array.length_toList]
    refine ⟨fun hi => by show z.cps.size ≤ i; omega, fun d hd => ?_⟩
    unfold sgD at hd
    rw [List.getElem?_map] at hd
    cases hc : z.cps.toList[i]? with
    | none => rw [hc] at hd; cases hd
    | some c =>
      rw [hc] at hd
      cases hd
      have hlt := (List.getElem?_eq_some_iff.1 hc).1
      rw [Array.length_toList] at hlt
      refine ⟨hlt, fun x2 H2 hy => ?_⟩
      obtain ⟨rfl, c', hc', rfl⟩ := hy
      rw [Array.getElem?_toList, hc'] at hc
      cases hc
      exact ⟨F', Grow.refl hh'.fh, rfl⟩
  | _ => exact q2.elim⟩
theorem de_gstr {x : Str} {z : Str} (h : ∃ t, G.mg x = some (.str z t)) (hg : GlS sc x := by rfl) (hd : (x == ("__debug__" : Str)) = false := by decide) : DE G N sc k (.Name x pos) (dC (.str z)) := by
  obtain ⟨t, h⟩ := h
  exact de_glob (v := .str z) hg h ⟨t, rfl⟩ (fun _ => rfl) hd
end
theorem dSigns_w (t : DT) (Ex : DX) (env : Env') (Q : List D → (Env' → Prop) → Env' → Prop) : dSigns t Ex env Q = t Ex env fun x env1 => wd env1 x fun d => match d with | .str z => Q (sgD z) (fun _ => True) env1 | _ => False := rfl
end HD
namespace LS
namespace WD
open PySem L2 HD PM
local macro_rules | `(tactic| and_intros) => `(tactic| try simp -dsimp only [↓sIf, ↓sRet, ↓retD_ext, ↓retD_lst, ↓retD_al, ↓sSet, ↓sSetE, ↓sAsg, ↓sDrop, ↓sNext, ↓sFor, ↓sRetN, ↓sCont, ↓sBreak, ↓dTest, ↓dOp, ↓dC, ↓dCons, ↓dNil, ↓dTup, ↓dLst, ↓frzDs, ↓frzD_ext, ↓frzD_lst, ↓frzD_al, ↓wd_ext, ↓wd_lst, ↓wd_al, ↓wds, ↓AtS_ext, ↓AtS_lst, ↓AtL, ↓fAdd, ↓fSub, ↓fMul, ↓fDiv, ↓fMod, ↓fPow, ↓fCmp, ↓fIn, ↓fEq_ii, ↓fEq_ss, ↓fEq_bb, ↓fEq_tt, ↓fEq_ll, ↓fNe_ii, ↓fNe_ss, ↓fNe_bb, ↓fNe_tt, ↓fNe_ll, ↓fIx_l, ↓fIx_t, ↓fIx_k, ↓fIx_f, ↓GetS_some, ↓NatS_some, ↓fSl, ↓fIsN, ↓fNotN, ↓D.knN, ↓dNot, ↓dAnd, ↓dOr, ↓dAndV_w, ↓dOrV_w, ↓dNotV, ↓dIf, ↓dNeg, ↓dChain_w, ↓BlS_bl, ↓dCall_w, ↓dCallJ_w, ↓anyAl, ↓frozs, ↓froz, ↓gSet, ↓gTupD, ↓gsCons, ↓gsNil, ↓dSeq, ↓seqD_tup, ↓seqD_elst, ↓seqD_lst, ↓seqD_al, ↓dRange1, ↓dRange2, ↓dZip, ↓dCB, ↓dLc, ↓dYes, ↓dNoPart, ↓dPart, ↓dSl, ↓fLen, ↓fMin, ↓fMax, ↓fSum, ↓fAll, ↓fAny, ↓fSorted, ↓fTuple, ↓fList, ↓dRg1, ↓dRg2, ↓dLstRg, ↓dTupRg, ↓dIndex, ↓fIdx, ↓dAppend_w, ↓dExtend_w, ↓extD_lst, ↓dPopAt_w, ↓popD_int, ↓dPop_w, ↓mutD_w, ↓sSetItem_w, ↓setD_int, ↓dSortSet, ↓dTable_w, ↓wipeE, finals1, finals2, finals3, finals4, finals5, finals6, fin1_ext, fin1_lst, List.getElem?_cons_zero, List.getElem?_cons_succ, List.getElem?_nil, List.set_cons_zero, List.set_cons_succ, List.cons_append, List.nil_append, List.append_nil, List.replicate_succ, List.replicate_zero, List.map_cons, List.map_nil, List.length_cons, List.length_nil, true_and, and_true, ite_true, ite_false, if_true, if_false, Bool.false_eq_true, decide_eq_true_eq, Sl.plain, D.isSq, eq_self_iff_true, forall_const, reduceIte, true_or, or_true, atI_0, atI_1, atI_2, atI_3, ixN_0, ixN_1, ixN_2, AtS_ext, AtS_lst, FzS_lst, FzS_ext, GetS_some, NatS_some, ↓fIsi1, ↓fIsi2, BoolS_some, HD.kb_non_tuple, HD.kb_non_list, HD.kb_non_bool, HD.kb_non_int, HD.kb_non_str, HD.kb_bl_tuple, HD.kb_bl_list, HD.kb_bl_bool, HD.kb_bl_int, HD.kb_bl_str, HD.kb_int_tuple, HD.kb_int_list, HD.kb_int_bool, HD.kb_int_int, HD.kb_int_str, HD.kb_str_tuple, HD.kb_str_list, HD.kb_str_bool, HD.kb_str_int, HD.kb_str_str, HD.kb_lst_tuple, HD.kb_lst_list, HD.kb_lst_bool, HD.kb_lst_int, HD.kb_lst_str, HD.kb_tup_tuple, HD.kb_tup_list, HD.kb_tup_bool, HD.kb_tup_int, HD.kb_tup_str, ↓sFz_w, ↓FzS_lst, ↓FzS_ext, ↓dSortSetL, ↓fAbs, ↓fInt, ↓fRepr, ↓fLtT, ↓sRaise, ↓sTryKeep, ↓dCallV_w, ↓dMeth, ↓fCount, ↓fSplit, ↓seq_setE, ↓seq_set, ↓seq_drop, ↓seq_asg, ↓seq_if, ↓seq_for, ↓dStep, ↓fStep, ↓fMulT, ↓fIsB, ↓fNotB, ↓sPar, ↓dEnum, ↓dListZip, ↓dNest, ↓sSeal, ↓dNApp, ↓retD_reg, ↓dLenSet, ↓fSum2, ↓seq_putD, ↓seq_sealD, ↓dDIn, ↓dDGet, ↓sPutD, ↓dDNew, ↓dDOne, ↓sSealD, ↓dKeys, ↓keyS_dk, ↓dExtT, ↓fSortD, ↓fInD, ↓fJoin, ↓fIntS, ↓fInSg, ↓fSlS, ↓dSlS, ↓dSigns_w, ↓dv0, ↓dw0, ↓dv1, ↓dw1, ↓dv2, ↓dw2, ↓dv3, ↓dw3, ↓dv4, ↓dw4, ↓dv5, ↓dw5, ↓dv6, ↓dw6, ↓dv7, ↓dw7, ↓dv8, ↓dw8, ↓dv9, ↓dw9, ↓dv10, ↓dw10, ↓dv11, ↓dw11, ↓dv12, ↓dw12, ↓dv13, ↓dw13, ↓dv14, ↓dw14, ↓dv15, ↓dw15, ↓dv16, ↓dw16, ↓dv17, ↓dw17, ↓dv18, ↓dw18, ↓dv19, ↓dw19])
abbrev tl (x : Str) : List Nat := x.cps.toList
def isDig (c : Nat) : Bool := decide (48 ≤ c ∧ c ≤ 57)
def figW (cs : List Nat) : List Nat := if cs.take 1 = [45] then cs.drop 1 else cs
def numW (cs : List Nat) (most : Nat) : Option Int :=
  if 1 ≤ (figW cs).length ∧ (figW cs).length ≤ most ∧ (figW cs).all isDig = true ∧ ¬ ((figW cs).take 1 = [48] ∧ cs ≠ [48]) then some (if cs.take 1 = [45] then -((NumText.digitsVal (figW cs) : Nat) : Int) else ((NumText.digitsVal (figW cs) : Nat) : Int)) else none
def oI : Option Int → D
  | some i => .int i
  | none => .non
theorem eq_tl {x y : Str} (h : tl x = tl y) : x = y := TL.ext_tl h
theorem len_tl (x : Str) : x.length = (tl x).length := TL.len_tl x
theorem tl_cut1 (x : Str) : tl (cutS x none (some 1)) = (tl x).take 1 := by
  show ((tl x).drop (HT.sIx x.length 0 none)).take (HT.sIx x.length x.length (some 1) - HT.sIx x.length 0 none) = _
  rw [HT.sIx_none, show (1 : Int) = ((1 : Nat) : Int) from rfl, HT.sIx_nat, List.drop_zero, Nat.sub_zero, len_tl]
  by_cases h : 1 ≤ (tl x).length
  · rw [Nat.min_eq_left h]
  · rw [Nat.min_eq_right (by omega), List.take_of_length_le (Nat.le_refl _), List.take_of_length_le (by omega)]
theorem tl_cutr (x : Str) : tl (cutS x (some 1) none) = (tl x).drop 1 := by
  show ((tl x).drop (HT.sIx x.length 0 (some 1))).take (HT.sIx x.length x.length none - HT.sIx x.length 0 (some 1)) = _
  rw [HT.sIx_none, show (1 : Int) = ((1 : Nat) : Int) from rfl, HT.sIx_nat, len_tl]
  by_cases h : 1 ≤ (tl x).length
  · rw [Nat.min_eq_left h, List.take_of_length_le (by rw [List.length_drop]; exact Nat.le_refl _)]
  · rw [Nat.min_eq_right (by omega), List.drop_of_length_le (Nat.le_refl _), List.take_nil, List.drop_of_length_le (by omega)]
theorem beq_tl (x y : Str) : (x == y) = decide (tl x = tl y) := by
  rw [Bool.eq_iff_iff, beq_iff_eq, decide_eq_true_eq]
  exact ⟨fun h => by rw [h], eq_tl⟩
theorem dig_in (c : Nat) : decide (c ∈ tl "0123456789") = isDig c := by
  have e : tl "0123456789" = [48, 49, 50, 51, 52, 53, 54, 55, 56, 57] := by decide +kernel
  rw [e]
  unfold isDig
  refine decide_eq_decide.2 ?_
  simp only [List.mem_cons, List.not_mem_nil, or_false]
  omega
def sp_number_of : DSpec := fun args Q _ => ∃ (x : Str) (most : Nat), args = [.ext (.str x), dI (most : Nat)] ∧ x.length ≤ 100000 ∧ most ≤ 13 ∧ ∀ fin, Q (.ext (oI (numW (tl x) most))) fin
def e1_number_of : DT :=
    (dOp (fInSg false) (dVar 3) (dC (.str "0123456789")))
def k2_number_of : DTS :=
    (sRet (dCB fIntS (dCons (dVar 0) dNil)))
def k3_number_of : DTS :=
    (sSeq (sIf (dAnd (dTest (dOp fEq (dOp fIx (dVar 2) (dC (.int 0))) (dC (.str (Str.ofString "0"))))) (dTest (dOp fNe (dVar 0) (dC (.str (Str.ofString "0")))))) (sRet (dC .non)) sNext)
    k2_number_of)
def k4_number_of : DTS :=
    (sSeq (sIf (dOr (dNot (dTest (dChain (fCmp fun i j => decide (i ≤ j)) (fCmp fun i j => decide (i ≤ j)) (dC (.int 1)) (dCB fLen (dCons (dVar 2) dNil)) (dVar 1)))) (dNot (dTest (dCB fAll (dCons (dLc (dSigns (dVar 2)) (gSet 3) dYes e1_number_of [3]) dNil))))) (sRet (dC .non)) sNext)
    k3_number_of)
def t_number_of : DTS :=
    (sSeq (sSetE 2 (dIf (dTest (dOp fEq (dSlS (dVar 0) dNoPart (dPart (dC (.int 1)))) (dC (.str (Str.ofString "-"))))) (dSlS (dVar 0) (dPart (dC (.int 1))) dNoPart) (dVar 0)))
    k4_number_of)
theorem k2_ok {Ex : DX} {E : DEnds} {x : Str} {u1 u2 u3 : Sl} {fs : List Nat} (hl : x.length ≤ 14) (h : (tl x = fs ∧ tl x ≠ [] ∧ tl x ≠ [45] ∧ (tl x).take 1 ≠ [45]) ∨ tl x = 45 :: fs) (h0 : fs ≠ []) (hd : fs.all isDig = true)
    (hQ : ∀ env, E.rt (.ext (.int (if (tl x).take 1 = [45] then -((NumText.digitsVal fs : Nat) : Int) else ((NumText.digitsVal fs : Nat) : Int)))) env) : k2_number_of Ex E [.ext (.str x), u1, u2, u3] := by
  have hD : NumText.AllDigits fs := fun c hc => of_decide_eq_true (List.all_eq_true.1 hd c hc)
  unfold k2_number_of
  and_intros
  rcases h with ⟨rfl, _, _, h3⟩ | h
  · rw [if_neg h3] at hQ
    refine ⟨_, intText_digits hD h0 (by omega), by omega, hQ _⟩
  · rw [h, if_pos (show List.take 1 (45 :: fs) = [45] from rfl)] at hQ
    exact ⟨_, intText_neg h hD h0 (by omega), by omega, hQ _⟩
theorem sg_map (x : Str) : sgD x = (tl x).map fun c => D.str ⟨#[c]⟩ := rfl
theorem k4_ok {Ex : DX} {E : DEnds} {x f : Str} {most : Nat} (hl : x.length ≤ 100000) (hm : most ≤ 13) (hf : tl f = figW (tl x)) (hQ : ∀ env, E.rt (.ext (oI (numW (tl x) most))) env) : k4_number_of Ex E [.ext (.str x), dI (most : Nat), .ext (.str f), .un] := by
  have hfl : f.length = (figW (tl x)).length := by rw [len_tl, hf]
  have hfx : (figW (tl x)).length ≤ (tl x).length := by
    unfold figW
    split
    · rw [List.length_drop]; omega
    · exact Nat.le_refl _
  have hfx2 : (tl x).length ≤ (figW (tl x)).length + 1 := by
    unfold figW
    split
    · rw [List.length_drop]; omega
    · omega
  have hlx := len_tl x
  unfold k4_number_of
  and_intros
  refine ⟨Nat.le_trans (show _ ≤ 100000 by omega) (by decide), ?_⟩
  by_cases h1 : 1 ≤ f.length
  rotate_left
  · rw [if_neg (by omega), if_pos (by decide)]
    have : numW (tl x) most = none := if_neg fun z => h1 (by rw [hfl]; exact z.1)
    rw [this] at hQ
    exact hQ _
  rw [if_pos (by omega)]
  by_cases h2 : f.length ≤ most
  rotate_left
  · rw [if_pos (by simp; omega)]
    have : numW (tl x) most = none := if_neg fun z => h2 (by rw [hfl]; exact z.2.1)
    rw [this] at hQ
    exact hQ _
  rw [if_neg (by simp; omega)]
  have dl : (tl f).length ≤ 13 := by rw [← len_tl]; omega
  rw [sg_map]
  refine lc_map (fun c : Nat => D.str ⟨#[c]⟩) (fun c => .bl (isDig c)) True.intro (tl f) (Nat.le_trans dl (by decide)) (fun c hc R hR => ?_) fun b => ?_
  · unfold e1_number_of
    and_intros
    refine ⟨c, rfl, ?_⟩
    rw [Bool.false_bne, dig_in]
    exact hR
  and_intros
  refine ⟨(tl f).map isDig, by rw [List.map_map]; rfl, ?_⟩
  rw [List.all_map]
  rw [show (id ∘ isDig) = isDig from rfl, hf]
  by_cases h3 : (figW (tl x)).all isDig = true
  rotate_left
  · rw [if_pos (by simp only [h3]; rfl)]
    have : numW (tl x) most = none := if_neg fun z => h3 z.2.2.1
    rw [this] at hQ
    exact hQ _
  rw [if_neg (by rw [h3]; decide)]
  unfold k3_number_of
  and_intros
  obtain ⟨c, r, ef⟩ : ∃ c r, tl f = c :: r := by
    cases e : tl f with
    | nil => rw [len_tl, e] at h1; exact absurd h1 (by decide)
    | cons c r => exact ⟨c, r, rfl⟩
  refine ⟨Nat.le_trans (show _ ≤ 100000 by omega) (by decide), c, by rw [show f.cps.toList = c :: r from ef]; exact atN (xs := c :: r) (n := 0) rfl, ?_⟩
  and_intros
  have hne : figW (tl x) ≠ [] := fun z => by rw [← hf, ef] at z; cases z
  have hfe : figW (tl x) = c :: r := by rw [← hf, ef]
  have go : ∀ u1 u2 u3, ¬ ((figW (tl x)).take 1 = [48] ∧ tl x ≠ [48]) → k2_number_of Ex E [.ext (.str x), u1, u2, u3] := fun u1 u2 u3 hz => by
    have hnum : numW (tl x) most = some (if (tl x).take 1 = [45] then -((NumText.digitsVal (figW (tl x)) : Nat) : Int) else ((NumText.digitsVal (figW (tl x)) : Nat) : Int)) := if_pos ⟨by omega, by omega, h3, hz⟩
    rw [hnum] at hQ
    refine k2_ok (fs := figW (tl x)) (by omega) ?_ hne h3 hQ
    by_cases h : (tl x).take 1 = [45]
    · right
      unfold figW
      rw [if_pos h]
      cases hx : tl x with
      | nil => rw [hx] at h; cases h
      | cons a b =>
        rw [hx] at h
        have : a = 45 := (List.cons.inj h).1
        rw [this]
        rfl
    · left
      have e : figW (tl x) = tl x := by unfold figW; rw [if_neg h]
      refine ⟨e.symm, by rw [← e]; exact hne, fun z => h (by rw [z]; rfl), h⟩
  have hc0 : (({ cps := #[c] } : Str) == Str.ofString "0") = decide (c = 48) := by
    rw [beq_tl, show tl (Str.ofString "0") = [48] by decide +kernel]
    refine decide_eq_decide.2 ?_
    show [c] = [48] ↔ _
    exact ⟨fun z => (List.cons.inj z).1, fun z => by rw [z]⟩
  have hx0 : (x == Str.ofString "0") = decide (tl x = [48]) := by rw [beq_tl, show tl (Str.ofString "0") = [48] by decide +kernel]
  rw [hc0]
  by_cases h4 : c = 48
  rotate_left
  · rw [if_neg (by simpa using h4)]
    exact go _ _ _ fun z => h4 (by
      have := z.1
      rw [hfe] at this
      exact (List.cons.inj this).1)
  rw [if_pos (decide_eq_true h4), show (!x == Str.ofString "0") = !decide (tl x = [48]) by rw [hx0]]
  by_cases h5 : tl x = [48]
  · rw [if_neg (by simp [h5])]
    exact go _ _ _ fun z => z.2 h5
  · rw [if_pos (by simp [h5])]
    have : numW (tl x) most = none := if_neg fun z => z.2.2.2 ⟨by rw [hfe, h4]; rfl, h5⟩
    rw [this] at hQ
    exact hQ _
theorem m_number_of : Meets t_number_of 2 2 sp_number_of := by
  rintro args Qd Xd ⟨x, most, rfl, hl, hm, hQ⟩
  show t_number_of _ _ [_, _, .un, .un]
  unfold t_number_of
  and_intros
  have hz : x.length ≤ sizeLine := Nat.le_trans (show _ ≤ 100000 by omega) (by decide)
  refine ⟨hz, ?_⟩
  have hQ' : ∀ env, (endsOf [Sl.ext (D.str x), dI (most : Nat)] Qd).rt (.ext (oI (numW (tl x) most))) env := fun env => hQ _
  rw [beq_tl, tl_cut1, show tl (Str.ofString "-") = [45] by decide +kernel]
  by_cases h : (tl x).take 1 = [45]
  · rw [if_pos (decide_eq_true h)]
    exact ⟨hz, k4_ok hl hm (by rw [tl_cutr]; unfold figW; rw [if_pos h]) hQ'⟩
  · rw [if_neg fun z => h (of_decide_eq_true z)]
    exact k4_ok hl hm (by unfold figW; rw [if_neg h]) hQ'
end WD
end LS
namespace LS
open PySem L2 HD PM
def at' (ns f : List Nat) : List Nat := ns.map fun n => f.getD n 0
end LS
namespace HD
open PySem PyProof.Rows L2
section
variable {G : GG} {N : List Str} {sc : SC} {k : Nat} {a : Expr} {ta : DT} {p p2 pos pos2 : Pos}
def dSortSetB (t : DT) : DT := fun Ex env Q => t Ex env fun x env1 => wd env1 x fun d => match d with
  | .lst ds => ∃ ns : List Int, ds = ns.map D.int ∧ ns.length < 3000 ∧ (∀ n ∈ ns, 0 ≤ n ∧ n < 60) ∧ ∀ (ns' : List Int) (b : Addr), ns'.Pairwise (· < ·) → (∀ n : Int, n ∈ ns' ↔ n ∈ ns) → Q (.lst b (ns'.map D.int)) env1
  | _ => False
end
end HD
namespace HD
open PySem PyProof.Rows L2
section
variable {G : GG} {N : List Str} {sc : SC} {k kf n : Nat} {e o a : Expr} {es : List Expr} {p pos apos : Pos} {st : Stmt} {t : DTS} {ta : DT}
def sSetG (i : Nat) (t : DT) : DTS := fun Ex E env => t Ex env fun x env1 => match x with
  | .lst a ds => E.nx (env1.set i (.reg (.val (.ref a)) [(a, .lst ds)]))
  | .reg d cs => E.nx (env1.set i (.reg d cs))
  | _ => False
def dExtTR (t te : DT) : DT := fun Ex env Q => t Ex env fun x env1 => cellS env1 x lstK ∧ te Ex env1 fun y env2 => match y with
  | .ext (.tup es) => cellS env2 x fun i b r cs oc => lstO oc fun ds => ds.length + es.length ≤ sizeLine ∧ Q (.ext .non) (env2.set i (.reg r (putC cs b (.lst (ds ++ es)))))
  | _ => False
end
theorem seq_setG (i : Nat) (t : DT) (u : DTS) (Ex : DX) (E : DEnds) (env : Env') : sSeq (sSetG i t) u Ex E env = sSetG i t Ex { E with nx := fun env1 => u Ex E env1 } env := rfl
theorem seq_setA (i : Nat) (t : DT) (u : DTS) (Ex : DX) (E : DEnds) (env : Env') : sSeq (sSetA i t) u Ex E env = sSetA i t Ex { E with nx := fun env1 => u Ex E env1 } env := rfl
theorem seq_attr (c f : Str) (fz : Bool) (t te : DT) (u : DTS) (Ex : DX) (E : DEnds) (env : Env') : sSeq (sAttr c f fz t te) u Ex E env = sAttr c f fz t te Ex { E with nx := fun env1 => u Ex E env1 } env := rfl
theorem seq_setR (fz : Bool) (t tI te : DT) (u : DTS) (Ex : DX) (E : DEnds) (env : Env') : sSeq (sSetR fz t tI te) u Ex E env = sSetR fz t tI te Ex { E with nx := fun env1 => u Ex E env1 } env := rfl
theorem seq_putR (fz : Bool) (t tI te : DT) (u : DTS) (Ex : DX) (E : DEnds) (env : Env') : sSeq (sPutR fz t tI te) u Ex E env = sPutR fz t tI te Ex { E with nx := fun env1 => u Ex E env1 } env := rfl
theorem seq_putTR (fz : Bool) (t tI te : DT) (u : DTS) (Ex : DX) (E : DEnds) (env : Env') : sSeq (sPutTR fz t tI te) u Ex E env = sPutTR fz t tI te Ex { E with nx := fun env1 => u Ex E env1 } env := rfl
end HD
namespace HD
open PySem L2
def RegS (o : Option Sl) (k : D → Cells → Prop) (_ : Tok k) : Prop := match o with
  | some (.reg d cs) => k d cs
  | _ => False
def CellS (o : Option OC) (k : OC → Prop) (_ : Tok k) : Prop := match o with
  | some oc => k oc
  | none => False
def RefS (o : Option Sl) (k1 : Addr → Prop) (k2 : Nat → Addr → Prop) (_ : Tok k1) (_ : Tok k2) : Prop := match o with
  | some (.reg d _) => ∃ q, rootOf d = some q ∧ k1 q
  | some (.ar j q) => k2 j q
  | _ => False
theorem RegS_reg (d : D) (cs : Cells) (k : D → Cells → Prop) (t : Tok k) : RegS (some (.reg d cs)) k t = k d cs := rfl
theorem CellS_some (oc : OC) (k : OC → Prop) (t : Tok k) : CellS (some oc) k t = k oc := rfl
theorem RefS_reg (a : Addr) (cs : Cells) (k1 : Addr → Prop) (k2 : Nat → Addr → Prop) (t : Tok k1) (u : Tok k2) : RefS (some (.reg (.val (.ref a)) cs)) k1 k2 t u = k1 a :=
  propext ⟨fun ⟨q, e, h⟩ => by cases e; exact h, fun h => ⟨a, rfl, h⟩⟩
theorem RefS_ar (j : Nat) (a : Addr) (k1 : Addr → Prop) (k2 : Nat → Addr → Prop) (t : Tok k1) (u : Tok k2) : RefS (some (.ar j a)) k1 k2 t u = k2 j a := rfl
theorem dVarR_w (i : Nat) (Ex : DX) (env : Env') (Q : Sl → Env' → Prop) : dVarR i Ex env Q = RefS env[i]? (fun q => Q (.ar i q) env) (fun j q => Q (.ar j q) env) .mk .mk := rfl
theorem cellS_ar (env : Env') (i : Nat) (b : Addr) (k : Nat → Addr → D → Cells → OC → Prop) : cellS env (.ar i b) k = RegS env[i]? (fun d cs => CellS (cellOf cs b) (fun oc => k i b d cs oc) .mk) .mk := by
  unfold RegS CellS cellS
  dsimp only <;> (rcases env[i]? with _ | s <;> first | rfl | (cases s <;> rfl))
theorem wd_ar (env : Env') (i : Nat) (b : Addr) (k : D → Prop) : wd env (.ar i b) k = RegS env[i]? (fun _ cs => CellS (cellOf cs b) (fun oc => lstO oc fun ds => k (.lst ds)) .mk) .mk := by
  unfold RegS CellS lstO wd
  dsimp only <;> (rcases env[i]? with _ | s <;> first | rfl | (cases s <;> first | rfl | (rename_i d cs; dsimp only <;> (rcases cellOf cs b with _ | oc <;> first | rfl | (cases oc <;> rfl)))))
theorem seqD_ar (env : Env') (i : Nat) (b : Addr) (q : List D → (Env' → Prop) → Prop) : seqD env (.ar i b) q = RegS env[i]? (fun _ cs => CellS (cellOf cs b) (fun oc => lstO oc fun ds => q ds (atC i b ds)) .mk) .mk := by
  unfold RegS CellS lstO seqD iterD
  dsimp only <;> (rcases env[i]? with _ | s <;> first | rfl | (cases s <;> first | rfl | (rename_i d cs; dsimp only <;> (rcases cellOf cs b with _ | oc <;> first | rfl | (cases oc <;> rfl)))))
theorem lstO_lst (ds : List D) (k : List D → Prop) : lstO (.lst ds) k = k ds := rfl
theorem insO_ins (c : Str) (dx : Addr) (fs : List (Str × D)) (k : Str → Addr → List (Str × D) → Prop) : insO (.ins c dx fs) k = k c dx fs := rfl
theorem dkO_dk (kvs : List (Key × D)) (k : List (Key × D) → Prop) : dkO (.dk kvs) k = k kvs := rfl
theorem dkO_lk (od : Obj) (vs : List (Key × V)) (kvs : List (Key × D)) (k : List (Key × D) → Prop) : dkO (.lkK od vs kvs) k = k kvs := rfl
theorem dtO_dt (kvs : List (List Int × D)) (k : List (List Int × D) → Prop) : dtO' (.dt kvs) k = k kvs := rfl
theorem dtO_lk (od : Obj) (kbs : List (List Int × Addr × V)) (kvs : List (List Int × D)) (k : List (List Int × D) → Prop) : dtO' (.lkT od kbs kvs) k = k kvs := rfl
theorem dkW_dk (kvs : List (Key × D)) (k : List (Key × D) → Prop) : dkW (.dk kvs) k = k kvs := rfl
theorem dtW_dt (kvs : List (List Int × D)) (k : List (List Int × D) → Prop) : dtW (.dt kvs) k = k kvs := rfl
theorem stoS_ext (fz : Bool) (env : Env') (d : D) (k : D → Cells → Env' → Prop) : stoS fz env (.ext d) k = k d [] env := rfl
theorem stoS_reg (fz : Bool) (env : Env') (d : D) (cs : Cells) (k : D → Cells → Env' → Prop) : stoS fz env (.reg d cs) k = k d cs env := rfl
theorem stoS_lstT (env : Env') (p : Addr) (ds : List D) (k : D → Cells → Env' → Prop) : stoS true env (.lst p ds) k = k (.lst ds) [] env := by
  simp [stoS]
theorem stoS_lstF (env : Env') (p : Addr) (ds : List D) (k : D → Cells → Env' → Prop) : stoS false env (.lst p ds) k = k (.val (.ref p)) [(p, .lst ds)] env := by
  simp [stoS]
theorem stoS_al (fz : Bool) (env : Env') (i : Nat) (a : Addr) (k : D → Cells → Env' → Prop) : stoS fz env (.al i a) k = AtL env[i]? fun b ds => b = a ∧ k (.lst ds) [] (env.set i (.ext (.lst ds))) := by
  simp only [AtL, ← AtL_eq] <;> rfl
theorem ptrD_ref (i : Nat) (q : Addr) : ptrD i (.val (.ref q)) = .ar i q := rfl
theorem ptrD_int (i : Nat) (n : Int) : ptrD i (.int n) = .ext (.int n) := rfl
theorem ptrD_str (i : Nat) (n : Str) : ptrD i (.str n) = .ext (.str n) := rfl
theorem ptrD_bl (i : Nat) (n : Bool) : ptrD i (.bl n) = .ext (.bl n) := rfl
theorem ptrD_non (i : Nat) : ptrD i .non = .ext .non := rfl
theorem ptrD_tup (i : Nat) (ds : List D) : ptrD i (.tup ds) = .ext (.tup ds) := rfl
theorem ptrD_tk (i : Nat) (ds : List D) : ptrD i (.tk ds) = .ext (.tk ds) := rfl
theorem ptrD_lst (i : Nat) (ds : List D) : ptrD i (.lst ds) = .ext (.lst ds) := rfl
theorem ptrD_fz (i : Nat) (ds : List D) : ptrD i (.fz ds) = .ext (.fz ds) := rfl
def setGS (i : Nat) (x : Sl) (env1 : Env') (k : Env' → Prop) : Prop := match x with
  | .lst a ds => k (env1.set i (.reg (.val (.ref a)) [(a, .lst ds)]))
  | .reg d cs => k (env1.set i (.reg d cs))
  | _ => False
theorem sSetG_w (i : Nat) (t : DT) (Ex : DX) (E : DEnds) (env : Env') : sSetG i t Ex E env = t Ex env fun x env1 => setGS i x env1 E.nx := rfl
theorem setGS_lst (i : Nat) (a : Addr) (ds : List D) (env1 : Env') (k : Env' → Prop) : setGS i (.lst a ds) env1 k = k (env1.set i (.reg (.val (.ref a)) [(a, .lst ds)])) := rfl
theorem setGS_reg (i : Nat) (d : D) (cs : Cells) (env1 : Env') (k : Env' → Prop) : setGS i (.reg d cs) env1 k = k (env1.set i (.reg d cs)) := rfl
def setAS (i : Nat) (x : Sl) (env1 : Env') (k : Env' → Prop) : Prop := match x with
  | .ar j b => k (env1.set i (.ar j b))
  | .ext d => k (env1.set i (.ext d))
  | _ => False
theorem sSetA_w (i : Nat) (t : DT) (Ex : DX) (E : DEnds) (env : Env') : sSetA i t Ex E env = t Ex env fun x env1 => setAS i x env1 E.nx := rfl
theorem setAS_ar (i j : Nat) (b : Addr) (env1 : Env') (k : Env' → Prop) : setAS i (.ar j b) env1 k = k (env1.set i (.ar j b)) := rfl
theorem setAS_ext (i : Nat) (d : D) (env1 : Env') (k : Env' → Prop) : setAS i (.ext d) env1 k = k (env1.set i (.ext d)) := rfl
def intS (y : Sl) (k : Int → Prop) : Prop := match y with
  | .ext (.int n) => k n
  | _ => False
theorem intS_int (n : Int) (k : Int → Prop) : intS (.ext (.int n)) k = k n := rfl
theorem dIxR_w (t te : DT) (Ex : DX) (env : Env') (Q : Sl → Env' → Prop) : dIxR t te Ex env Q = t Ex env fun x env1 => te Ex env1 fun y env2 => intS y fun n => cellS env2 x fun i _ _ _ oc => lstO oc fun ds => GetS (atI ds n) (fun d => Q (ptrD i d) env2) .mk := rfl
def tupS (y : Sl) (k : List D → Prop) : Prop := match y with
  | .ext (.tup es) => k es
  | _ => False
theorem tupS_tup (es : List D) (k : List D → Prop) : tupS (.ext (.tup es)) k = k es := rfl
theorem dExtTR_w (t te : DT) (Ex : DX) (env : Env') (Q : Sl → Env' → Prop) : dExtTR t te Ex env Q = t Ex env fun x env1 => cellS env1 x lstK ∧ te Ex env1 fun y env2 => tupS y fun es => cellS env2 x fun i b r cs oc => lstO oc fun ds => ds.length + es.length ≤ sizeLine ∧ Q (.ext .non) (env2.set i (.reg r (putC cs b (.lst (ds ++ es))))) := rfl
def lstS (d : D) (k : List D → Prop) : Prop := match d with
  | .lst es => k es
  | _ => False
theorem lstS_lst (es : List D) (k : List D → Prop) : lstS (.lst es) k = k es := rfl
theorem dExtR_w (t te : DT) (Ex : DX) (env : Env') (Q : Sl → Env' → Prop) : dExtR t te Ex env Q = t Ex env fun x env1 => cellS env1 x lstK ∧ te Ex env1 fun y env2 => wd env2 y fun d2 => lstS d2 fun es => cellS env2 x fun i b r cs oc => lstO oc fun ds => ds.length + es.length ≤ sizeLine ∧ Q (.ext .non) (env2.set i (.reg r (putC cs b (.lst (ds ++ es))))) := rfl
theorem dPopR_w (t : DT) (Ex : DX) (env : Env') (Q : Sl → Env' → Prop) : dPopR t Ex env Q = t Ex env fun x env1 => cellS env1 x fun i b r cs oc => lstO oc fun ds => GetS ds[ds.length - 1]? (fun d => Q (ptrD i d) (env1.set i (.reg r (putC cs b (.lst ds.dropLast))))) .mk := rfl
end HD
namespace HD
open PySem L2
section
variable {K : PySem.W.Frag}
theorem cellOf_of {cs : Cells} {b : Addr} {oc : OC} (nd : (cs.map (·.1)).Nodup) (h : (b, oc) ∈ cs) : cellOf cs b = some oc := by
  induction cs with
  | nil => cases h
  | cons p r ih =>
    obtain ⟨n1, n2⟩ := List.nodup_cons.1 nd
    show (if p.1 = b then some p.2 else cellOf r b) = _
    rcases List.mem_cons.1 h with rfl | h
    · exact if_pos rfl
    · rw [if_neg fun z : p.1 = b => n1 (z ▸ List.mem_map.2 ⟨_, h, rfl⟩ : p.1 ∈ r.map (·.1))]
      exact ih n2 h
theorem cellS_i {o : Option OC} {oc : OC} {k : OC → Prop} {t : Tok k} (e : o = some oc) (h : k oc) : CellS o k t := by
  subst e
  exact h
end
end HD
namespace HD
open PySem PyProof.Rows L2
section
variable {G : GG} {N : List Str} {sc : SC} {tpos : Pos}
def gLstD (n : Nat) (t : DTGs) : DTG := fun d env Q => match d with
  | .lst ds => ds.length = n ∧ t ds env Q
  | _ => False
end
end HD
namespace HD
open PySem PyProof.Rows L2
def deepD (cs : Cells) : Nat → D → D
  | 0, d => d
  | n + 1, .val (.ref b) => match cellOf cs b with
    | some (.lst ds) => .lst (ds.map (deepD cs n))
    | _ => .val (.ref b)
  | n + 1, .lst ds => .lst (ds.map (deepD cs n))
  | n + 1, .tup ds => .tup (ds.map (deepD cs n))
  | _ + 1, d => d
def regC (env : Env') (i : Nat) (k : Cells → Prop) : Prop := match env[i]? with
  | some (.reg _ cs) => k cs
  | _ => False
def dCallD (i n : Nat) (spec : DSpec) (ta : DTA) : DT := fun Ex env Q => ta Ex env fun xs env1 => wds env1 xs fun ds => regC env1 i fun cs =>
  spec ((ds.map (deepD cs n)).map .ext) (fun r _ => r.imm = true ∧ r.plain ∧ Q r env1) (fun c _ => Ex c env1)
theorem regC_reg (env : Env') (i : Nat) (k : Cells → Prop) : regC env i k = RegS env[i]? (fun _ cs => k cs) .mk := by
  first | rfl | (unfold regC RegS <;> rfl)
theorem dMoveR_w (i : Nat) (Ex : DX) (env : Env') (Q : Sl → Env' → Prop) : dMoveR i Ex env Q = RegS env[i]? (fun d cs => Q (.reg d cs) (env.set i .un)) .mk := by
  first | rfl | (unfold dMoveR RegS <;> rfl)
theorem froz_lst (env : Env') (a : Addr) (ds : List D) (q : D → Prop) : froz env (.lst a ds) q = q (.lst ds) := rfl
theorem froz_ext (env : Env') (d : D) (q : D → Prop) : froz env (.ext d) q = q d := rfl
def dMoveL (i : Nat) : DT := fun _ env Q => AtL env[i]? fun a ds => Q (.lst a ds) (env.set i .un)
section
variable {G : GG} {N : List Str} {sc : SC} {k : Nat} {a b : Expr} {ta tb : DT} {p p2 pos pos2 apos cpos : Pos}
def dDictP (ta : DT) : DT := fun Ex env Q => ta Ex env fun x env1 => froz env1 x fun d => match d with
  | .lst xs => ∃ kvs : List (List Int × D), xs = kvs.map (fun p => D.tup [kT p.1, p.2]) ∧ (kvs.map (·.1)).Nodup ∧ ∀ a, Q (dtS a kvs) env1
  | _ => False
end
def upK (kvs more : List (List Int × D)) : List (List Int × D) := more.foldl (fun acc p => ptK acc p.1 p.2) kvs
section
variable {G : GG} {N : List Str} {sc : SC} {k : Nat} {a b : Expr} {ta tb : DT} {apos cpos : Pos}
def dUpdTR (t te : DT) : DT := fun Ex env Q => t Ex env fun x env1 => cellS env1 x dtK ∧ te Ex env1 fun y env2 => cellS env2 x fun i b r cs oc => dtW oc fun kvs => ∃ b2 more, y = dtS b2 more ∧ (kvs ≠ [] ∨ (more.map fun p => hT p.1).Nodup) ∧ kvs.length + more.length ≤ sizeLine ∧
  Q (.ext .non) (env2.set i (.reg r (putC cs b (.dt (upK kvs more)))))
end
end HD
namespace LS
open PySem L2 HD
def hP (i j : Nat) : Int := hT [(i : Int), (j : Int)]
end LS
namespace LS
open PySem L2 HD PM
theorem putFD_app {f : Str} {d : D} : ∀ {fs : List (Str × D)}, (fs.map (·.1)).contains f = false → putFD f d fs = fs ++ [(f, d)]
  | [], _ => rfl
  | (g, e) :: r, h => by
    rw [List.map_cons, List.contains_cons, Bool.or_eq_false_iff] at h
    have hne : ¬ g = f := fun z => by
      have := h.1
      rw [z, beq_self_eq_true] at this
      cases this
    show (if g = f then _ else _) = _
    rw [if_neg hne, putFD_app h.2]
    rfl
theorem put2 {a dx : Addr} {x y z : OC} (h : a ≠ dx) : putC [(a, x), (dx, z)] a y = [(a, y), (dx, z)] := by
  show [if a = a then (a, y) else (a, x), if dx = a then (a, y) else (dx, z)] = _
  rw [if_pos rfl, if_neg (Ne.symm h)]
theorem objS_i {c m : Str} {env : Env'} {i : Nat} {a dx : Addr} {d : D} {cs : Cells} {fs : List (Str × D)} (h1 : env[i]? = some (.reg d cs)) (h2 : cellOf cs a = some (.ins c dx fs)) (h3 : luK fs m = none) : objS c m env (.ar i a) := by
  show cellS env (.ar i a) (insK c m)
  rw [cellS_ar, h1]
  show CellS (cellOf cs a) (fun oc => insK c m i a d cs oc) .mk
  exact cellS_i h2 ⟨rfl, h3⟩
end LS
namespace LS
namespace WD
open PySem L2 HD PM
open K01 (sp_product)
local macro_rules | `(tactic| and_intros) => `(tactic| try simp -dsimp only [↓sIf, ↓sRet, ↓retD_ext, ↓retD_lst, ↓retD_al, ↓sSet, ↓sSetE, ↓sAsg, ↓sDrop, ↓sNext, ↓sFor, ↓sRetN, ↓sCont, ↓sBreak, ↓dTest, ↓dOp, ↓dC, ↓dCons, ↓dNil, ↓dTup, ↓dLst, ↓frzDs, ↓frzD_ext, ↓frzD_lst, ↓frzD_al, ↓wd_ext, ↓wd_lst, ↓wd_al, ↓wds, ↓AtS_ext, ↓AtS_lst, ↓AtL, ↓fAdd, ↓fSub, ↓fMul, ↓fDiv, ↓fMod, ↓fPow, ↓fCmp, ↓fIn, ↓fEq_ii, ↓fEq_ss, ↓fEq_bb, ↓fEq_tt, ↓fEq_ll, ↓fNe_ii, ↓fNe_ss, ↓fNe_bb, ↓fNe_tt, ↓fNe_ll, ↓fIx_l, ↓fIx_t, ↓fIx_k, ↓fIx_f, ↓GetS_some, ↓NatS_some, ↓fSl, ↓fIsN, ↓fNotN, ↓D.knN, ↓dNot, ↓dAnd, ↓dOr, ↓dAndV_w, ↓dOrV_w, ↓dNotV, ↓dIf, ↓dNeg, ↓dChain_w, ↓BlS_bl, ↓dCall_w, ↓dCallJ_w, ↓anyAl, ↓frozs, ↓froz, ↓gSet, ↓gTupD, ↓gsCons, ↓gsNil, ↓dSeq, ↓seqD_tup, ↓seqD_elst, ↓seqD_lst, ↓seqD_al, ↓dRange1, ↓dRange2, ↓dZip, ↓dCB, ↓dLc, ↓dYes, ↓dNoPart, ↓dPart, ↓dSl, ↓fLen, ↓fMin, ↓fMax, ↓fSum, ↓fAll, ↓fAny, ↓fSorted, ↓fTuple, ↓fList, ↓dRg1, ↓dRg2, ↓dLstRg, ↓dTupRg, ↓dIndex, ↓fIdx, ↓dAppend_w, ↓dExtend_w, ↓extD_lst, ↓dPopAt_w, ↓popD_int, ↓dPop_w, ↓mutD_w, ↓sSetItem_w, ↓setD_int, ↓dSortSet, ↓dTable_w, ↓wipeE, finals1, finals2, finals3, finals4, finals5, finals6, fin1_ext, fin1_lst, List.getElem?_cons_zero, List.getElem?_cons_succ, List.getElem?_nil, List.set_cons_zero, List.set_cons_succ, List.cons_append, List.nil_append, List.append_nil, List.replicate_succ, List.replicate_zero, List.map_cons, List.map_nil, List.length_cons, List.length_nil, true_and, and_true, ite_true, ite_false, if_true, if_false, Bool.false_eq_true, decide_eq_true_eq, Sl.plain, D.isSq, eq_self_iff_true, forall_const, reduceIte, true_or, or_true, atI_0, atI_1, atI_2, atI_3, ixN_0, ixN_1, ixN_2, AtS_ext, AtS_lst, FzS_lst, FzS_ext, GetS_some, NatS_some, ↓fIsi1, ↓fIsi2, BoolS_some, HD.kb_non_tuple, HD.kb_non_list, HD.kb_non_bool, HD.kb_non_int, HD.kb_non_str, HD.kb_bl_tuple, HD.kb_bl_list, HD.kb_bl_bool, HD.kb_bl_int, HD.kb_bl_str, HD.kb_int_tuple, HD.kb_int_list, HD.kb_int_bool, HD.kb_int_int, HD.kb_int_str, HD.kb_str_tuple, HD.kb_str_list, HD.kb_str_bool, HD.kb_str_int, HD.kb_str_str, HD.kb_lst_tuple, HD.kb_lst_list, HD.kb_lst_bool, HD.kb_lst_int, HD.kb_lst_str, HD.kb_tup_tuple, HD.kb_tup_list, HD.kb_tup_bool, HD.kb_tup_int, HD.kb_tup_str, ↓sFz_w, ↓FzS_lst, ↓FzS_ext, ↓dSortSetL, ↓fAbs, ↓fInt, ↓fRepr, ↓fLtT, ↓sRaise, ↓sTryKeep, ↓dCallV_w, ↓dMeth, ↓fCount, ↓fSplit, ↓seq_setE, ↓seq_set, ↓seq_drop, ↓seq_asg, ↓seq_if, ↓seq_for, ↓dStep, ↓fStep, ↓fMulT, ↓fIsB, ↓fNotB, ↓sPar, ↓dEnum, ↓dListZip, ↓dNest, ↓sSeal, ↓dNApp, ↓retD_reg, ↓dLenSet, ↓fSum2, ↓seq_putD, ↓seq_sealD, ↓dDIn, ↓dDGet, ↓sPutD, ↓dDNew, ↓dDOne, ↓sSealD, ↓dKeys, ↓keyS_dk, ↓dExtT, ↓fSortT, ↓fMinP, ↓dRemove, ↓dDInT, ↓dDGetT, ↓sPutDT, ↓dDNewT, ↓sSealDT, ↓dKeysT, ↓keyST_dt, ↓fSortK, ↓seq_putDT, ↓seq_sealDT, ↓dVarR_w, ↓dAttr, ↓dAppR, ↓dExtR_w, ↓dExtTR_w, ↓dClrR, ↓dPopR_w, ↓dIxR_w, ↓dDGetR, ↓dDInR, ↓dGet2R, ↓dPop1R, ↓dPop2R, ↓dDGetTR, ↓dDInTR, ↓dPop1TR, ↓dCallM, ↓dMethO, ↓dMake, ↓dMoveR, ↓dPtr, ↓sAttr, ↓sSetR, ↓sPutR, ↓sPutTR, ↓sSetA_w, ↓sSetG_w, ↓seq_setG, ↓seq_setA, ↓seq_attr, ↓seq_setR, ↓seq_putR, ↓seq_putTR, ↓RegS_reg, ↓CellS_some, ↓RefS_reg, ↓RefS_ar, ↓cellS_ar, ↓wd_ar, ↓seqD_ar, ↓lstO_lst, ↓insO_ins, ↓dkO_dk, ↓dkO_lk, ↓dtO_dt, ↓dtO_lk, ↓dkW_dk, ↓dtW_dt, ↓stoS_ext, ↓stoS_reg, ↓stoS_lstT, ↓stoS_lstF, ↓stoS_al, ↓ptrD_ref, ↓ptrD_int, ↓ptrD_str, ↓ptrD_bl, ↓ptrD_non, ↓ptrD_tup, ↓ptrD_tk, ↓ptrD_lst, ↓ptrD_fz, ↓setGS_lst, ↓setGS_reg, ↓setAS_ar, ↓setAS_ext, ↓intS_int, ↓tupS_tup, ↓lstS_lst, ↓lstK, ↓dkK, ↓dtK, ↓retD_reg, ↓dSortSetB, ↓fSortD, ↓fInD, ↓dCallD, ↓regC_reg, ↓dMoveL, ↓dMoveR_w, ↓dDictP, ↓froz_lst, ↓froz_ext, ↓dUpdTR, ↓gLstD, ↓fJoin, ↓fIntS, ↓fInSg, ↓fSlS, ↓dSlS, ↓dSigns_w, ↓dv0, ↓dw0, ↓dv1, ↓dw1, ↓dv2, ↓dw2, ↓dv3, ↓dw3, ↓dv4, ↓dw4, ↓dv5, ↓dw5, ↓dv6, ↓dw6, ↓dv7, ↓dw7, ↓dv8, ↓dw8, ↓dv9, ↓dw9, ↓dv10, ↓dw10, ↓dv11, ↓dw11, ↓dv12, ↓dw12, ↓dv13, ↓dw13, ↓dv14, ↓dw14, ↓dv15, ↓dw15, ↓dv16, ↓dw16, ↓dv17, ↓dw17, ↓dv18, ↓dw18, ↓dv19, ↓dw19])
inductive Pl where
  | sizes | names | worths
  deriving DecidableEq
def Pl.s : Pl → Str
  | .sizes => Str.ofString "sizes"
  | .names => Str.ofString "names"
  | .worths => Str.ofString "worths"
structure WS where
  sz : List Nat
  ps : List Part
  ns : List Nat
  ws : List Int
  pl : Pl
structure WA where
  s : Addr
  p : Addr
  n : Addr
  w : Addr
def wdF (A : WA) (W : WS) : List (Str × D) := [("sizes", .val (.ref A.s)), ("parts", .val (.ref A.p)), ("names", .val (.ref A.n)), ("worths", .val (.ref A.w)), ("place", .str W.pl.s)]
structure WdOk (a dx : Addr) (W : WS) (A : WA) (cs : Cells) : Prop where
  nd : (cs.map (·.1)).Nodup
  ne : [a, A.s, A.p, A.n, A.w].Nodup
  o : cellOf cs a = some (.ins "Words" dx (wdF A W))
  s : cellOf cs A.s = some (.lst (nD W.sz))
  p : cellOf cs A.p = some (.lst (W.ps.map dP))
  n : cellOf cs A.n = some (.lst (nD W.ns))
  w : cellOf cs A.w = some (.lst (iD W.ws))
structure WOk (W : WS) : Prop where
  few : W.sz.length ≤ 12
  siz : ∀ s ∈ W.sz, 1 ≤ s ∧ s ≤ 4
  pr : prodN W.sz ≤ 4000
  many : W.ps.length ≤ 24
  parts : ∀ p ∈ W.ps, p.Ok W.sz ∧ ∀ x ∈ p.ws, x.natAbs ≤ 10 ^ 12
  all : (W.ps.map fun p => p.ws.length).sum ≤ 2000
  rise : Rising W.ns
  lt : ∀ n ∈ W.ns, n < W.sz.length
  due : psz W.sz W.ns ≤ 2000
  room : (W.ps.map fun p => p.ws.length).sum + psz W.sz W.ns ≤ 2000
  m23 : W.pl ≠ .sizes → W.ps.length ≤ 23
  fresh : W.pl = .sizes → W.ps = [] ∧ W.ns = [] ∧ W.ws = []
  wl : W.ws.length ≤ psz W.sz W.ns
  wb : ∀ x ∈ W.ws, x.natAbs ≤ 10 ^ 12
abbrev wdQ (a : Addr) (cs : Cells) : Sl := .reg (.val (.ref a)) cs
section
variable {a dx : Addr} {W : WS} {A : WA} {cs : Cells}
theorem at_f (h : WdOk a dx W A cs) {f : Str} {d : D} {P : D → Prop} (h1 : luK (wdF A W) f = some d) (hP : P d) :
    CellS (cellOf cs a) (fun oc => insO oc fun c _ fs => c = Str.ofString "Words" ∧ ∃ d, luK fs f = some d ∧ P d) .mk := cellS_i h.o ⟨rfl, d, h1, hP⟩
theorem at_o (h : WdOk a dx W A cs) {P : Str → Addr → List (Str × D) → Prop} (hP : P "Words" dx (wdF A W)) : CellS (cellOf cs a) (fun oc => insO oc P) .mk := cellS_i h.o hP
theorem put_place (A : WA) (W : WS) (p : Pl) : putFD (Str.ofString "place") (.str p.s) (wdF A W) = wdF A { W with pl := p } := by
  unfold wdF
  rfl
theorem cmp_nl (l : List Nat) : (D.lst (nD l)).cmp := pi_cmp (k := 1) (by decide) (by rw [D.pi]; exact pi_nats 0 l)
theorem at_last (l : List Nat) (m : Nat) : atI (nD (l ++ [m])) (-1) = some (D.int (m : Nat)) := by
  have hl : (nD (l ++ [m])).length = l.length + 1 := by rw [nD_len, List.length_append, List.length_singleton]
  unfold atI
  rw [show ixN (nD (l ++ [m])).length (-1) = some l.length by
    rw [hl]
    unfold ixN
    simp
    omega]
  show (nD (l ++ [m]))[l.length]? = _
  rw [nD_app, List.getElem?_append_right (by rw [nD_len]; exact Nat.le_refl _), nD_len, Nat.sub_self]
  rfl
theorem a_sizes (h : WdOk a dx W A cs) {P : D → Prop} (hP : P (.val (.ref A.s))) : CellS (cellOf cs a) (fun oc => insO oc fun c _ fs => c = Str.ofString "Words" ∧ ∃ d, luK fs (Str.ofString "sizes") = some d ∧ P d) .mk := at_f h rfl hP
theorem a_parts (h : WdOk a dx W A cs) {P : D → Prop} (hP : P (.val (.ref A.p))) : CellS (cellOf cs a) (fun oc => insO oc fun c _ fs => c = Str.ofString "Words" ∧ ∃ d, luK fs (Str.ofString "parts") = some d ∧ P d) .mk := at_f h rfl hP
theorem a_names (h : WdOk a dx W A cs) {P : D → Prop} (hP : P (.val (.ref A.n))) : CellS (cellOf cs a) (fun oc => insO oc fun c _ fs => c = Str.ofString "Words" ∧ ∃ d, luK fs (Str.ofString "names") = some d ∧ P d) .mk := at_f h rfl hP
theorem a_worths (h : WdOk a dx W A cs) {P : D → Prop} (hP : P (.val (.ref A.w))) : CellS (cellOf cs a) (fun oc => insO oc fun c _ fs => c = Str.ofString "Words" ∧ ∃ d, luK fs (Str.ofString "worths") = some d ∧ P d) .mk := at_f h rfl hP
theorem a_place (h : WdOk a dx W A cs) {P : D → Prop} (hP : P (.str W.pl.s)) : CellS (cellOf cs a) (fun oc => insO oc fun c _ fs => c = Str.ofString "Words" ∧ ∃ d, luK fs (Str.ofString "place") = some d ∧ P d) .mk := at_f h rfl hP
end
theorem wcall0 {spec : DSpec} {Ex : DX} {env : Env'} {i : Nat} {a : Addr} {cs : Cells} {Q : Sl → Env' → Prop} (h1 : env[i]? = some (.reg (.val (.ref a)) cs))
    (h : spec [.reg (.val (.ref a)) cs] (fun r fin => r.plain ∧ giveM [.slot i] (env.set i .un) fin fun env2 => Q r env2) (fun c fin => giveM [.slot i] (env.set i .un) fin fun env2 => Ex c env2)) :
    callM spec [1] Ex env [.ar i a] Q := by
  show (match env[i]? with | some (.reg d cs) => rootOf d = some a ∧ _ | _ => False)
  rw [h1]
  exact ⟨rfl, h⟩
theorem wcall1 {spec : DSpec} {Ex : DX} {env : Env'} {i : Nat} {a : Addr} {cs : Cells} {d1 : D} {Q : Sl → Env' → Prop} (h1 : env[i]? = some (.reg (.val (.ref a)) cs))
    (h : spec [.reg (.val (.ref a)) cs, .ext d1] (fun r fin => r.plain ∧ giveM [.slot i, .no] (env.set i .un) fin fun env2 => Q r env2) (fun c fin => giveM [.slot i, .no] (env.set i .un) fin fun env2 => Ex c env2)) :
    callM spec [1, 0] Ex env [.ar i a, .ext d1] Q := by
  show (match env[i]? with | some (.reg d cs) => rootOf d = some a ∧ _ | _ => False)
  rw [h1]
  exact ⟨rfl, h⟩
theorem wcall2 {spec : DSpec} {Ex : DX} {env : Env'} {i : Nat} {a : Addr} {cs : Cells} {d1 d2 : D} {Q : Sl → Env' → Prop} (h1 : env[i]? = some (.reg (.val (.ref a)) cs))
    (h : spec [.reg (.val (.ref a)) cs, .ext d1, .ext d2] (fun r fin => r.plain ∧ giveM [.slot i, .no, .no] (env.set i .un) fin fun env2 => Q r env2) (fun c fin => giveM [.slot i, .no, .no] (env.set i .un) fin fun env2 => Ex c env2)) :
    callM spec [1, 0, 0] Ex env [.ar i a, .ext d1, .ext d2] Q := by
  show (match env[i]? with | some (.reg d cs) => rootOf d = some a ∧ _ | _ => False)
  rw [h1]
  exact ⟨rfl, h⟩
theorem fin_wd {a : Addr} {cs cs' : Cells} : fin1 (wdQ a cs) (some (wdQ a cs')) = wdQ a cs' := if_pos ⟨rfl, rfl⟩
def sp_Words_due : DSpec := fun args Q _ => ∃ (a dx : Addr) (W : WS) (A : WA) (cs : Cells), args = [wdQ a cs] ∧ WdOk a dx W A cs ∧ WOk W ∧ Q (dI (psz W.sz W.ns : Nat)) [wdQ a cs]
def e1_Words_due : DT :=
    (dIxR (dAttr "Words" "sizes" (dVarR 0)) (dVar 1))
def t_Words_due : DTS :=
    (sRet (dCall sp_product (dCons (dLc (dSeq (dAttr "Words" "names" (dVarR 0))) (gSet 1) dYes e1_Words_due [1]) dNil)))
theorem m_Words_due : Meets t_Words_due 1 1 sp_Words_due := by
  rintro args Qd Xd ⟨a, dx, W, A, cs, rfl, h, hW, hQ⟩
  show t_Words_due _ _ [_, .un]
  unfold t_Words_due
  and_intros
  refine a_names h ?_
  and_intros
  refine cellS_i h.n ?_
  and_intros
  have hnl : W.ns.length ≤ 12 := Nat.le_trans (rising_len hW.rise hW.lt) hW.few
  refine lc_map (fun n : Nat => D.int (n : Nat)) (fun n => D.int ((sz W.sz n : Nat) : Int)) ⟨_, _, rfl, h.n⟩ W.ns (Nat.le_trans (show _ ≤ 100 by omega) (by decide)) (fun n hn R hR => ?_) fun b => ?_
  · unfold e1_Words_due
    and_intros
    refine a_sizes h ?_
    and_intros
    refine cellS_i h.s ?_
    and_intros
    refine ⟨_, atN (sz_at (hW.lt n hn)), ?_⟩
    and_intros
    exact hR
  and_intros
  have e : (W.ns.map fun n => D.int ((sz W.sz n : Nat) : Int)) = nD (W.ns.map (sz W.sz)) := by rw [nD, List.map_map]; rfl
  rw [e]
  refine ⟨W.ns.map (sz W.sz), .inl rfl, fun x hx => ?_, Nat.lt_of_le_of_lt hW.due (by decide), fun fin => ?_⟩
  · obtain ⟨n, hn, rfl⟩ := List.mem_map.1 hx
    exact (hW.siz _ (sz_mem (hW.lt n hn))).1
  and_intros
  rw [fin_wd]
  exact hQ
def allW (ps : List Part) : Nat := (ps.map fun p => p.ws.length).sum
def sp_Words_left : DSpec := fun args Q _ => ∃ (a dx : Addr) (W : WS) (A : WA) (cs : Cells), args = [wdQ a cs] ∧ WdOk a dx W A cs ∧ W.ps.length ≤ 24 ∧ allW W.ps ≤ 2000 ∧ Q (dI ((2000 - allW W.ps : Nat) : Int)) [wdQ a cs]
def e1_Words_left : DT :=
    (dCB fLen (dCons (dOp fIx (dVar 1) (dC (.int 1))) dNil))
def t_Words_left : DTS :=
    (sRet (dOp fSub (dC (.int 2000)) (dCB fSum (dCons (dLc (dSeq (dAttr "Words" "parts" (dVarR 0))) (gSet 1) dYes e1_Words_left [1]) dNil))))
theorem m_Words_left : Meets t_Words_left 1 1 sp_Words_left := by
  rintro args Qd Xd ⟨a, dx, W, A, cs, rfl, h, hmany, hall, hQ⟩
  show t_Words_left _ _ [_, .un]
  unfold t_Words_left
  and_intros
  refine a_parts h ?_
  and_intros
  refine cellS_i h.p ?_
  and_intros
  refine lc_map dP (fun p => D.int ((p.ws.length : Nat) : Int)) ⟨_, _, rfl, h.p⟩ W.ps (Nat.le_trans (show _ ≤ 100 by omega) (by decide)) (fun p hp R hR => ?_) fun b => ?_
  · unfold e1_Words_left
    and_intros
    rw [iD_len]
    exact hR
  and_intros
  refine ⟨W.ps.map fun p => ((p.ws.length : Nat) : Int), by rw [List.map_map]; rfl, ?_⟩
  have e : (2000 - (W.ps.map fun p => ((p.ws.length : Nat) : Int)).sum) = ((2000 - allW W.ps : Nat) : Int) := by
    have h1 : (W.ps.map fun p => ((p.ws.length : Nat) : Int)).sum = ((allW W.ps : Nat) : Int) := by
      unfold allW
      generalize W.ps = l
      induction l with
      | nil => rfl
      | cons p l ih => rw [List.map_cons, List.sum_cons, ih, List.map_cons, List.sum_cons]; omega
    have h2 : allW W.ps ≤ 2000 := hall
    rw [h1]
    omega
  rw [e, fin_wd]
  exact hQ
def isDone (W : WS) : Bool := match W.pl with
  | .sizes => decide (0 < W.sz.length)
  | .names => false
  | .worths => decide (W.ws.length = psz W.sz W.ns)
theorem pl1 (p : Pl) : (p.s == Str.ofString "sizes") = decide (p = .sizes) := by cases p <;> decide +kernel
theorem pl2 (p : Pl) : (p.s == Str.ofString "names") = decide (p = .names) := by cases p <;> decide +kernel
theorem pl3 (p : Pl) : (p.s == Str.ofString "worths") = decide (p = .worths) := by cases p <;> decide +kernel
def sp_Words_is_done : DSpec := fun args Q _ => ∃ (a dx : Addr) (W : WS) (A : WA) (cs : Cells), args = [wdQ a cs] ∧ WdOk a dx W A cs ∧ WOk W ∧ Q (.ext (.bl (isDone W))) [wdQ a cs]
def k1_Words_is_done : DTS :=
    (sRet (dAndV (dOp fEq (dAttr "Words" "place" (dVarR 0)) (dC (.str (Str.ofString "worths")))) (dOp fEq (dCB fLen (dCons (dAttr "Words" "worths" (dVarR 0)) dNil)) (dMethO "Words" "due" sp_Words_due [1] (dVarR 0) dNil))))
def t_Words_is_done : DTS :=
    (sSeq (sIf (dTest (dOp fEq (dAttr "Words" "place" (dVarR 0)) (dC (.str (Str.ofString "sizes"))))) (sRet (dOp (fCmp fun i j => decide (j < i)) (dCB fLen (dCons (dAttr "Words" "sizes" (dVarR 0)) dNil)) (dC (.int 0)))) sNext)
    k1_Words_is_done)
theorem m_Words_is_done : Meets t_Words_is_done 1 0 sp_Words_is_done := by
  rintro args Qd Xd ⟨a, dx, W, A, cs, rfl, h, hW, hQ⟩
  show t_Words_is_done _ _ [_]
  unfold t_Words_is_done
  and_intros
  refine a_place h ?_
  and_intros
  rw [pl1]
  by_cases h1 : W.pl = .sizes
  · rw [if_pos (decide_eq_true h1)]
    refine a_sizes h ?_
    and_intros
    refine cellS_i h.s ?_
    and_intros
    have e : isDone W = decide (0 < W.sz.length) := by unfold isDone; rw [h1]
    rw [e] at hQ
    rw [nD_len, show (decide ((0 : Int) < ((W.sz.length : Nat) : Int))) = decide (0 < W.sz.length) from decide_eq_decide.2 (by omega), fin_wd]
    exact hQ
  rw [if_neg (by simpa using h1)]
  unfold k1_Words_is_done
  and_intros
  refine a_place h ?_
  and_intros
  rw [pl3]
  by_cases h2 : W.pl = .worths
  rotate_left
  · rw [if_neg (by simpa using h2), fin_wd]
    have e : isDone W = false := by
      unfold isDone
      cases hp : W.pl with
      | sizes => exact absurd hp h1
      | names => rfl
      | worths => exact absurd hp h2
    rw [e] at hQ
    exact hQ
  rw [if_pos (decide_eq_true h2)]
  refine a_worths h ?_
  and_intros
  refine cellS_i h.w ?_
  and_intros
  refine ⟨objS_i rfl h.o rfl, wcall0 rfl ?_⟩
  refine ⟨a, dx, W, A, cs, rfl, h, hW, True.intro, ?_⟩
  simp only [giveM, give1]
  and_intros
  have e : isDone W = decide (W.ws.length = psz W.sz W.ns) := by unfold isDone; rw [h2]
  rw [e] at hQ
  rw [iD_len, fin_wd, show (((W.ws.length : Nat) : Int) == ((psz W.sz W.ns : Nat) : Int)) = decide (W.ws.length = psz W.sz W.ns) by rw [Bool.eq_iff_iff, beq_iff_eq, decide_eq_true_eq]; omega]
  exact hQ
theorem cellOf_putC {b : Addr} {x oc : OC} : ∀ {cs : Cells}, cellOf cs b = some oc → cellOf (putC cs b x) b = some x
  | [], h => nomatch h
  | p :: r, h => by
    show cellOf ((if p.1 = b then (b, x) else p) :: putC r b x) b = some x
    have h : (if p.1 = b then some p.2 else cellOf r b) = some oc := h
    by_cases e : p.1 = b
    · rw [if_pos e]
      show (if b = b then some x else _) = _
      rw [if_pos rfl]
    · rw [if_neg e] at h ⊢
      show (if p.1 = b then some p.2 else cellOf (putC r b x) b) = _
      rw [if_neg e]
      exact cellOf_putC h
theorem cellOf_putN {b c : Addr} {x : OC} (n : c ≠ b) : ∀ (cs : Cells), cellOf (putC cs b x) c = cellOf cs c
  | [] => rfl
  | p :: r => by
    show cellOf ((if p.1 = b then (b, x) else p) :: putC r b x) c = (if p.1 = c then some p.2 else cellOf r c)
    by_cases e : p.1 = b
    · rw [if_pos e, if_neg (fun z => n (by rw [← z, e]))]
      show (if b = c then some x else cellOf (putC r b x) c) = _
      rw [if_neg (fun z => n z.symm)]
      exact cellOf_putN n r
    · rw [if_neg e]
      show (if p.1 = c then some p.2 else cellOf (putC r b x) c) = _
      rw [cellOf_putN n r]
section
variable {a dx : Addr} {W : WS} {A : WA} {cs : Cells}
theorem WdOk.put_o (h : WdOk a dx W A cs) {W' : WS} (h1 : W'.sz = W.sz) (h2 : W'.ps = W.ps) (h3 : W'.ns = W.ns) (h4 : W'.ws = W.ws) : WdOk a dx W' A (putC cs a (.ins "Words" dx (wdF A W'))) := by
  have hn := h.ne
  simp only [List.nodup_cons, List.mem_cons, List.not_mem_nil, or_false, not_or] at hn
  obtain ⟨⟨n1, n2, n3, n4⟩, _⟩ := hn
  exact ⟨by rw [putC_keys]; exact h.nd, h.ne, cellOf_putC h.o, by rw [cellOf_putN (Ne.symm n1), h1]; exact h.s, by rw [cellOf_putN (Ne.symm n2), h2]; exact h.p, by rw [cellOf_putN (Ne.symm n3), h3]; exact h.n, by rw [cellOf_putN (Ne.symm n4), h4]; exact h.w⟩
theorem WdOk.put_s (h : WdOk a dx W A cs) {W' : WS} (h1 : W'.pl = W.pl) (h2 : W'.ps = W.ps) (h3 : W'.ns = W.ns) (h4 : W'.ws = W.ws) : WdOk a dx W' A (putC cs A.s (.lst (nD W'.sz))) := by
  have hn := h.ne
  simp only [List.nodup_cons, List.mem_cons, List.not_mem_nil, or_false, not_or] at hn
  obtain ⟨⟨n1, n2, n3, n4⟩, ⟨n5, n6, n7⟩, ⟨n8, n9⟩, n10⟩ := hn
  refine ⟨by rw [putC_keys]; exact h.nd, h.ne, ?_, cellOf_putC h.s, by rw [cellOf_putN (Ne.symm n5), h2]; exact h.p, by rw [cellOf_putN (Ne.symm n6), h3]; exact h.n, by rw [cellOf_putN (Ne.symm n7), h4]; exact h.w⟩
  rw [cellOf_putN n1, show wdF A W' = wdF A W by unfold wdF; rw [h1]]
  exact h.o
theorem WdOk.put_p (h : WdOk a dx W A cs) {W' : WS} (h1 : W'.pl = W.pl) (h2 : W'.sz = W.sz) (h3 : W'.ns = W.ns) (h4 : W'.ws = W.ws) : WdOk a dx W' A (putC cs A.p (.lst (W'.ps.map dP))) := by
  have hn := h.ne
  simp only [List.nodup_cons, List.mem_cons, List.not_mem_nil, or_false, not_or] at hn
  obtain ⟨⟨n1, n2, n3, n4⟩, ⟨n5, n6, n7⟩, ⟨n8, n9⟩, n10⟩ := hn
  refine ⟨by rw [putC_keys]; exact h.nd, h.ne, ?_, by rw [cellOf_putN n5, h2]; exact h.s, cellOf_putC h.p, by rw [cellOf_putN (Ne.symm n8), h3]; exact h.n, by rw [cellOf_putN (Ne.symm n9), h4]; exact h.w⟩
  rw [cellOf_putN n2, show wdF A W' = wdF A W by unfold wdF; rw [h1]]
  exact h.o
theorem WdOk.put_n (h : WdOk a dx W A cs) {W' : WS} (h1 : W'.pl = W.pl) (h2 : W'.sz = W.sz) (h3 : W'.ps = W.ps) (h4 : W'.ws = W.ws) : WdOk a dx W' A (putC cs A.n (.lst (nD W'.ns))) := by
  have hn := h.ne
  simp only [List.nodup_cons, List.mem_cons, List.not_mem_nil, or_false, not_or] at hn
  obtain ⟨⟨n1, n2, n3, n4⟩, ⟨n5, n6, n7⟩, ⟨n8, n9⟩, n10⟩ := hn
  refine ⟨by rw [putC_keys]; exact h.nd, h.ne, ?_, by rw [cellOf_putN n6, h2]; exact h.s, by rw [cellOf_putN n8, h3]; exact h.p, cellOf_putC h.n, by rw [cellOf_putN (Ne.symm n10.1), h4]; exact h.w⟩
  rw [cellOf_putN n3, show wdF A W' = wdF A W by unfold wdF; rw [h1]]
  exact h.o
theorem WdOk.put_w (h : WdOk a dx W A cs) {W' : WS} (h1 : W'.pl = W.pl) (h2 : W'.sz = W.sz) (h3 : W'.ps = W.ps) (h4 : W'.ns = W.ns) : WdOk a dx W' A (putC cs A.w (.lst (iD W'.ws))) := by
  have hn := h.ne
  simp only [List.nodup_cons, List.mem_cons, List.not_mem_nil, or_false, not_or] at hn
  obtain ⟨⟨n1, n2, n3, n4⟩, ⟨n5, n6, n7⟩, ⟨n8, n9⟩, n10⟩ := hn
  refine ⟨by rw [putC_keys]; exact h.nd, h.ne, ?_, by rw [cellOf_putN n7, h2]; exact h.s, by rw [cellOf_putN n9, h3]; exact h.p, by rw [cellOf_putN n10.1, h4]; exact h.n, cellOf_putC h.w⟩
  rw [cellOf_putN n4, show wdF A W' = wdF A W by unfold wdF; rw [h1]]
  exact h.o
end
def closeW (W : WS) : WS := if W.pl = .worths then { W with ps := W.ps ++ [⟨W.ns, W.ws⟩] } else W
def sp_Words_close : DSpec := fun args Q _ => ∃ (a dx : Addr) (W : WS) (A : WA) (cs : Cells), args = [wdQ a cs] ∧ WdOk a dx W A cs ∧ WOk W ∧ ∀ cs', WdOk a dx (closeW W) A cs' → Q (.ext .non) [wdQ a cs']
def t_Words_close : DTS :=
    (sIf (dTest (dOp fEq (dAttr "Words" "place" (dVarR 0)) (dC (.str (Str.ofString "worths"))))) (sDrop (dAppR true (dAttr "Words" "parts" (dVarR 0)) (dTup (dCons (dCB fTuple (dCons (dAttr "Words" "names" (dVarR 0)) dNil)) (dCons (dCB fTuple (dCons (dAttr "Words" "worths" (dVarR 0)) dNil)) dNil))))) sNext)
theorem m_Words_close : Meets t_Words_close 1 0 sp_Words_close := by
  rintro args Qd Xd ⟨a, dx, W, A, cs, rfl, h, hW, hQ⟩
  show t_Words_close _ _ [_]
  unfold t_Words_close
  and_intros
  refine a_place h ?_
  and_intros
  rw [pl3]
  by_cases h2 : W.pl = .worths
  rotate_left
  · rw [if_neg (by simpa using h2), fin_wd]
    refine hQ cs ?_
    unfold closeW
    rw [if_neg h2]
    exact h
  rw [if_pos (decide_eq_true h2)]
  refine a_parts h ?_
  and_intros
  refine ⟨cellS_i h.p True.intro, ?_⟩
  refine a_names h ?_
  and_intros
  refine cellS_i h.n ?_
  and_intros
  refine a_worths h ?_
  and_intros
  refine cellS_i h.w ?_
  and_intros
  refine ⟨by decide, cellS_i h.p ?_⟩
  and_intros
  refine ⟨by rw [List.length_map]; exact Nat.lt_of_le_of_lt (show _ ≤ 100 by have := hW.many; omega) (by decide), fun _ => ?_⟩
  rw [show W.ps.map dP ++ [D.tup [D.tup (nD W.ns), D.tup (iD W.ws)]] = (W.ps ++ [(⟨W.ns, W.ws⟩ : Part)]).map dP by rw [List.map_append]; rfl]
  show Qd (.ext .non) [fin1 (wdQ a cs) (some (wdQ a _))]
  rw [fin_wd]
  refine hQ _ ?_
  have e : closeW W = { W with ps := W.ps ++ [⟨W.ns, W.ws⟩] } := if_pos h2
  rw [e]
  exact h.put_p (W' := { W with ps := W.ps ++ [⟨W.ns, W.ws⟩] }) rfl rfl rfl rfl
def sizeW (W : WS) (o : Option Int) : Option WS := match o with
  | some i => if 1 ≤ i ∧ i.toNat ≤ 4 ∧ W.sz.length ≠ 12 ∧ prodN W.sz * i.toNat ≤ 4000 then some { W with sz := W.sz ++ [i.toNat] } else none
  | none => none
def sp_Words_take_size : DSpec := fun args Q _ => ∃ (a dx : Addr) (W : WS) (A : WA) (cs : Cells) (o : Option Int), args = [wdQ a cs, .ext (oI o)] ∧ WdOk a dx W A cs ∧ WOk W ∧ (∀ W', sizeW W o = some W' → ∀ cs', WdOk a dx W' A cs' → Q (.ext (.bl true)) [wdQ a cs', .ext (oI o)]) ∧ (sizeW W o = none → ∀ cs', Q (.ext (.bl false)) [wdQ a cs', .ext (oI o)])
def k1_Words_take_size : DTS :=
    (sRet (dC (.bl true)))
def k2_Words_take_size : DTS :=
    (sSeq (sDrop (dAppR true (dAttr "Words" "sizes" (dVarR 0)) (dVar 1)))
    k1_Words_take_size)
def k3_Words_take_size : DTS :=
    (sSeq (sIf (dTest (dOp (fCmp fun i j => decide (j < i)) (dOp fMul (dCall sp_product (dCons (dAttr "Words" "sizes" (dVarR 0)) dNil)) (dVar 1)) (dC (.int 4000)))) (sRet (dC (.bl false))) sNext)
    k2_Words_take_size)
def t_Words_take_size : DTS :=
    (sSeq (sIf (dOr (dTest (dOp fIsN (dVar 1) (dC .non))) (dOr (dNot (dTest (dChain (fCmp fun i j => decide (i ≤ j)) (fCmp fun i j => decide (i ≤ j)) (dC (.int 1)) (dVar 1) (dC (.int 4))))) (dTest (dOp fEq (dCB fLen (dCons (dAttr "Words" "sizes" (dVarR 0)) dNil)) (dC (.int 12)))))) (sRet (dC (.bl false))) sNext)
    k3_Words_take_size)
theorem m_Words_take_size : Meets t_Words_take_size 2 0 sp_Words_take_size := by
  rintro args Qd Xd ⟨a, dx, W, A, cs, o, rfl, h, hW, hQ, hN⟩
  show t_Words_take_size _ _ [_, _]
  unfold t_Words_take_size
  cases o with
  | none =>
    rw [show oI none = D.non from rfl] at *
    and_intros
    rw [show D.non.isNon = true from rfl, if_pos rfl, fin_wd]
    exact hN rfl _
  | some i =>
    rw [show oI (some i) = D.int i from rfl] at *
    and_intros
    rw [show (D.int i).isNon = false from rfl, if_neg (by decide)]
    have hfew := hW.few
    by_cases h1 : 1 ≤ i
    rotate_left
    · rw [if_neg h1, if_pos (by decide), fin_wd]
      exact hN (if_neg fun z => h1 z.1) _
    rw [if_pos h1]
    obtain ⟨k, rfl⟩ := Int.eq_ofNat_of_zero_le (show 0 ≤ i by omega)
    by_cases h2 : k ≤ 4
    rotate_left
    · rw [if_pos (by simp; omega), fin_wd]
      exact hN (if_neg fun z => h2 z.2.1) _
    rw [if_neg (by simp; omega)]
    refine a_sizes h ?_
    and_intros
    refine cellS_i h.s ?_
    and_intros
    rw [nD_len]
    by_cases h3 : W.sz.length = 12
    · rw [if_pos (beq_iff_eq.2 (by omega)), fin_wd]
      exact hN (if_neg fun z => z.2.2.1 h3) _
    rw [if_neg fun z => h3 (by have := beq_iff_eq.1 z; omega)]
    unfold k3_Words_take_size
    and_intros
    refine a_sizes h ?_
    and_intros
    refine cellS_i h.s ?_
    and_intros
    have hpr := hW.pr
    refine ⟨W.sz, .inl rfl, fun x hx => (hW.siz x hx).1, Nat.lt_of_le_of_lt hpr (by decide), fun fin => ?_⟩
    and_intros
    refine ⟨.inr rfl, cmul64 (by omega) (by omega) (by omega) (by omega), ?_⟩
    have e4 : ((prodN W.sz : Nat) : Int) * ((k : Nat) : Int) = ((prodN W.sz * k : Nat) : Int) := by rw [Int.natCast_mul]
    rw [e4]
    by_cases h4 : prodN W.sz * k ≤ 4000
    rotate_left
    · rw [if_pos (by omega), fin_wd]
      exact hN (if_neg fun z => h4 z.2.2.2) _
    rw [if_neg (by omega)]
    unfold k2_Words_take_size
    and_intros
    refine a_sizes h ?_
    and_intros
    refine ⟨cellS_i h.s True.intro, cellS_i h.s ?_⟩
    and_intros
    refine ⟨by rw [nD_len]; exact Nat.lt_of_le_of_lt (show _ ≤ 100 by omega) (by decide), fun _ => ?_⟩
    unfold k1_Words_take_size
    and_intros
    rw [fin_wd]
    refine hQ { W with sz := W.sz ++ [k] } (if_pos ⟨h1, h2, h3, h4⟩) _ ?_
    have := h.put_s (W' := { W with sz := W.sz ++ [k] }) rfl rfl rfl rfl
    rw [show nD W.sz ++ [D.int ((k : Nat) : Int)] = nD (W.sz ++ [k]) by rw [nD_app]; rfl]
    exact this
def nameW (W : WS) (cs : List Nat) : Option WS :=
  if cs = [58] then some { W with pl := .worths } else match numW cs 2 with
  | some i => if (match W.ns.getLast? with | some m => ((m + 1 : Nat) : Int) | none => 0) ≤ i ∧ i < (W.sz.length : Int) ∧ psz W.sz W.ns * sz W.sz i.toNat ≤ 2000 - allW W.ps then some { W with ns := W.ns ++ [i.toNat] } else none
  | none => none
def sp_Words_take_name : DSpec := fun args Q _ => ∃ (a dx : Addr) (W : WS) (A : WA) (cs : Cells) (x : Str), args = [wdQ a cs, .ext (.str x), .ext (oI (numW (tl x) 2))] ∧ WdOk a dx W A cs ∧ WOk W ∧ (∀ W', nameW W (tl x) = some W' → ∀ cs', WdOk a dx W' A cs' → Q (.ext (.bl true)) [wdQ a cs', .ext (.str x), .ext (oI (numW (tl x) 2))]) ∧ (nameW W (tl x) = none → ∀ cs', Q (.ext (.bl false)) [wdQ a cs', .ext (.str x), .ext (oI (numW (tl x) 2))])
def k1_Words_take_name : DTS :=
    (sRet (dC (.bl true)))
def k2_Words_take_name : DTS :=
    (sRet (dC (.bl true)))
def k3_Words_take_name : DTS :=
    (sSeq (sDrop (dAppR true (dAttr "Words" "names" (dVarR 0)) (dVar 2)))
    k2_Words_take_name)
def k4_Words_take_name : DTS :=
    (sSeq (sIf (dOr (dTest (dOp fIsN (dVar 2) (dC .non))) (dOr (dNot (dTest (dChain (fCmp fun i j => decide (i ≤ j)) (fCmp fun i j => decide (i < j)) (dVar 3) (dVar 2) (dCB fLen (dCons (dAttr "Words" "sizes" (dVarR 0)) dNil))))) (dTest (dOp (fCmp fun i j => decide (j < i)) (dOp fMul (dMethO "Words" "due" sp_Words_due [1] (dVarR 0) dNil) (dIxR (dAttr "Words" "sizes" (dVarR 0)) (dVar 2))) (dMethO "Words" "left" sp_Words_left [1] (dVarR 0) dNil))))) (sRet (dC (.bl false))) sNext)
    k3_Words_take_name)
def k5_Words_take_name : DTS :=
    (sSeq (sSetE 3 (dIf (dTest (dOp fNe (dAttr "Words" "names" (dVarR 0)) (dLst dNil))) (dOp fAdd (dIxR (dAttr "Words" "names" (dVarR 0)) (dNeg (dC (.int 1)))) (dC (.int 1))) (dC (.int 0))))
    k4_Words_take_name)
def t_Words_take_name : DTS :=
    (sSeq (sIf (dTest (dOp fEq (dVar 1) (dC (.str (Str.ofString ":"))))) (sSeq (sAttr "Words" "place" true (dVarR 0) (dC (.str (Str.ofString "worths"))))
    k1_Words_take_name) sNext)
    k5_Words_take_name)
theorem m_Words_take_name : Meets t_Words_take_name 3 1 sp_Words_take_name := by
  rintro args Qd Xd ⟨a, dx, W, A, cs, x, rfl, h, hW, hQ, hN⟩
  show t_Words_take_name _ _ [_, _, _, .un]
  unfold t_Words_take_name
  and_intros
  rw [beq_tl, show tl (Str.ofString ":") = [58] by decide +kernel]
  by_cases h0 : tl x = [58]
  · rw [if_pos (decide_eq_true h0)]
    refine at_o h ⟨rfl, show (5 : Nat) < 1000 by decide, fun _ => ?_⟩
    unfold k1_Words_take_name
    and_intros
    rw [fin_wd]
    rw [show putFD (Str.ofString "place") (D.str (Str.ofString "worths")) (wdF A W) = wdF A { W with pl := .worths } from put_place A W .worths]
    exact hQ _ (if_pos h0) _ (h.put_o rfl rfl rfl rfl)
  rw [if_neg (by simpa using h0)]
  unfold k5_Words_take_name
  and_intros
  refine a_names h ?_
  and_intros
  refine ⟨by decide, cellS_i h.n ?_⟩
  and_intros
  have hnl : W.ns.length ≤ 12 := Nat.le_trans (rising_len hW.rise hW.lt) hW.few
  have key : ∀ (L : Nat), ((match W.ns.getLast? with | some m => ((m + 1 : Nat) : Int) | none => 0) = (L : Int)) → k4_Words_take_name (exOf [wdQ a cs, Sl.ext (D.str x), Sl.ext (oI (numW (tl x) 2))] Xd) (endsOf [wdQ a cs, Sl.ext (D.str x), Sl.ext (oI (numW (tl x) 2))] Qd) [wdQ a cs, .ext (.str x), .ext (oI (numW (tl x) 2)), dI (L : Nat)] := fun L hL => by
    unfold k4_Words_take_name
    cases ho : numW (tl x) 2 with
    | none =>
      rw [ho] at hN
      rw [show oI none = D.non from rfl] at *
      and_intros
      rw [if_pos (show D.non.isNon = true from rfl), fin_wd]
      exact hN (by unfold nameW; rw [if_neg h0, ho]) _
    | some i =>
      rw [ho] at hN hQ
      rw [show oI (some i) = D.int i from rfl] at *
      have hnw : nameW W (tl x) = if (L : Int) ≤ i ∧ i < (W.sz.length : Int) ∧ psz W.sz W.ns * sz W.sz i.toNat ≤ 2000 - allW W.ps then some { W with ns := W.ns ++ [i.toNat] } else none := by
        unfold nameW
        rw [if_neg h0, ho, ← hL]
      rw [hnw] at hN hQ
      and_intros
      rw [show (D.int i).isNon = false from rfl, if_neg (by decide)]
      by_cases h1 : (L : Int) ≤ i
      rotate_left
      · rw [if_neg h1]
        and_intros
        rw [fin_wd]
        exact hN (if_neg fun z => h1 z.1) _
      rw [if_pos h1]
      refine a_sizes h ?_
      and_intros
      refine cellS_i h.s ?_
      and_intros
      rw [nD_len]
      obtain ⟨k, rfl⟩ := Int.eq_ofNat_of_zero_le (show 0 ≤ i by omega)
      by_cases h2 : k < W.sz.length
      rotate_left
      · rw [if_pos (by simp; omega), fin_wd]
        exact hN (if_neg fun z => h2 (by omega)) _
      rw [if_neg (by simp; omega)]
      refine ⟨objS_i rfl h.o rfl, wcall0 rfl ⟨a, dx, W, A, cs, rfl, h, hW, True.intro, ?_⟩⟩
      simp only [giveM, give1]
      and_intros
      refine a_sizes h ?_
      and_intros
      refine cellS_i h.s ?_
      and_intros
      refine ⟨_, atN (sz_at h2), ?_⟩
      and_intros
      have hsz4 := hW.siz _ (sz_mem h2)
      have hdue := hW.due
      refine ⟨cmul64 (by omega) (by omega) (by omega) (by omega), ?_⟩
      refine ⟨objS_i rfl h.o rfl, wcall0 rfl ⟨a, dx, W, A, cs, rfl, h, hW.many, hW.all, True.intro, ?_⟩⟩
      simp only [giveM, give1]
      and_intros
      rw [show ((psz W.sz W.ns : Nat) : Int) * ((sz W.sz k : Nat) : Int) = ((psz W.sz W.ns * sz W.sz k : Nat) : Int) by rw [Int.natCast_mul]]
      by_cases h3 : psz W.sz W.ns * sz W.sz k ≤ 2000 - allW W.ps
      rotate_left
      · rw [if_pos (by omega), fin_wd]
        exact hN (if_neg fun z => h3 z.2.2) _
      rw [if_neg (by omega)]
      unfold k3_Words_take_name
      and_intros
      refine a_names h ?_
      and_intros
      refine ⟨cellS_i h.n True.intro, cellS_i h.n ?_⟩
      and_intros
      refine ⟨by rw [nD_len]; exact Nat.lt_of_le_of_lt (show _ ≤ 100 by omega) (by decide), fun _ => ?_⟩
      unfold k2_Words_take_name
      and_intros
      rw [fin_wd]
      have := h.put_n (W' := { W with ns := W.ns ++ [k] }) rfl rfl rfl rfl
      rw [show nD W.ns ++ [D.int ((k : Nat) : Int)] = nD (W.ns ++ [k]) by rw [nD_app]; rfl]
      exact hQ _ (if_pos ⟨h1, by omega, h3⟩) _ this
  have hnl : W.ns.length ≤ 12 := Nat.le_trans (rising_len hW.rise hW.lt) hW.few
  rcases List.eq_nil_or_concat W.ns with e | ⟨l, m, e⟩
  · rw [e]
    refine ⟨cmp_nl [], cmp_nl [], ?_⟩
    and_intros
    rw [if_neg (by rw [show D.eqv (.lst []) (.lst []) = true from eqv_refl (cmp_nl [])]; decide)]
    exact key 0 (by rw [e]; rfl)
  · rw [List.concat_eq_append] at e
    refine ⟨cmp_nl _, cmp_nl [], ?_⟩
    and_intros
    have hne : D.eqv (.lst (nD W.ns)) (.lst []) = false := by
      rw [e, nD_app]
      cases l <;> rfl
    rw [if_pos (by rw [hne]; decide)]
    refine a_names h ?_
    and_intros
    refine cellS_i h.n ?_
    and_intros
    rw [e, at_last]
    and_intros
    have := key (m + 1) (by rw [e, List.getLast?_append]; rfl)
    exact this
def worthW (W : WS) (o : Option Int) : Option WS := match o with
  | some i => if W.ws.length ≠ psz W.sz W.ns ∧ -(10 ^ 12 : Int) ≤ i ∧ i ≤ 10 ^ 12 then some { W with ws := W.ws ++ [i] } else none
  | none => none
def sp_Words_take_worth : DSpec := fun args Q _ => ∃ (a dx : Addr) (W : WS) (A : WA) (cs : Cells) (o : Option Int), args = [wdQ a cs, .ext (oI o)] ∧ WdOk a dx W A cs ∧ WOk W ∧ (∀ W', worthW W o = some W' → ∀ cs', WdOk a dx W' A cs' → Q (.ext (.bl true)) [wdQ a cs', .ext (oI o)]) ∧ (worthW W o = none → ∀ cs', Q (.ext (.bl false)) [wdQ a cs', .ext (oI o)])
def k1_Words_take_worth : DTS :=
    (sRet (dC (.bl true)))
def k2_Words_take_worth : DTS :=
    (sSeq (sDrop (dAppR true (dAttr "Words" "worths" (dVarR 0)) (dVar 1)))
    k1_Words_take_worth)
def t_Words_take_worth : DTS :=
    (sSeq (sIf (dOr (dTest (dOp fIsN (dVar 1) (dC .non))) (dOr (dTest (dOp fEq (dCB fLen (dCons (dAttr "Words" "worths" (dVarR 0)) dNil)) (dMethO "Words" "due" sp_Words_due [1] (dVarR 0) dNil))) (dNot (dTest (dChain (fCmp fun i j => decide (i ≤ j)) (fCmp fun i j => decide (i ≤ j)) (dOp fSub (dC (.int 0)) (dC (.int 1000000000000))) (dVar 1) (dC (.int 1000000000000))))))) (sRet (dC (.bl false))) sNext)
    k2_Words_take_worth)
theorem m_Words_take_worth : Meets t_Words_take_worth 2 0 sp_Words_take_worth := by
  rintro args Qd Xd ⟨a, dx, W, A, cs, o, rfl, h, hW, hQ, hN⟩
  show t_Words_take_worth _ _ [_, _]
  unfold t_Words_take_worth
  cases o with
  | none =>
    rw [show oI none = D.non from rfl] at *
    and_intros
    rw [if_pos (show D.non.isNon = true from rfl), fin_wd]
    exact hN rfl _
  | some i =>
    rw [show oI (some i) = D.int i from rfl] at *
    and_intros
    rw [show (D.int i).isNon = false from rfl, if_neg (by decide)]
    refine a_worths h ?_
    and_intros
    refine cellS_i h.w ?_
    and_intros
    refine ⟨objS_i rfl h.o rfl, wcall0 rfl ⟨a, dx, W, A, cs, rfl, h, hW, True.intro, ?_⟩⟩
    simp only [giveM, give1]
    and_intros
    rw [iD_len]
    by_cases h1 : W.ws.length = psz W.sz W.ns
    · rw [if_pos (beq_iff_eq.2 (by omega)), fin_wd]
      exact hN (if_neg fun z => z.1 h1) _
    rw [if_neg fun z => h1 (by have := beq_iff_eq.1 z; omega)]
    have hwl := hW.wl
    have hdue := hW.due
    by_cases h2 : -(10 ^ 12 : Int) ≤ i
    rotate_left
    · rw [if_neg (by omega), if_pos (by decide), fin_wd]
      exact hN (if_neg fun z => h2 z.2.1) _
    rw [if_pos (by omega)]
    by_cases h3 : i ≤ (10 ^ 12 : Int)
    rotate_left
    · rw [if_pos (by simp; omega), fin_wd]
      exact hN (if_neg fun z => h3 z.2.2) _
    rw [if_neg (by simp; omega)]
    unfold k2_Words_take_worth
    and_intros
    refine a_worths h ?_
    and_intros
    refine ⟨cellS_i h.w True.intro, cellS_i h.w ?_⟩
    and_intros
    refine ⟨by rw [iD_len]; exact Nat.lt_of_le_of_lt (show _ ≤ 2000 by omega) (by decide), fun _ => ?_⟩
    unfold k1_Words_take_worth
    and_intros
    rw [fin_wd]
    have := h.put_w (W' := { W with ws := W.ws ++ [i] }) rfl rfl rfl rfl
    rw [show iD W.ws ++ [D.int i] = iD (W.ws ++ [i]) from (iD_snoc ..)]
    exact hQ _ (if_pos ⟨h1, h2, h3⟩) _ this
theorem cell_app {ds : Cells} {c : Addr} {x : OC} : ∀ {cs : Cells}, cellOf cs c = some x → cellOf (cs ++ ds) c = some x
  | [], h => nomatch h
  | p :: r, h => by
    show (if p.1 = c then some p.2 else cellOf (r ++ ds) c) = _
    have h : (if p.1 = c then some p.2 else cellOf r c) = some x := h
    by_cases e : p.1 = c
    · rw [if_pos e] at h ⊢
      exact h
    · rw [if_neg e] at h ⊢
      exact cell_app h
theorem cell_new {b : Addr} {x : OC} : ∀ {cs : Cells}, b ∉ cs.map (·.1) → cellOf (cs ++ [(b, x)]) b = some x
  | [], _ => by
    show (if b = b then some x else none) = _
    rw [if_pos rfl]
  | p :: r, h => by
    show (if p.1 = b then some p.2 else cellOf (r ++ [(b, x)]) b) = _
    rw [if_neg fun z => h (by rw [← z]; exact List.mem_cons_self)]
    exact cell_new fun z => h (List.mem_cons_of_mem _ z)
theorem cell_mem {c : Addr} {x : OC} : ∀ {cs : Cells}, cellOf cs c = some x → c ∈ cs.map (·.1)
  | [], h => nomatch h
  | p :: r, h => by
    have h : (if p.1 = c then some p.2 else cellOf r c) = some x := h
    by_cases e : p.1 = c
    · rw [← e]; exact List.mem_cons_self
    · rw [if_neg e] at h
      exact List.mem_cons_of_mem _ (cell_mem h)
theorem put_nm (A : WA) (W : WS) (b : Addr) (W' : WS) (hp : W'.pl = W.pl) : putFD (Str.ofString "names") (.val (.ref b)) (wdF A W) = wdF { A with n := b } W' := by
  unfold wdF
  rw [hp]
  rfl
theorem put_wr (A : WA) (W : WS) (b : Addr) (W' : WS) (hp : W'.pl = W.pl) : putFD (Str.ofString "worths") (.val (.ref b)) (wdF A W) = wdF { A with w := b } W' := by
  unfold wdF
  rw [hp]
  rfl
section
variable {a dx b : Addr} {W : WS} {A : WA} {cs : Cells}
theorem WdOk.new_n (h : WdOk a dx W A cs) (hb : ∀ c ∈ cs.map (·.1), c ∉ [b]) : WdOk a dx { W with ns := [] } { A with n := b } (putC cs a (.ins "Words" dx (putFD (Str.ofString "names") (.val (.ref b)) (wdF A W))) ++ [(b, .lst [])]) := by
  have hb' : b ∉ cs.map (·.1) := fun z => hb b z List.mem_cons_self
  have ha := cell_mem h.o
  have hs := cell_mem h.s
  have hp := cell_mem h.p
  have hn := cell_mem h.n
  have hw := cell_mem h.w
  have hne := h.ne
  simp only [List.nodup_cons, List.mem_cons, List.not_mem_nil, or_false, not_or] at hne
  obtain ⟨⟨n1, n2, n3, n4⟩, ⟨n5, n6, n7⟩, ⟨n8, n9⟩, n10, _⟩ := hne
  have ne : ∀ c, c ∈ cs.map (·.1) → c ≠ b := fun c hc z => hb' (z ▸ hc)
  refine ⟨?_, ?_, ?_, ?_, ?_, ?_, ?_⟩
  · rw [List.map_append, putC_keys]
    exact List.nodup_append.2 ⟨h.nd, by simp, fun x hx y hy z => hb x hx (z ▸ hy)⟩
  · simp only [List.nodup_cons, List.mem_cons, List.not_mem_nil, or_false, not_or]
    exact ⟨⟨n1, n2, ne _ ha, n4⟩, ⟨n5, ne _ hs, n7⟩, ⟨ne _ hp, n9⟩, Ne.symm (ne _ hw), by simp⟩
  · rw [put_nm A W b { W with ns := [] } rfl]
    exact cell_app (cellOf_putC h.o)
  · exact cell_app (by rw [cellOf_putN (Ne.symm n1)]; exact h.s)
  · exact cell_app (by rw [cellOf_putN (Ne.symm n2)]; exact h.p)
  · exact cell_new (by rw [putC_keys]; exact hb')
  · exact cell_app (by rw [cellOf_putN (Ne.symm n4)]; exact h.w)
theorem WdOk.new_w (h : WdOk a dx W A cs) (hb : ∀ c ∈ cs.map (·.1), c ∉ [b]) : WdOk a dx { W with ws := [] } { A with w := b } (putC cs a (.ins "Words" dx (putFD (Str.ofString "worths") (.val (.ref b)) (wdF A W))) ++ [(b, .lst [])]) := by
  have hb' : b ∉ cs.map (·.1) := fun z => hb b z List.mem_cons_self
  have ha := cell_mem h.o
  have hs := cell_mem h.s
  have hp := cell_mem h.p
  have hn := cell_mem h.n
  have hne := h.ne
  simp only [List.nodup_cons, List.mem_cons, List.not_mem_nil, or_false, not_or] at hne
  obtain ⟨⟨n1, n2, n3, n4⟩, ⟨n5, n6, n7⟩, ⟨n8, n9⟩, n10, _⟩ := hne
  have ne : ∀ c, c ∈ cs.map (·.1) → c ≠ b := fun c hc z => hb' (z ▸ hc)
  refine ⟨?_, ?_, ?_, ?_, ?_, ?_, ?_⟩
  · rw [List.map_append, putC_keys]
    exact List.nodup_append.2 ⟨h.nd, by simp, fun x hx y hy z => hb x hx (z ▸ hy)⟩
  · simp only [List.nodup_cons, List.mem_cons, List.not_mem_nil, or_false, not_or]
    exact ⟨⟨n1, n2, n3, ne _ ha⟩, ⟨n5, n6, ne _ hs⟩, ⟨n8, ne _ hp⟩, ne _ hn, by simp⟩
  · rw [put_wr A W b { W with ws := [] } rfl]
    exact cell_app (cellOf_putC h.o)
  · exact cell_app (by rw [cellOf_putN (Ne.symm n1)]; exact h.s)
  · exact cell_app (by rw [cellOf_putN (Ne.symm n2)]; exact h.p)
  · exact cell_app (by rw [cellOf_putN (Ne.symm n3)]; exact h.n)
  · exact cell_new (by rw [putC_keys]; exact hb')
end
def strokeW (W : WS) : Option WS :=
  if isDone W = true ∧ W.ps.length + (if W.pl = .worths then 1 else 0) ≠ 24 ∧ 2000 - allW (closeW W).ps ≠ 0 then some { closeW W with ns := [], ws := [], pl := .names } else none
theorem close_all {W : WS} (h : WOk W) (hd : isDone W = true) : allW (closeW W).ps ≤ 2000 ∧ (closeW W).ps.length = W.ps.length + (if W.pl = .worths then 1 else 0) := by
  unfold closeW
  by_cases hp : W.pl = .worths
  rotate_left
  · rw [if_neg hp, if_neg hp]
    exact ⟨h.all, rfl⟩
  rw [if_pos hp, if_pos hp]
  have hl : W.ws.length = psz W.sz W.ns := by
    unfold isDone at hd
    rw [hp] at hd
    exact of_decide_eq_true hd
  refine ⟨?_, by rw [List.length_append]; rfl⟩
  have := h.room
  unfold allW
  rw [List.map_append, List.sum_append]
  show _ + (W.ws.length + 0) ≤ _
  omega
def sp_Words_take_stroke : DSpec := fun args Q _ => ∃ (a dx : Addr) (W : WS) (A : WA) (cs : Cells), args = [wdQ a cs] ∧ WdOk a dx W A cs ∧ WOk W ∧ (∀ W', strokeW W = some W' → ∀ A' cs', WdOk a dx W' A' cs' → Q (.ext (.bl true)) [wdQ a cs']) ∧ (strokeW W = none → ∀ cs', Q (.ext (.bl false)) [wdQ a cs'])
def k1_Words_take_stroke : DTS :=
    (sRet (dC (.bl true)))
def k2_Words_take_stroke : DTS :=
    (sSeq (sAttr "Words" "place" true (dVarR 0) (dC (.str (Str.ofString "names"))))
    k1_Words_take_stroke)
def k3_Words_take_stroke : DTS :=
    (sSeq (sAttr "Words" "worths" false (dVarR 0) (dLst dNil))
    k2_Words_take_stroke)
def k4_Words_take_stroke : DTS :=
    (sSeq (sAttr "Words" "names" false (dVarR 0) (dLst dNil))
    k3_Words_take_stroke)
def k5_Words_take_stroke : DTS :=
    (sSeq (sIf (dTest (dOp fEq (dMethO "Words" "left" sp_Words_left [1] (dVarR 0) dNil) (dC (.int 0)))) (sRet (dC (.bl false))) sNext)
    k4_Words_take_stroke)
def k6_Words_take_stroke : DTS :=
    (sSeq (sDrop (dMethO "Words" "close" sp_Words_close [1] (dVarR 0) dNil))
    k5_Words_take_stroke)
def t_Words_take_stroke : DTS :=
    (sSeq (sIf (dOr (dNot (dTest (dMethO "Words" "is_done" sp_Words_is_done [1] (dVarR 0) dNil))) (dTest (dOp fEq (dOp fAdd (dCB fLen (dCons (dAttr "Words" "parts" (dVarR 0)) dNil)) (dCB fInt (dCons (dOp fEq (dAttr "Words" "place" (dVarR 0)) (dC (.str (Str.ofString "worths")))) dNil))) (dC (.int 24))))) (sRet (dC (.bl false))) sNext)
    k6_Words_take_stroke)
theorem m_Words_take_stroke : Meets t_Words_take_stroke 1 0 sp_Words_take_stroke := by
  rintro args Qd Xd ⟨a, dx, W, A, cs, rfl, h, hW, hQ, hN⟩
  show t_Words_take_stroke _ _ [_]
  unfold t_Words_take_stroke
  and_intros
  refine ⟨objS_i rfl h.o rfl, wcall0 rfl ⟨a, dx, W, A, cs, rfl, h, hW, True.intro, ?_⟩⟩
  simp only [giveM, give1]
  and_intros
  by_cases h1 : isDone W = true
  rotate_left
  · rw [if_pos (by rw [Bool.not_eq_true _ |>.mp h1]; rfl), fin_wd]
    exact hN (if_neg fun z => h1 z.1) _
  rw [if_neg (by rw [h1]; decide)]
  refine a_parts h ?_
  and_intros
  refine cellS_i h.p ?_
  and_intros
  refine a_place h ?_
  and_intros
  rw [pl3]
  have e1 : ((((W.ps.map dP).length : Nat) : Int) + if decide (W.pl = Pl.worths) = true then 1 else 0) = ((W.ps.length + (if W.pl = .worths then 1 else 0) : Nat) : Int) := by
    rw [List.length_map]
    by_cases hp : W.pl = .worths
    · rw [if_pos (decide_eq_true hp), if_pos hp]; rfl
    · rw [if_neg (by simpa using hp), if_neg hp]; rfl
  rw [e1]
  by_cases h2 : W.ps.length + (if W.pl = .worths then 1 else 0) = 24
  · rw [if_pos (beq_iff_eq.2 (by omega)), fin_wd]
    exact hN (if_neg fun z => z.2.1 h2) _
  rw [if_neg fun z => h2 (by have := beq_iff_eq.1 z; omega)]
  obtain ⟨ca, cl⟩ := close_all hW h1
  have hmany := hW.many
  unfold k6_Words_take_stroke
  and_intros
  refine ⟨objS_i rfl h.o rfl, wcall0 rfl ⟨a, dx, W, A, cs, rfl, h, hW, fun cs1 h' => ⟨True.intro, ?_⟩⟩⟩
  simp only [giveM, give1]
  and_intros
  unfold k5_Words_take_stroke
  and_intros
  have hlen : (closeW W).ps.length ≤ 24 := by
    rw [cl]
    by_cases hp : W.pl = .worths
    · have := hW.m23 (by rw [hp]; decide)
      rw [if_pos hp] at h2 ⊢; omega
    · rw [if_neg hp] at h2 ⊢; omega
  refine ⟨objS_i rfl h'.o rfl, wcall0 rfl ⟨a, dx, closeW W, A, cs1, rfl, h', hlen, ca, True.intro, ?_⟩⟩
  simp only [giveM, give1]
  and_intros
  by_cases h3 : 2000 - allW (closeW W).ps = 0
  · rw [if_pos (beq_iff_eq.2 (by omega)), fin_wd]
    exact hN (if_neg fun z => z.2.2 h3) _
  rw [if_neg fun z => h3 (by have := beq_iff_eq.1 z; omega)]
  unfold k4_Words_take_stroke
  and_intros
  refine ⟨by decide, fun b1 => at_o h' ⟨rfl, show (5 : Nat) < 1000 by decide, fun hb1 => ?_⟩⟩
  have g1 := h'.new_n (b := b1) hb1
  show k3_Words_take_stroke _ _ [wdQ a _]
  generalize putC cs1 a _ ++ [(b1, OC.lst [])] = cs2 at g1 ⊢
  unfold k3_Words_take_stroke
  and_intros
  refine ⟨by decide, fun b2 => at_o g1 ⟨rfl, show (5 : Nat) < 1000 by decide, fun hb2 => ?_⟩⟩
  have g2 := g1.new_w (b := b2) hb2
  show k2_Words_take_stroke _ _ [wdQ a _]
  generalize putC cs2 a _ ++ [(b2, OC.lst [])] = cs3 at g2 ⊢
  unfold k2_Words_take_stroke
  and_intros
  refine at_o g2 ⟨rfl, show (5 : Nat) < 1000 by decide, fun _ => ?_⟩
  have g3 := g2.put_o (W' := { closeW W with ns := [], ws := [], pl := .names }) rfl rfl rfl rfl
  unfold k1_Words_take_stroke
  and_intros
  rw [fin_wd]
  exact hQ _ (if_pos ⟨h1, h2, h3⟩) _ _ g3
def tkW (W : WS) (cs : List Nat) : Option WS :=
  if cs = [47] then strokeW W else match W.pl with
  | .sizes => sizeW W (numW cs 1)
  | .names => nameW W cs
  | .worths => worthW W (numW cs 13)
def sp_Words_take : DSpec := fun args Q _ => ∃ (a dx : Addr) (W : WS) (A : WA) (cs : Cells) (x : Str), args = [wdQ a cs, .ext (.str x)] ∧ x.length ≤ 100000 ∧ WdOk a dx W A cs ∧ WOk W ∧ (∀ W', tkW W (tl x) = some W' → ∀ A' cs', WdOk a dx W' A' cs' → Q (.ext (.bl true)) [wdQ a cs', .ext (.str x)]) ∧ (tkW W (tl x) = none → ∀ cs', Q (.ext (.bl false)) [wdQ a cs', .ext (.str x)])
def k1_Words_take : DTS :=
    (sRet (dMethO "Words" "take_worth" sp_Words_take_worth [1, 0] (dVarR 0) (dCons (dCall sp_number_of (dCons (dVar 1) (dCons (dC (.int 13)) dNil))) dNil)))
def k2_Words_take : DTS :=
    (sSeq (sIf (dTest (dOp fEq (dAttr "Words" "place" (dVarR 0)) (dC (.str (Str.ofString "names"))))) (sRet (dMethO "Words" "take_name" sp_Words_take_name [1, 0, 0] (dVarR 0) (dCons (dVar 1) (dCons (dCall sp_number_of (dCons (dVar 1) (dCons (dC (.int 2)) dNil))) dNil)))) sNext)
    k1_Words_take)
def k3_Words_take : DTS :=
    (sSeq (sIf (dTest (dOp fEq (dAttr "Words" "place" (dVarR 0)) (dC (.str (Str.ofString "sizes"))))) (sRet (dMethO "Words" "take_size" sp_Words_take_size [1, 0] (dVarR 0) (dCons (dCall sp_number_of (dCons (dVar 1) (dCons (dC (.int 1)) dNil))) dNil))) sNext)
    k2_Words_take)
def t_Words_take : DTS :=
    (sSeq (sIf (dTest (dOp fEq (dVar 1) (dC (.str (Str.ofString "/"))))) (sRet (dMethO "Words" "take_stroke" sp_Words_take_stroke [1] (dVarR 0) dNil)) sNext)
    k3_Words_take)
theorem m_Words_take : Meets t_Words_take 2 0 sp_Words_take := by
  rintro args Qd Xd ⟨a, dx, W, A, cs, x, rfl, hl, h, hW, hQ, hN⟩
  show t_Words_take _ _ [_, _]
  unfold t_Words_take
  and_intros
  rw [beq_tl, show tl (Str.ofString "/") = [47] by decide +kernel]
  by_cases h0 : tl x = [47]
  · rw [if_pos (decide_eq_true h0)]
    have et : tkW W (tl x) = strokeW W := if_pos h0
    rw [et] at hQ hN
    refine ⟨objS_i rfl h.o rfl, wcall0 rfl ⟨a, dx, W, A, cs, rfl, h, hW, fun W' e A' cs' h' => ⟨True.intro, ?_⟩, fun e cs' => ⟨True.intro, ?_⟩⟩⟩
    · simp only [giveM, give1]
      and_intros
      rw [fin_wd]
      exact hQ W' e A' cs' h'
    · simp only [giveM, give1]
      and_intros
      rw [fin_wd]
      exact hN e cs'
  rw [if_neg (by simpa using h0)]
  unfold k3_Words_take
  and_intros
  refine a_place h ?_
  and_intros
  rw [pl1]
  cases hp : W.pl with
  | sizes =>
    have et : tkW W (tl x) = sizeW W (numW (tl x) 1) := by unfold tkW; rw [if_neg h0, hp]
    rw [et] at hQ hN
    rw [if_pos (by decide)]
    refine ⟨objS_i rfl h.o rfl, ⟨x, 1, rfl, hl, by decide, fun fin => ?_⟩⟩
    and_intros
    refine wcall1 rfl ⟨a, dx, W, A, cs, _, rfl, h, hW, fun W' e cs' h' => ⟨True.intro, ?_⟩, fun e cs' => ⟨True.intro, ?_⟩⟩
    · simp only [giveM, give1]
      and_intros
      rw [fin_wd]
      exact hQ W' e A cs' h'
    · simp only [giveM, give1]
      and_intros
      rw [fin_wd]
      exact hN e cs'
  | names =>
    rw [if_neg (by decide)]
    unfold k2_Words_take
    and_intros
    have et : tkW W (tl x) = nameW W (tl x) := by unfold tkW; rw [if_neg h0, hp]
    rw [et] at hQ hN
    refine a_place h ?_
    and_intros
    rw [pl2, hp, if_pos (by decide)]
    refine ⟨objS_i rfl h.o rfl, ⟨x, 2, rfl, hl, by decide, fun fin => ?_⟩⟩
    and_intros
    refine wcall2 rfl ⟨a, dx, W, A, cs, x, rfl, h, hW, fun W' e cs' h' => ⟨True.intro, ?_⟩, fun e cs' => ⟨True.intro, ?_⟩⟩
    · simp only [giveM, give1]
      and_intros
      rw [fin_wd]
      exact hQ W' e A cs' h'
    · simp only [giveM, give1]
      and_intros
      rw [fin_wd]
      exact hN e cs'
  | worths =>
    rw [if_neg (by decide)]
    unfold k2_Words_take
    and_intros
    have et : tkW W (tl x) = worthW W (numW (tl x) 13) := by unfold tkW; rw [if_neg h0, hp]
    rw [et] at hQ hN
    refine a_place h ?_
    and_intros
    rw [pl2, hp, if_neg (by decide)]
    unfold k1_Words_take
    and_intros
    refine ⟨objS_i rfl h.o rfl, ⟨x, 13, rfl, hl, by decide, fun fin => ?_⟩⟩
    and_intros
    refine wcall1 rfl ⟨a, dx, W, A, cs, _, rfl, h, hW, fun W' e cs' h' => ⟨True.intro, ?_⟩, fun e cs' => ⟨True.intro, ?_⟩⟩
    · simp only [giveM, give1]
      and_intros
      rw [fin_wd]
      exact hQ W' e A cs' h'
    · simp only [giveM, give1]
      and_intros
      rw [fin_wd]
      exact hN e cs'
end WD
end LS
namespace LS
namespace WD
open PySem L2 HD PM
local macro_rules | `(tactic| and_intros) => `(tactic| try simp -dsimp only [↓sIf, ↓sRet, ↓retD_ext, ↓retD_lst, ↓retD_al, ↓sSet, ↓sSetE, ↓sAsg, ↓sDrop, ↓sNext, ↓sFor, ↓sRetN, ↓sCont, ↓sBreak, ↓dTest, ↓dOp, ↓dC, ↓dCons, ↓dNil, ↓dTup, ↓dLst, ↓frzDs, ↓frzD_ext, ↓frzD_lst, ↓frzD_al, ↓wd_ext, ↓wd_lst, ↓wd_al, ↓wds, ↓AtS_ext, ↓AtS_lst, ↓AtL, ↓fAdd, ↓fSub, ↓fMul, ↓fDiv, ↓fMod, ↓fPow, ↓fCmp, ↓fIn, ↓fEq_ii, ↓fEq_ss, ↓fEq_bb, ↓fEq_tt, ↓fEq_ll, ↓fNe_ii, ↓fNe_ss, ↓fNe_bb, ↓fNe_tt, ↓fNe_ll, ↓fIx_l, ↓fIx_t, ↓fIx_k, ↓fIx_f, ↓GetS_some, ↓NatS_some, ↓fSl, ↓fIsN, ↓fNotN, ↓D.knN, ↓dNot, ↓dAnd, ↓dOr, ↓dAndV_w, ↓dOrV_w, ↓dNotV, ↓dIf, ↓dNeg, ↓dChain_w, ↓BlS_bl, ↓dCall_w, ↓dCallJ_w, ↓anyAl, ↓frozs, ↓froz, ↓gSet, ↓gTupD, ↓gsCons, ↓gsNil, ↓dSeq, ↓seqD_tup, ↓seqD_elst, ↓seqD_lst, ↓seqD_al, ↓dRange1, ↓dRange2, ↓dZip, ↓dCB, ↓dLc, ↓dYes, ↓dNoPart, ↓dPart, ↓dSl, ↓fLen, ↓fMin, ↓fMax, ↓fSum, ↓fAll, ↓fAny, ↓fSorted, ↓fTuple, ↓fList, ↓dRg1, ↓dRg2, ↓dLstRg, ↓dTupRg, ↓dIndex, ↓fIdx, ↓dAppend_w, ↓dExtend_w, ↓extD_lst, ↓dPopAt_w, ↓popD_int, ↓dPop_w, ↓mutD_w, ↓sSetItem_w, ↓setD_int, ↓dSortSet, ↓dTable_w, ↓wipeE, finals1, finals2, finals3, finals4, finals5, finals6, fin1_ext, fin1_lst, List.getElem?_cons_zero, List.getElem?_cons_succ, List.getElem?_nil, List.set_cons_zero, List.set_cons_succ, List.cons_append, List.nil_append, List.append_nil, List.replicate_succ, List.replicate_zero, List.map_cons, List.map_nil, List.length_cons, List.length_nil, true_and, and_true, ite_true, ite_false, if_true, if_false, Bool.false_eq_true, decide_eq_true_eq, Sl.plain, D.isSq, eq_self_iff_true, forall_const, reduceIte, true_or, or_true, atI_0, atI_1, atI_2, atI_3, ixN_0, ixN_1, ixN_2, AtS_ext, AtS_lst, FzS_lst, FzS_ext, GetS_some, NatS_some, ↓fIsi1, ↓fIsi2, BoolS_some, HD.kb_non_tuple, HD.kb_non_list, HD.kb_non_bool, HD.kb_non_int, HD.kb_non_str, HD.kb_bl_tuple, HD.kb_bl_list, HD.kb_bl_bool, HD.kb_bl_int, HD.kb_bl_str, HD.kb_int_tuple, HD.kb_int_list, HD.kb_int_bool, HD.kb_int_int, HD.kb_int_str, HD.kb_str_tuple, HD.kb_str_list, HD.kb_str_bool, HD.kb_str_int, HD.kb_str_str, HD.kb_lst_tuple, HD.kb_lst_list, HD.kb_lst_bool, HD.kb_lst_int, HD.kb_lst_str, HD.kb_tup_tuple, HD.kb_tup_list, HD.kb_tup_bool, HD.kb_tup_int, HD.kb_tup_str, ↓sFz_w, ↓FzS_lst, ↓FzS_ext, ↓dSortSetL, ↓fAbs, ↓fInt, ↓fRepr, ↓fLtT, ↓sRaise, ↓sTryKeep, ↓dCallV_w, ↓dMeth, ↓fCount, ↓fSplit, ↓seq_setE, ↓seq_set, ↓seq_drop, ↓seq_asg, ↓seq_if, ↓seq_for, ↓dStep, ↓fStep, ↓fMulT, ↓fIsB, ↓fNotB, ↓sPar, ↓dEnum, ↓dListZip, ↓dNest, ↓sSeal, ↓dNApp, ↓retD_reg, ↓dLenSet, ↓fSum2, ↓seq_putD, ↓seq_sealD, ↓dDIn, ↓dDGet, ↓sPutD, ↓dDNew, ↓dDOne, ↓sSealD, ↓dKeys, ↓keyS_dk, ↓dExtT, ↓fSortT, ↓fMinP, ↓dRemove, ↓dDInT, ↓dDGetT, ↓sPutDT, ↓dDNewT, ↓sSealDT, ↓dKeysT, ↓keyST_dt, ↓fSortK, ↓seq_putDT, ↓seq_sealDT, ↓dVarR_w, ↓dAttr, ↓dAppR, ↓dExtR_w, ↓dExtTR_w, ↓dClrR, ↓dPopR_w, ↓dIxR_w, ↓dDGetR, ↓dDInR, ↓dGet2R, ↓dPop1R, ↓dPop2R, ↓dDGetTR, ↓dDInTR, ↓dPop1TR, ↓dCallM, ↓dMethO, ↓dMake, ↓dMoveR, ↓dPtr, ↓sAttr, ↓sSetR, ↓sPutR, ↓sPutTR, ↓sSetA_w, ↓sSetG_w, ↓seq_setG, ↓seq_setA, ↓seq_attr, ↓seq_setR, ↓seq_putR, ↓seq_putTR, ↓RegS_reg, ↓CellS_some, ↓RefS_reg, ↓RefS_ar, ↓cellS_ar, ↓wd_ar, ↓seqD_ar, ↓lstO_lst, ↓insO_ins, ↓dkO_dk, ↓dkO_lk, ↓dtO_dt, ↓dtO_lk, ↓dkW_dk, ↓dtW_dt, ↓stoS_ext, ↓stoS_reg, ↓stoS_lstT, ↓stoS_lstF, ↓stoS_al, ↓ptrD_ref, ↓ptrD_int, ↓ptrD_str, ↓ptrD_bl, ↓ptrD_non, ↓ptrD_tup, ↓ptrD_tk, ↓ptrD_lst, ↓ptrD_fz, ↓setGS_lst, ↓setGS_reg, ↓setAS_ar, ↓setAS_ext, ↓intS_int, ↓tupS_tup, ↓lstS_lst, ↓lstK, ↓dkK, ↓dtK, ↓retD_reg, ↓dSortSetB, ↓fSortD, ↓fInD, ↓dCallD, ↓regC_reg, ↓dMoveL, ↓dMoveR_w, ↓dDictP, ↓froz_lst, ↓froz_ext, ↓dUpdTR, ↓gLstD, ↓fJoin, ↓fIntS, ↓fInSg, ↓fSlS, ↓dSlS, ↓dSigns_w, ↓dv0, ↓dw0, ↓dv1, ↓dw1, ↓dv2, ↓dw2, ↓dv3, ↓dw3, ↓dv4, ↓dw4, ↓dv5, ↓dw5, ↓dv6, ↓dw6, ↓dv7, ↓dw7, ↓dv8, ↓dw8, ↓dv9, ↓dw9, ↓dv10, ↓dw10, ↓dv11, ↓dw11, ↓dv12, ↓dw12, ↓dv13, ↓dw13, ↓dv14, ↓dw14, ↓dv15, ↓dw15, ↓dv16, ↓dw16, ↓dv17, ↓dw17, ↓dv18, ↓dw18, ↓dv19, ↓dw19])
def W0 : WS := ⟨[], [], [], [], .sizes⟩
theorem W0_ok : WOk W0 := ⟨by decide, (fun _ h => nomatch h), by decide, by decide, (fun _ h => nomatch h), by decide, List.Pairwise.nil, (fun _ h => nomatch h), by decide, by decide, (fun h => absurd rfl h), (fun _ => ⟨rfl, rfl, rfl⟩), by decide, (fun _ h => nomatch h)⟩
theorem prod_app (l : List Nat) (k : Nat) : prodN (l ++ [k]) = prodN l * k := by
  induction l with
  | nil => show k * 1 = 1 * k; omega
  | cons x l ih => rw [List.cons_append]; show x * prodN (l ++ [k]) = x * prodN l * k; rw [ih, Nat.mul_assoc]
theorem psz_app (S : List Nat) (l : List Nat) (k : Nat) : psz S (l ++ [k]) = psz S l * sz S k := by
  unfold psz
  rw [List.map_append]
  exact prod_app _ _
theorem close_sz (W : WS) : (closeW W).sz = W.sz := by
  unfold closeW
  split <;> rfl
theorem close_parts {W : WS} (h : WOk W) (hd : isDone W = true) : ∀ p ∈ (closeW W).ps, p.Ok W.sz ∧ ∀ x ∈ p.ws, x.natAbs ≤ 10 ^ 12 := by
  intro p hp
  unfold closeW at hp
  by_cases c : W.pl = .worths
  · rw [if_pos c] at hp
    rcases List.mem_append.1 hp with z | z
    · exact h.parts p z
    · rw [List.mem_singleton.1 z]
      have hl : W.ws.length = psz W.sz W.ns := by
        unfold isDone at hd
        rw [c] at hd
        exact of_decide_eq_true hd
      exact ⟨⟨h.rise, h.lt, hl⟩, h.wb⟩
  · rw [if_neg c] at hp
    exact h.parts p hp
theorem stroke_ok {W W' : WS} (h : WOk W) (e : strokeW W = some W') : WOk W' := by
  unfold strokeW at e
  by_cases hc : isDone W = true ∧ W.ps.length + (if W.pl = .worths then 1 else 0) ≠ 24 ∧ 2000 - allW (closeW W).ps ≠ 0
  rotate_left
  · rw [if_neg hc] at e
    cases e
  rw [if_pos hc] at e
  obtain ⟨h1, h2, h3⟩ := hc
  cases e
  obtain ⟨ca, cl⟩ := close_all h h1
  have hm : (closeW W).ps.length ≤ 23 := by
    rw [cl]
    by_cases hp : W.pl = .worths
    · have := h.m23 (by rw [hp]; decide)
      rw [if_pos hp] at h2 ⊢; omega
    · have := h.many
      rw [if_neg hp] at h2 ⊢; omega
  have hz := close_sz W
  have hp : psz (closeW W).sz [] = 1 := rfl
  have hca : ((closeW W).ps.map fun p => p.ws.length).sum ≤ 2000 := ca
  exact ⟨by rw [hz]; exact h.few, by rw [hz]; exact h.siz, by rw [hz]; exact h.pr, show (closeW W).ps.length ≤ 24 by omega, by rw [hz]; exact close_parts h h1, ca, List.Pairwise.nil, (fun _ z => nomatch z), by show psz (closeW W).sz [] ≤ 2000; rw [hp]; decide, by show allW (closeW W).ps + psz (closeW W).sz [] ≤ 2000; rw [hp]; omega, (fun _ => hm), (fun z => nomatch z), Nat.zero_le _, (fun _ z => nomatch z)⟩
theorem size_ok {W W' : WS} {o : Option Int} (h : WOk W) (hp : W.pl = .sizes) (e : sizeW W o = some W') : WOk W' := by
  cases o with
  | none => cases e
  | some i =>
    unfold sizeW at e
    by_cases hc : 1 ≤ i ∧ i.toNat ≤ 4 ∧ W.sz.length ≠ 12 ∧ prodN W.sz * i.toNat ≤ 4000
    rotate_left
    · simp only [if_neg hc] at e
      cases e
    simp only [if_pos hc] at e
    cases e
    obtain ⟨h1, h2, h3, h4⟩ := hc
    obtain ⟨f1, f2, f3⟩ := h.fresh hp
    have hfew := h.few
    refine ⟨by show (W.sz ++ [i.toNat]).length ≤ 12; rw [List.length_append, List.length_singleton]; omega, fun s hs => ?_, by show prodN (W.sz ++ [i.toNat]) ≤ 4000; rw [prod_app]; exact h4, h.many, fun p hp2 => ?_, h.all, h.rise, fun n hn => ?_, ?_, ?_, h.m23, h.fresh, ?_, h.wb⟩
    · rcases List.mem_append.1 hs with z | z
      · exact h.siz s z
      · rw [List.mem_singleton.1 z]
        omega
    · have hp2 : p ∈ W.ps := hp2
      rw [f1] at hp2
      cases hp2
    · have hn : n ∈ W.ns := hn
      rw [f2] at hn
      cases hn
    · show psz _ W.ns ≤ 2000
      rw [f2]
      exact (by decide : (1 : Nat) ≤ 2000)
    · show (W.ps.map fun p => p.ws.length).sum + psz _ W.ns ≤ 2000
      rw [f1, f2]
      exact (by decide : (0 : Nat) + 1 ≤ 2000)
    · show W.ws.length ≤ _
      rw [f3]
      exact Nat.zero_le _
theorem name_ok {W W' : WS} {cs : List Nat} (h : WOk W) (hp : W.pl = .names) (e : nameW W cs = some W') : WOk W' := by
  unfold nameW at e
  by_cases h0 : cs = [58]
  · rw [if_pos h0] at e
    cases e
    exact ⟨h.few, h.siz, h.pr, h.many, h.parts, h.all, h.rise, h.lt, h.due, h.room, (fun _ => h.m23 (by rw [hp]; decide)), (fun z => nomatch z), h.wl, h.wb⟩
  rw [if_neg h0] at e
  cases ho : numW cs 2 with
  | none => rw [ho] at e; cases e
  | some i =>
    rw [ho] at e
    have e : (if (match W.ns.getLast? with | some m => ((m + 1 : Nat) : Int) | none => 0) ≤ i ∧ i < (W.sz.length : Int) ∧ psz W.sz W.ns * sz W.sz i.toNat ≤ 2000 - allW W.ps then some { W with ns := W.ns ++ [i.toNat] } else none) = some W' := e
    by_cases hc : (match W.ns.getLast? with | some m => ((m + 1 : Nat) : Int) | none => 0) ≤ i ∧ i < (W.sz.length : Int) ∧ psz W.sz W.ns * sz W.sz i.toNat ≤ 2000 - allW W.ps
    rotate_left
    · rw [if_neg hc] at e
      cases e
    rw [if_pos hc] at e
    cases e
    obtain ⟨h1, h2, h3⟩ := hc
    have h00 : 0 ≤ i := by
      cases hl : W.ns.getLast? with
      | none => rw [hl] at h1; exact h1
      | some m => rw [hl] at h1; have h1 : ((m + 1 : Nat) : Int) ≤ i := h1; omega
    obtain ⟨k, rfl⟩ := Int.eq_ofNat_of_zero_le h00
    have hk : k < W.sz.length := by omega
    have hs := h.siz _ (sz_mem hk)
    have ha : allW W.ps ≤ 2000 := h.all
    have ep : psz W.sz (W.ns ++ [k]) = psz W.sz W.ns * sz W.sz k := psz_app ..
    have h3 : psz W.sz W.ns * sz W.sz k ≤ 2000 - allW W.ps := h3
    refine ⟨h.few, h.siz, h.pr, h.many, h.parts, h.all, ?_, fun n hn => ?_, ?_, ?_, h.m23, fun z => ?_, ?_, h.wb⟩
    · show Rising (W.ns ++ [k])
      refine List.pairwise_append.2 ⟨h.rise, List.pairwise_singleton _ _, fun x hx y hy => ?_⟩
      rw [List.mem_singleton.1 hy]
      rcases List.eq_nil_or_concat W.ns with q | ⟨l, m, q⟩
      · rw [q] at hx; cases hx
      · rw [List.concat_eq_append] at q
        rw [q, List.getLast?_append] at h1
        have h1 : ((m + 1 : Nat) : Int) ≤ (k : Int) := h1
        have hr := h.rise
        rw [q] at hx hr
        rcases List.mem_append.1 hx with z | z
        · have := (List.pairwise_append.1 hr).2.2 x z m List.mem_cons_self
          omega
        · rw [List.mem_singleton.1 z]
          omega
    · rcases List.mem_append.1 hn with z | z
      · exact h.lt n z
      · rw [List.mem_singleton.1 z]
        exact hk
    · show psz W.sz (W.ns ++ [k]) ≤ 2000
      rw [ep]; omega
    · show allW W.ps + psz W.sz (W.ns ++ [k]) ≤ 2000
      rw [ep]; omega
    · have z : W.pl = .sizes := z
      rw [hp] at z
      cases z
    · show W.ws.length ≤ psz W.sz (W.ns ++ [k])
      rw [ep]
      exact Nat.le_trans h.wl (Nat.le_mul_of_pos_right _ hs.1)
theorem worth_ok {W W' : WS} {o : Option Int} (h : WOk W) (hp : W.pl = .worths) (e : worthW W o = some W') : WOk W' := by
  cases o with
  | none => cases e
  | some i =>
    unfold worthW at e
    by_cases hc : W.ws.length ≠ psz W.sz W.ns ∧ -(10 ^ 12 : Int) ≤ i ∧ i ≤ 10 ^ 12
    rotate_left
    · simp only [if_neg hc] at e
      cases e
    simp only [if_pos hc] at e
    cases e
    obtain ⟨h1, h2, h3⟩ := hc
    have hwl := h.wl
    refine ⟨h.few, h.siz, h.pr, h.many, h.parts, h.all, h.rise, h.lt, h.due, h.room, h.m23, fun z => ?_, ?_, fun x hx => ?_⟩
    · have z : W.pl = .sizes := z
      rw [hp] at z
      cases z
    · show (W.ws ++ [i]).length ≤ psz W.sz W.ns
      rw [List.length_append, List.length_singleton]
      omega
    · rcases List.mem_append.1 hx with z | z
      · exact h.wb x z
      · rw [List.mem_singleton.1 z]
        omega
theorem tk_ok {W W' : WS} {w : List Nat} (h : WOk W) (e : tkW W w = some W') : WOk W' := by
  unfold tkW at e
  by_cases h0 : w = [47]
  · rw [if_pos h0] at e
    exact stroke_ok h e
  rw [if_neg h0] at e
  cases hp : W.pl with
  | sizes => rw [hp] at e; exact size_ok h hp e
  | names => rw [hp] at e; exact name_ok h hp e
  | worths => rw [hp] at e; exact worth_ok h hp e
theorem put_in {a dx : Addr} {x y z : OC} {rest : Cells} (h : a ≠ dx) (hr : a ∉ rest.map (·.1)) : putC ((a, x) :: (dx, z) :: rest) a y = (a, y) :: (dx, z) :: rest := by
  show (if a = a then (a, y) else (a, x)) :: (if dx = a then (a, y) else (dx, z)) :: putC rest a y = _
  rw [if_pos rfl, if_neg (Ne.symm h), putC_out hr]
def sp_Words_init : DSpec := fun args Q _ => ∃ a dx : Addr, args = [newS "Words" a dx] ∧ a ≠ dx ∧ ∀ A cs, WdOk a dx W0 A cs → Q (.ext .non) [wdQ a cs]
def t_Words_init : DTS :=
    (sSeq (sAttr "Words" "sizes" false (dVarR 0) (dLst dNil))
    (sSeq (sAttr "Words" "parts" false (dVarR 0) (dLst dNil))
    (sSeq (sAttr "Words" "names" false (dVarR 0) (dLst dNil))
    (sSeq (sAttr "Words" "worths" false (dVarR 0) (dLst dNil))
    (sAttr "Words" "place" true (dVarR 0) (dC (.str (Str.ofString "sizes"))))))))
theorem m_Words_init : Meets t_Words_init 1 0 sp_Words_init := by
  rintro args Qd Xd ⟨a, dx, rfl, nad, hQ⟩
  show t_Words_init _ _ [_]
  unfold t_Words_init
  and_intros
  refine ⟨by decide, fun s => cellS_i (if_pos rfl) ?_⟩
  and_intros
  refine ⟨by decide, fun d1 => ?_⟩
  rw [put2 nad, putFD_app (by rfl), List.nil_append]
  have m1 : a ≠ s := fun z => d1 a (by simp) (by simp [z])
  have x1 : dx ≠ s := fun z => d1 dx (by simp) (by simp [z])
  and_intros
  refine ⟨by decide, fun p => cellS_i (if_pos rfl) ?_⟩
  and_intros
  refine ⟨by decide, fun d2 => ?_⟩
  have m2 : a ≠ p := fun z => d2 a (by simp) (by simp [z])
  have s2 : s ≠ p := fun z => d2 s (by simp) (by simp [z])
  have x2 : dx ≠ p := fun z => d2 dx (by simp) (by simp [z])
  rw [show ([(a, OC.ins (Str.ofString "Words") dx [(Str.ofString "sizes", D.val (V.ref s))]), (dx, OC.own a)] ++ [(s, OC.lst [])] : Cells) = (a, OC.ins (Str.ofString "Words") dx [(Str.ofString "sizes", D.val (V.ref s))]) :: (dx, OC.own a) :: [(s, OC.lst [])] from rfl, put_in nad (by simp [m1]), putFD_app (by rfl)]
  simp only [List.cons_append, List.nil_append]
  refine ⟨by decide, fun n => cellS_i (if_pos rfl) ?_⟩
  and_intros
  refine ⟨by decide, fun d3 => ?_⟩
  have m3 : a ≠ n := fun z => d3 a (by simp) (by simp [z])
  have s3 : s ≠ n := fun z => d3 s (by simp) (by simp [z])
  have p3 : p ≠ n := fun z => d3 p (by simp) (by simp [z])
  have x3 : dx ≠ n := fun z => d3 dx (by simp) (by simp [z])
  rw [put_in nad (by simp [m1, m2]), putFD_app (by rfl)]
  simp only [List.cons_append, List.nil_append]
  and_intros
  refine ⟨by decide, fun w => cellS_i (if_pos rfl) ?_⟩
  and_intros
  refine ⟨by decide, fun d4 => ?_⟩
  have m4 : a ≠ w := fun z => d4 a (by simp) (by simp [z])
  have s4 : s ≠ w := fun z => d4 s (by simp) (by simp [z])
  have p4 : p ≠ w := fun z => d4 p (by simp) (by simp [z])
  have n4 : n ≠ w := fun z => d4 n (by simp) (by simp [z])
  have x4 : dx ≠ w := fun z => d4 dx (by simp) (by simp [z])
  rw [put_in nad (by simp [m1, m2, m3]), putFD_app (by rfl)]
  simp only [List.cons_append, List.nil_append]
  refine cellS_i (if_pos rfl) ?_
  and_intros
  refine ⟨by decide, fun _ => ?_⟩
  rw [put_in nad (by simp [m1, m2, m3, m4]), putFD_app (by rfl)]
  simp only [List.cons_append, List.nil_append, List.append_nil]
  have nd : ((([(a, OC.ins (Str.ofString "Words") dx (wdF ⟨s, p, n, w⟩ W0)), (dx, OC.own a), (s, OC.lst []), (p, OC.lst []), (n, OC.lst []), (w, OC.lst [])] : Cells)).map (·.1)).Nodup := by
    simp [nad, m1, m2, m3, m4, x1, x2, x3, x4, s2, s3, s4, p3, p4, n4]
  show Qd (.ext .non) [fin1 (newS (Str.ofString "Words") a dx) (some (wdQ a [(a, OC.ins (Str.ofString "Words") dx (wdF ⟨s, p, n, w⟩ W0)), (dx, OC.own a), (s, OC.lst []), (p, OC.lst []), (n, OC.lst []), (w, OC.lst [])]))]
  rw [show fin1 (newS (Str.ofString "Words") a dx) (some (wdQ a [(a, OC.ins (Str.ofString "Words") dx (wdF ⟨s, p, n, w⟩ W0)), (dx, OC.own a), (s, OC.lst []), (p, OC.lst []), (n, OC.lst []), (w, OC.lst [])])) = wdQ a _ from if_pos ⟨rfl, rfl⟩]
  refine hQ ⟨s, p, n, w⟩ _ ⟨nd, by simp [m1, m2, m3, m4, s2, s3, s4, p3, p4, n4], if_pos rfl, cellOf_of nd (by simp [W0]), cellOf_of nd (by simp [W0]), cellOf_of nd (by simp [W0]), cellOf_of nd (by simp [W0])⟩
end WD
end LS
namespace LS
namespace WD
open PySem L2 HD PM TL
def sgI : Int → List Nat
  | .ofNat n => numL n
  | .negSucc n => 45 :: numL (n + 1)
def numS (i : Int) : Str := Str.ofString (toString i)
theorem tl_numS (i : Int) : tl (numS i) = sgI i := by
  cases i with
  | ofNat n => exact tl_num n
  | negSucc n =>
    have h := tl_num (n + 1)
    show tl (Str.ofString ("-" ++ Nat.repr (n + 1))) = _
    have h2 : tl (Str.ofString (toString (((n + 1 : Nat)) : Int))) = ((Nat.repr (n + 1)).toList).map Char.toNat := tl_ofString _
    have h3 : tl (Str.ofString ("-" ++ Nat.repr (n + 1))) = (("-" ++ Nat.repr (n + 1)).toList).map Char.toNat := tl_ofString _
    have h4 : ((Nat.repr (n + 1)).toList).map Char.toNat = numL (n + 1) := h2.symm.trans h
    rw [h3, String.toList_append, List.map_append, h4]
    rfl
theorem sg_dig (i : Int) : ∀ c ∈ sgI i, c = 45 ∨ (48 ≤ c ∧ c ≤ 57) := by
  cases i with
  | ofNat n => exact fun c hc => .inr (numL_digits n c hc)
  | negSucc n =>
    intro c hc
    rcases List.mem_cons.1 hc with h | h
    · exact .inl h
    · exact .inr (numL_digits _ c h)
theorem sg_free (i : Int) : 32 ∉ sgI i := fun z => by
  have := sg_dig i 32 z
  omega
theorem sg_len {i : Int} {k : Nat} (hk : 0 < k) (h : i.natAbs < 10 ^ k) : (sgI i).length ≤ k + 1 := by
  cases i with
  | ofNat n => have := numL_len hk (show n < 10 ^ k from h); show (numL n).length ≤ k + 1; omega
  | negSucc n => have := numL_len hk (show n + 1 < 10 ^ k from h); show (numL (n + 1)).length + 1 ≤ k + 1; omega
def wdP (p : Part) : List (List Nat) := p.ns.map (fun n : Nat => numL n) ++ [58] :: p.ws.map sgI
def wdS (S : List Nat) (ps : List Part) : List (List Nat) := S.map (fun n : Nat => numL n) ++ ps.flatMap fun p => [47] :: wdP p
structure ShR (S : List Nat) (ps : List Part) : Prop where
  one : 0 < S.length
  few : S.length ≤ 12
  siz : ∀ s ∈ S, 1 ≤ s ∧ s ≤ 4
  pr : prodN S ≤ 4000
  many : ps.length ≤ 24
  parts : ∀ p ∈ ps, p.Ok S ∧ ∀ x ∈ p.ws, x.natAbs ≤ 10 ^ 12
  all : allW ps ≤ 2000
theorem allW_app (a b : List Part) : allW (a ++ b) = allW a + allW b := by
  unfold allW
  rw [List.map_append, List.sum_append]
end WD
end LS
namespace LS
namespace WD
open PySem L2 HD PM TL
local macro_rules | `(tactic| and_intros) => `(tactic| try simp -dsimp only [↓sIf, ↓sRet, ↓retD_ext, ↓retD_lst, ↓retD_al, ↓sSet, ↓sSetE, ↓sAsg, ↓sDrop, ↓sNext, ↓sFor, ↓sRetN, ↓sCont, ↓sBreak, ↓dTest, ↓dOp, ↓dC, ↓dCons, ↓dNil, ↓dTup, ↓dLst, ↓frzDs, ↓frzD_ext, ↓frzD_lst, ↓frzD_al, ↓wd_ext, ↓wd_lst, ↓wd_al, ↓wds, ↓AtS_ext, ↓AtS_lst, ↓AtL, ↓fAdd, ↓fSub, ↓fMul, ↓fDiv, ↓fMod, ↓fPow, ↓fCmp, ↓fIn, ↓fEq_ii, ↓fEq_ss, ↓fEq_bb, ↓fEq_tt, ↓fEq_ll, ↓fNe_ii, ↓fNe_ss, ↓fNe_bb, ↓fNe_tt, ↓fNe_ll, ↓fIx_l, ↓fIx_t, ↓fIx_k, ↓fIx_f, ↓GetS_some, ↓NatS_some, ↓fSl, ↓fIsN, ↓fNotN, ↓D.knN, ↓dNot, ↓dAnd, ↓dOr, ↓dAndV_w, ↓dOrV_w, ↓dNotV, ↓dIf, ↓dNeg, ↓dChain_w, ↓BlS_bl, ↓dCall_w, ↓dCallJ_w, ↓anyAl, ↓frozs, ↓froz, ↓gSet, ↓gTupD, ↓gsCons, ↓gsNil, ↓dSeq, ↓seqD_tup, ↓seqD_elst, ↓seqD_lst, ↓seqD_al, ↓dRange1, ↓dRange2, ↓dZip, ↓dCB, ↓dLc, ↓dYes, ↓dNoPart, ↓dPart, ↓dSl, ↓fLen, ↓fMin, ↓fMax, ↓fSum, ↓fAll, ↓fAny, ↓fSorted, ↓fTuple, ↓fList, ↓dRg1, ↓dRg2, ↓dLstRg, ↓dTupRg, ↓dIndex, ↓fIdx, ↓dAppend_w, ↓dExtend_w, ↓extD_lst, ↓dPopAt_w, ↓popD_int, ↓dPop_w, ↓mutD_w, ↓sSetItem_w, ↓setD_int, ↓dSortSet, ↓dTable_w, ↓wipeE, finals1, finals2, finals3, finals4, finals5, finals6, fin1_ext, fin1_lst, List.getElem?_cons_zero, List.getElem?_cons_succ, List.getElem?_nil, List.set_cons_zero, List.set_cons_succ, List.cons_append, List.nil_append, List.append_nil, List.replicate_succ, List.replicate_zero, List.map_cons, List.map_nil, List.length_cons, List.length_nil, true_and, and_true, ite_true, ite_false, if_true, if_false, Bool.false_eq_true, decide_eq_true_eq, Sl.plain, D.isSq, eq_self_iff_true, forall_const, reduceIte, true_or, or_true, atI_0, atI_1, atI_2, atI_3, ixN_0, ixN_1, ixN_2, AtS_ext, AtS_lst, FzS_lst, FzS_ext, GetS_some, NatS_some, ↓fIsi1, ↓fIsi2, BoolS_some, HD.kb_non_tuple, HD.kb_non_list, HD.kb_non_bool, HD.kb_non_int, HD.kb_non_str, HD.kb_bl_tuple, HD.kb_bl_list, HD.kb_bl_bool, HD.kb_bl_int, HD.kb_bl_str, HD.kb_int_tuple, HD.kb_int_list, HD.kb_int_bool, HD.kb_int_int, HD.kb_int_str, HD.kb_str_tuple, HD.kb_str_list, HD.kb_str_bool, HD.kb_str_int, HD.kb_str_str, HD.kb_lst_tuple, HD.kb_lst_list, HD.kb_lst_bool, HD.kb_lst_int, HD.kb_lst_str, HD.kb_tup_tuple, HD.kb_tup_list, HD.kb_tup_bool, HD.kb_tup_int, HD.kb_tup_str, ↓sFz_w, ↓FzS_lst, ↓FzS_ext, ↓dSortSetL, ↓fAbs, ↓fInt, ↓fRepr, ↓fLtT, ↓sRaise, ↓sTryKeep, ↓dCallV_w, ↓dMeth, ↓fCount, ↓fSplit, ↓seq_setE, ↓seq_set, ↓seq_drop, ↓seq_asg, ↓seq_if, ↓seq_for, ↓dStep, ↓fStep, ↓fMulT, ↓fIsB, ↓fNotB, ↓sPar, ↓dEnum, ↓dListZip, ↓dNest, ↓sSeal, ↓dNApp, ↓retD_reg, ↓dLenSet, ↓fSum2, ↓seq_putD, ↓seq_sealD, ↓dDIn, ↓dDGet, ↓sPutD, ↓dDNew, ↓dDOne, ↓sSealD, ↓dKeys, ↓keyS_dk, ↓dExtT, ↓fSortT, ↓fMinP, ↓dRemove, ↓dDInT, ↓dDGetT, ↓sPutDT, ↓dDNewT, ↓sSealDT, ↓dKeysT, ↓keyST_dt, ↓fSortK, ↓seq_putDT, ↓seq_sealDT, ↓dVarR_w, ↓dAttr, ↓dAppR, ↓dExtR_w, ↓dExtTR_w, ↓dClrR, ↓dPopR_w, ↓dIxR_w, ↓dDGetR, ↓dDInR, ↓dGet2R, ↓dPop1R, ↓dPop2R, ↓dDGetTR, ↓dDInTR, ↓dPop1TR, ↓dCallM, ↓dMethO, ↓dMake, ↓dMoveR, ↓dPtr, ↓sAttr, ↓sSetR, ↓sPutR, ↓sPutTR, ↓sSetA_w, ↓sSetG_w, ↓seq_setG, ↓seq_setA, ↓seq_attr, ↓seq_setR, ↓seq_putR, ↓seq_putTR, ↓RegS_reg, ↓CellS_some, ↓RefS_reg, ↓RefS_ar, ↓cellS_ar, ↓wd_ar, ↓seqD_ar, ↓lstO_lst, ↓insO_ins, ↓dkO_dk, ↓dkO_lk, ↓dtO_dt, ↓dtO_lk, ↓dkW_dk, ↓dtW_dt, ↓stoS_ext, ↓stoS_reg, ↓stoS_lstT, ↓stoS_lstF, ↓stoS_al, ↓ptrD_ref, ↓ptrD_int, ↓ptrD_str, ↓ptrD_bl, ↓ptrD_non, ↓ptrD_tup, ↓ptrD_tk, ↓ptrD_lst, ↓ptrD_fz, ↓setGS_lst, ↓setGS_reg, ↓setAS_ar, ↓setAS_ext, ↓intS_int, ↓tupS_tup, ↓lstS_lst, ↓lstK, ↓dkK, ↓dtK, ↓retD_reg, ↓dSortSetB, ↓fSortD, ↓fInD, ↓dCallD, ↓regC_reg, ↓dMoveL, ↓dMoveR_w, ↓dDictP, ↓froz_lst, ↓froz_ext, ↓dUpdTR, ↓gLstD, ↓fJoin, ↓fIntS, ↓fInSg, ↓fSlS, ↓dSlS, ↓dSigns_w, ↓dv0, ↓dw0, ↓dv1, ↓dw1, ↓dv2, ↓dw2, ↓dv3, ↓dw3, ↓dv4, ↓dw4, ↓dv5, ↓dw5, ↓dv6, ↓dw6, ↓dv7, ↓dw7, ↓dv8, ↓dw8, ↓dv9, ↓dw9, ↓dv10, ↓dw10, ↓dv11, ↓dw11, ↓dv12, ↓dw12, ↓dv13, ↓dw13, ↓dv14, ↓dw14, ↓dv15, ↓dw15, ↓dv16, ↓dw16, ↓dv17, ↓dw17, ↓dv18, ↓dw18, ↓dv19, ↓dw19])
def jt (ws : List (List Nat)) : List Nat := ws.flatMap fun w => 32 :: w
theorem jt_app (a b : List (List Nat)) : jt (a ++ b) = jt a ++ jt b := List.flatMap_append
theorem jt_cons (w : List Nat) (b : List (List Nat)) : jt (w :: b) = 32 :: w ++ jt b := List.flatMap_cons
theorem join_jt : ∀ (x : List Nat) (ys : List (List Nat)), joinL [32] (x :: ys) = x ++ jt ys
  | x, [] => (List.append_nil x).symm
  | x, y :: ys => by
    show x ++ ([32] ++ joinL [32] (y :: ys)) = _
    rw [join_jt y ys, jt_cons]
    rfl
theorem join_app {a b : List (List Nat)} (h : a ≠ []) : joinL [32] (a ++ b) = joinL [32] a ++ jt b := by
  cases a with
  | nil => exact absurd rfl h
  | cons x a => rw [List.cons_append, join_jt, join_jt, jt_app, List.append_assoc]
theorem join_gap (x : List Nat) : ∀ ys : List (List (List Nat)), (∀ y ∈ ys, y ≠ []) → joinL [32, 47, 32] (x :: ys.map (joinL [32])) = x ++ jt (ys.flatMap fun y => [47] :: y) := by
  intro ys
  induction ys generalizing x with
  | nil => exact fun _ => (List.append_nil x).symm
  | cons y ys ih =>
    intro h
    show x ++ ([32, 47, 32] ++ joinL [32, 47, 32] (joinL [32] y :: ys.map (joinL [32]))) = _
    rw [ih _ fun z hz => h z (List.mem_cons_of_mem _ hz), List.flatMap_cons, jt_app, jt_cons]
    cases y with
    | nil => exact absurd rfl (h _ List.mem_cons_self)
    | cons w y =>
      rw [join_jt, jt_cons]
      simp
def stx (S : List Nat) (ps : List Part) : Str := ⟨(joinL [32] (wdS S ps)).toArray⟩
theorem tl_stx (S : List Nat) (ps : List Part) : tl (stx S ps) = joinL [32] (wdS S ps) := rfl
theorem wdP_ne (p : Part) : wdP p ≠ [] := by
  unfold wdP
  simp
theorem sum_le {l : List (List Nat)} {k : Nat} (h : ∀ w ∈ l, w.length ≤ k) : (jt l).length ≤ l.length * (k + 1) := by
  induction l with
  | nil => exact Nat.zero_le _
  | cons w l ih =>
    rw [jt_cons, List.length_append, List.length_cons, List.length_cons, Nat.add_mul, Nat.one_mul]
    have := h w List.mem_cons_self
    have := ih fun x hx => h x (List.mem_cons_of_mem _ hx)
    omega
theorem wdP_len {S : List Nat} {p : Part} (h12 : S.length ≤ 12) (h : p.Ok S) (hb : ∀ x ∈ p.ws, x.natAbs ≤ 10 ^ 12) : (∀ w ∈ wdP p, w.length ≤ 14 ∧ 32 ∉ w) ∧ (wdP p).length ≤ 13 + p.ws.length := by
  constructor
  · intro w hw
    rcases List.mem_append.1 hw with z | z
    · obtain ⟨n, hn, rfl⟩ := List.mem_map.1 z
      have := h.lt n hn
      have := numL_len (n := n) (k := 2) (by decide) (by omega)
      exact ⟨by omega, numL_free (by decide)⟩
    · rcases List.mem_cons.1 z with z | z
      · rw [z]
        decide
      · obtain ⟨x, hx, rfl⟩ := List.mem_map.1 z
        exact ⟨sg_len (by decide) (Nat.lt_of_le_of_lt (hb x hx) (by decide)), sg_free x⟩
  · have := rising_len h.rise h.lt
    unfold wdP
    rw [List.length_append, List.length_cons, List.length_map, List.length_map]
    omega
theorem wdS_len {S : List Nat} {ps : List Part} (h : ShR S ps) : (∀ w ∈ wdS S ps, w.length ≤ 14 ∧ 32 ∉ w) ∧ (wdS S ps).length ≤ 2348 := by
  constructor
  · intro w hw
    rcases List.mem_append.1 hw with z | z
    · obtain ⟨n, hn, rfl⟩ := List.mem_map.1 z
      have := h.siz n hn
      have := numL_len (n := n) (k := 1) (by decide) (by omega)
      exact ⟨by omega, numL_free (by decide)⟩
    · obtain ⟨p, hp, z⟩ := List.mem_flatMap.1 z
      rcases List.mem_cons.1 z with z | z
      · rw [z]
        decide
      · exact (wdP_len h.few (h.parts p hp).1 (h.parts p hp).2).1 w z
  · have h1 : ∀ l : List Part, (∀ p ∈ l, p ∈ ps) → (l.flatMap fun p => [47] :: wdP p).length ≤ 14 * l.length + allW l := by
      intro l
      induction l with
      | nil => exact fun _ => Nat.zero_le _
      | cons p l ih =>
        intro hl
        have hp := hl p List.mem_cons_self
        have := (wdP_len h.few (h.parts p hp).1 (h.parts p hp).2).2
        have := ih fun q hq => hl q (List.mem_cons_of_mem _ hq)
        have e : allW (p :: l) = p.ws.length + allW l := rfl
        rw [List.flatMap_cons, List.length_append, List.length_cons, List.length_cons]
        omega
    have := h1 ps fun _ h => h
    have := h.few
    have := h.many
    have := h.all
    unfold wdS
    rw [List.length_append, List.length_map]
    omega
theorem join_len (l : List (List Nat)) : (joinL [32] l).length ≤ (jt l).length := by
  cases l with
  | nil => exact Nat.le_refl _
  | cons w l => rw [join_jt, jt_cons, List.length_append, List.length_append, List.length_cons]; omega
theorem fjoin {m : Nat} {ys : List Str} {k : Nat} {P : List Str → Prop} (h1 : ∀ y ∈ ys, y.length ≤ k) (h2 : ys.length * (k + m) ≤ 16777216) (hQ : P ys) : ∃ zs, ys.map D.str = zs.map D.str ∧ (zs.map (·.length)).sum + zs.length * m ≤ 16777216 ∧ P zs := by
  refine ⟨ys, rfl, ?_, hQ⟩
  have : ∀ l : List Str, (∀ y ∈ l, y.length ≤ k) → (l.map (·.length)).sum ≤ l.length * k := by
    intro l
    induction l with
    | nil => exact fun _ => Nat.zero_le _
    | cons y l ih =>
      intro h
      have := h y List.mem_cons_self
      have := ih fun z hz => h z (List.mem_cons_of_mem _ hz)
      rw [List.map_cons, List.sum_cons, List.length_cons, Nat.add_mul, Nat.one_mul]
      omega
  have := this ys h1
  rw [Nat.mul_add] at h2
  omega
theorem numS_len {i : Int} {k : Nat} (hk : 0 < k) (h : i.natAbs < 10 ^ k) : (numS i).length ≤ k + 1 := by
  rw [len_tl, tl_numS]
  exact sg_len hk h
theorem tl_numN (n : Nat) : tl (numS (n : Int)) = numL n := tl_numS (n : Int)
theorem fstr {i : Int} {Q : Sl → Prop} (h : i.natAbs ≤ 10 ^ 12) (hQ : Q (.ext (.str (numS i)))) : fStr [.int i] Q :=
  ⟨by
    by_cases h0 : i.natAbs = 0
    · rw [h0]; decide
    · exact Nat.lt_of_lt_of_le ((Nat.log2_lt h0).2 (Nat.lt_of_le_of_lt h (show 10 ^ 12 < 2 ^ 40 by decide))) (by decide), hQ⟩
def ptx (p : Part) : Str := Str.join (Str.ofString " ") (p.ns.map (fun n : Nat => numS (n : Int)) ++ [Str.ofString ":"] ++ p.ws.map numS)
theorem tl_ptx (p : Part) : tl (ptx p) = joinL [32] (wdP p) := by
  show TL.tl (Str.join _ _) = _
  rw [tl_join, show TL.tl (Str.ofString " ") = [32] by decide +kernel, List.map_append, List.map_append, List.map_map, List.map_map]
  unfold wdP
  rw [List.append_assoc]
  show joinL [32] (p.ns.map (fun n : Nat => tl (numS (n : Int))) ++ ([TL.tl (Str.ofString ":")] ++ p.ws.map fun x => tl (numS x))) = _
  rw [show TL.tl (Str.ofString ":") = [58] by decide +kernel]
  simp only [tl_numS]
  rfl
theorem ptx_len {S : List Nat} {p : Part} (h12 : S.length ≤ 12) (h : p.Ok S) (hb : ∀ x ∈ p.ws, x.natAbs ≤ 10 ^ 12) : (ptx p).length ≤ (13 + p.ws.length) * 15 := by
  obtain ⟨h1, h2⟩ := wdP_len h12 h hb
  have h3 := sum_le fun w hw => (h1 w hw).1
  have h4 := join_len (wdP p)
  rw [len_tl, tl_ptx]
  omega
theorem stx_eq {S : List Nat} (hS : S ≠ []) (rs : List Part) : Str.join (Str.ofString " / ") (Str.join (Str.ofString " ") (S.map fun n : Nat => numS (n : Int)) :: rs.map ptx) = stx S rs := by
  refine eq_tl ?_
  show TL.tl (Str.join _ _) = joinL [32] (wdS S rs)
  rw [tl_join, show TL.tl (Str.ofString " / ") = [32, 47, 32] by decide +kernel, List.map_cons, tl_join, show TL.tl (Str.ofString " ") = [32] by decide +kernel, List.map_map, List.map_map]
  rw [show TL.tl ∘ ptx = (fun p => joinL [32] (wdP p)) from funext tl_ptx, show (TL.tl ∘ fun n : Nat => numS (n : Int)) = (fun n : Nat => numL n) from funext tl_numN]
  rw [show rs.map (fun p => joinL [32] (wdP p)) = (rs.map wdP).map (joinL [32]) by rw [List.map_map]; rfl, join_gap _ _ fun y hy => by obtain ⟨p, _, rfl⟩ := List.mem_map.1 hy; exact wdP_ne p]
  unfold wdS
  rw [join_app (by simpa using hS), List.flatMap_map]
def sp_sheet_text : DSpec := fun args Q _ => ∃ (S : List Nat) (ps : List Part), args = [.ext (dSh S ps)] ∧ ShR S ps ∧ ∀ fin, Q (.ext (.str (stx S ps))) fin
def e1_sheet_text : DT :=
    (dCB fStr (dCons (dVar 2) dNil))
def e2_sheet_text : DT :=
    (dCB fStr (dCons (dVar 5) dNil))
def e3_sheet_text : DT :=
    (dCB fStr (dCons (dVar 6) dNil))
def b4_sheet_text : DTS :=
    (sDrop (dAppend 1 (dMeth D.isStr fJoin (dC (.str (Str.ofString " "))) (dOp fAdd (dOp fAdd (dLc (dSeq (dVar 3)) (gSet 5) dYes e2_sheet_text [5]) (dLst (dCons (dC (.str (Str.ofString ":"))) dNil))) (dLc (dSeq (dVar 4)) (gSet 6) dYes e3_sheet_text [6])))))
def k5_sheet_text : DTS :=
    (sRet (dMeth D.isStr fJoin (dC (.str (Str.ofString " / "))) (dVar 1)))
def t_sheet_text : DTS :=
    (sSeq (sSet 1 (dLst (dCons (dMeth D.isStr fJoin (dC (.str (Str.ofString " "))) (dLc (dSeq (dOp fIx (dVar 0) (dC (.int 0)))) (gSet 2) dYes e1_sheet_text [2])) dNil)))
    (sSeq (sFor (dSeq (dOp fIx (dVar 0) (dC (.int 1)))) (gTupD 2 (gsCons (gSet 3) (gsCons (gSet 4) gsNil))) b4_sheet_text)
    k5_sheet_text))
theorem m_sheet_text : Meets t_sheet_text 1 6 sp_sheet_text := by
  rintro args Qd Xd ⟨S, ps, rfl, h, hQ⟩
  show t_sheet_text _ _ [_, .un, .un, .un, .un, .un, .un]
  unfold t_sheet_text
  and_intros
  refine ⟨rfl, ?_⟩
  refine lc_map (fun n : Nat => D.int (n : Nat)) (fun n : Nat => D.str (numS (n : Int))) True.intro S (Nat.le_trans h.few (by decide)) (fun n hn R hR => ?_) fun b => ?_
  · unfold e1_sheet_text
    and_intros
    have := h.siz n hn
    exact fstr (by show n ≤ _; omega) hR
  and_intros
  rw [show S.map (fun n : Nat => D.str (numS (n : Int))) = (S.map fun n : Nat => numS (n : Int)).map D.str by rw [List.map_map]; rfl]
  refine fjoin (k := 2) (fun y hy => ?_) ?_ ?_
  · obtain ⟨n, hn, rfl⟩ := List.mem_map.1 hy
    have := h.siz n hn
    exact numS_len (by decide) (by show n < _; omega)
  · have := h.few
    rw [List.length_map, show (Str.ofString " ").length = 1 by decide +kernel]
    omega
  and_intros
  refine ⟨by decide, fun a => ?_⟩
  refine for_ind dP (fun qs env => ∃ (rs : List Part) (u2 u3 u4 u5 u6 : Sl), ps = rs ++ qs ∧ env = [.ext (dSh S ps), .lst a ((Str.join (Str.ofString " ") (S.map fun n : Nat => numS (n : Int)) :: rs.map ptx).map D.str), u2, u3, u4, u5, u6]) ?_ ?_ ps _ ⟨[], _, _, _, _, _, rfl, rfl⟩
  · rintro env ⟨rs, u2, u3, u4, u5, u6, e, rfl⟩
    rw [List.append_nil] at e
    subst e
    refine ⟨True.intro, ?_⟩
    unfold k5_sheet_text
    and_intros
    have hw : ∀ p ∈ ps, p.ws.length ≤ 2000 := fun p hp => by
      have h1 := h.all
      obtain ⟨l1, l2, e⟩ := List.append_of_mem hp
      rw [e, allW_app] at h1
      have : allW (p :: l2) = p.ws.length + allW l2 := rfl
      omega
    refine ⟨rfl, ?_⟩
    rw [← List.map_cons]
    refine fjoin (k := 30195) (fun y hy => ?_) ?_ ?_
    · rcases List.mem_cons.1 hy with z | z
      · rw [z, len_tl]
        show (TL.tl (Str.join _ _)).length ≤ _
        rw [tl_join, show TL.tl (Str.ofString " ") = [32] by decide +kernel]
        have h1 := join_len ((S.map fun n : Nat => numS (n : Int)).map TL.tl)
        have h2 := sum_le (l := (S.map fun n : Nat => numS (n : Int)).map TL.tl) (k := 2) fun w hw => by
          rw [List.map_map] at hw
          obtain ⟨n, hn, rfl⟩ := List.mem_map.1 hw
          have := h.siz n hn
          show (TL.tl (numS (n : Int))).length ≤ 2
          rw [← TL.len_tl]
          exact numS_len (by decide) (by show n < _; omega)
        rw [List.length_map, List.length_map] at h2
        have := h.few
        omega
      · obtain ⟨p, hp, rfl⟩ := List.mem_map.1 z
        have := ptx_len h.few (h.parts p hp).1 (h.parts p hp).2
        have := hw p hp
        omega
    · have := h.many
      rw [List.length_cons, List.length_map, show (Str.ofString " / ").length = 3 by decide +kernel]
      omega
    rw [stx_eq (fun z => by have := h.one; rw [z] at this; exact absurd this (by decide))]
    exact hQ _
  · rintro q qs env N ⟨rs, u2, u3, u4, u5, u6, e, rfl⟩ hN
    refine ⟨True.intro, ?_⟩
    unfold b4_sheet_text
    and_intros
    have hq := h.parts q (by rw [e]; simp)
    have hns := rising_len hq.1.rise hq.1.lt
    have h12 := h.few
    have hql : q.ws.length ≤ 2000 := by
      have h1 := h.all
      rw [e, allW_app] at h1
      have : allW (q :: qs) = q.ws.length + allW qs := rfl
      omega
    refine ⟨rfl, ?_⟩
    refine lc_map (fun n : Nat => D.int (n : Nat)) (fun n : Nat => D.str (numS (n : Int))) True.intro q.ns (Nat.le_trans (show _ ≤ 100 by omega) (by decide)) (fun n hn R hR => ?_) fun b => ?_
    · unfold e2_sheet_text
      and_intros
      have := hq.1.lt n hn
      exact fstr (by show n ≤ _; omega) hR
    and_intros
    refine ⟨by decide, by rw [List.length_map]; exact Nat.le_trans (show _ ≤ 100 by omega) (by decide), ?_⟩
    refine lc_map (fun x : Int => D.int x) (fun x : Int => D.str (numS x)) True.intro q.ws (Nat.le_trans hql (by decide)) (fun x hx R hR => ?_) fun b => ?_
    · unfold e3_sheet_text
      and_intros
      exact fstr (hq.2 x hx) hR
    and_intros
    refine ⟨by rw [List.length_append, List.length_map, List.length_map]; exact Nat.le_trans (show _ ≤ 3000 by simp; omega) (by decide), ?_⟩
    rw [show (q.ns.map (fun n : Nat => D.str (numS (n : Int))) ++ [D.str (Str.ofString ":")] ++ q.ws.map (fun x : Int => D.str (numS x))) = (q.ns.map (fun n : Nat => numS (n : Int)) ++ [Str.ofString ":"] ++ q.ws.map numS).map D.str by rw [List.map_append, List.map_append, List.map_map, List.map_map]; rfl]
    refine fjoin (k := 14) (fun y hy => ?_) ?_ ?_
    · rcases List.mem_append.1 hy with z | z
      · rcases List.mem_append.1 z with z | z
        · obtain ⟨n, hn, rfl⟩ := List.mem_map.1 z
          have := hq.1.lt n hn
          exact Nat.le_trans (numS_len (k := 2) (by decide) (by show n < _; omega)) (by decide)
        · rw [List.mem_singleton.1 z]
          decide +kernel
      · obtain ⟨x, hx, rfl⟩ := List.mem_map.1 z
        exact numS_len (k := 13) (by decide) (Nat.lt_of_le_of_lt (hq.2 x hx) (by decide))
    · rw [List.length_append, List.length_append, List.length_map, List.length_map, show (Str.ofString " ").length = 1 by decide +kernel, List.length_singleton]
      omega
    and_intros
    refine ⟨?_, hN _ ⟨rs ++ [q], u2, .ext (.tup (nD q.ns)), .ext (.tup (iD q.ws)), .un, .un, by rw [e, List.append_assoc]; rfl, ?_⟩⟩
    · have := h.many
      rw [e, List.length_append] at this
      rw [List.length_map, List.length_map]
      exact Nat.lt_of_le_of_lt (show _ ≤ 100 by omega) (by decide)
    · rw [List.map_append, List.map_cons, List.map_append]
      rfl
end WD
end LS
namespace HD
open PySem PyProof.Rows L2
def mgK (kvs more : List (Key × D)) : List (Key × D) := more.foldl (fun acc p => ptK acc p.1 p.2) kvs
section
variable {G : GG} {N : List Str} {sc : SC} {k : Nat} {a b : Expr} {ta tb : DT} {apos cpos : Pos}
def dUpdKR (t te : DT) : DT := fun Ex env Q => t Ex env fun x env1 => cellS env1 x dkK ∧ te Ex env1 fun y env2 => cellS env2 x fun i b r cs oc => dkW oc fun kvs => ∃ b2 more, y = .reg (.val (.ref b2)) [(b2, .dk more)] ∧ kvs.length + more.length ≤ sizeLine ∧
  Q (.ext .non) (env2.set i (.reg r (putC cs b (.dk (mgK kvs more)))))
end
section
variable {G : GG} {N : List Str} {sc : SC} {k : Nat} {a b : Expr} {ta tb : DT} {p p2 pos pos2 : Pos}
def dDictZipK (ta tb : DT) : DT := fun Ex env Q => ta Ex env fun x env1 => tb Ex env1 fun y env2 => seqD env2 x fun xs _ => seqD env2 y fun ys _ => ∃ kvs : List (Key × D), xs = kvs.map (fun p => kD p.1) ∧ ys = kvs.map (·.2) ∧ ∀ a, Q (dkS a (mgK [] kvs)) env2
end
section
variable {G : GG} {N : List Str} {sc : SC} {k : Nat} {a : Expr} {ta : DT} {p pos : Pos}
def dDictC (ta : DT) : DT := fun Ex env Q => ta Ex env fun x env1 => cellS env1 x fun _ _ _ _ oc => dkO oc fun kvs => ∀ a, Q (dkS a kvs) env1
end
end HD
namespace HD
open PySem PyProof.Rows L2
section
variable {G : GG} {N : List Str} {sc : SC} {k : Nat} {x : Str} {py apos cpos : Pos}
def dClear (i : Nat) : DT := fun _ env Q => AtL env[i]? fun a _ => mutD env i a (fun _ q => q .non []) Q
end
end HD
namespace HD
open PySem PySem.Spec PyProof.Rows L2
section
variable {G : GG} {N : List Str} {sc : SC} {k : Nat} {a : Expr} {ta : DT} {p apos cpos pos : Pos}
def dListItems (ta : DT) : DT := fun Ex env Q => ta Ex env fun x env1 => ∃ b kvs, x = dkS b kvs ∧ ∀ a, Q (.lst a (kvs.map fun q => D.tup [kD q.1, q.2])) env1
end
end HD
namespace HD
open PySem PySem.Spec PyProof.Rows L2
section
variable {G : GG} {N : List Str} {sc : SC} {k : Nat} {a : Expr} {ta : DT} {p pos : Pos}
def dLenK (ta : DT) : DT := fun Ex env Q => ta Ex env fun x env1 => cellS env1 x fun _ _ _ _ oc => dkO oc fun kvs => Q (.ext (.int kvs.length)) env1
def dSortKI (ta : DT) : DT := fun Ex env Q => ta Ex env fun x env1 => cellS env1 x fun _ _ _ _ oc => dkO oc fun kvs => ∃ ks : List Int, kvs.map (·.1) = ks.map Sum.inl ∧ ks.length < 64 ∧ ∀ (ys : List Int) (b : Addr), ys.Perm ks → ys.Pairwise (· ≤ ·) → Q (.lst b (ys.map D.int)) env1
end
end HD
namespace HD
open PySem PySem.Spec PyProof.Rows L2
section
variable {G : GG} {N : List Str} {sc : SC} {k : Nat} {a : Expr} {ta : DT} {p pos : Pos} {y : Str} {cs : List Str}
def dInC (neg : Bool) (cs : List Str) (ta : DT) : DT := fun Ex env Q => ta Ex env fun x env1 => wd env1 x fun d => match d with
  | .str z => Q (.ext (.bl (if neg then !decide (z ∈ cs) else decide (z ∈ cs)))) env1
  | _ => False
end
end HD
namespace HD
open PySem PySem.Spec PyProof.Rows L2
section
variable {G : GG} {N : List Str} {sc : SC} {k : Nat} {a b : Expr} {ta tb : DT} {p apos cpos : Pos} {y : Str} {kvs : List (Str × Int)}
def dGetC (kvs : List (Str × Int)) (ta tb : DT) : DT := fun Ex env Q => ta Ex env fun x env1 => tb Ex env1 fun y env2 => wd env2 x fun d => match y with
  | .ext d' => (match d with
    | .str z => Q (.ext (match luK kvs z with | some i => .int i | none => d')) env2
    | _ => False)
  | _ => False
end
end HD
namespace HD
open PySem PySem.Spec PyProof.Rows L2
def nonQ (x : Sl) (env : Env') (Q : Sl → Env' → Prop) : Prop := match x with
  | .ext d => d.knN = true ∧ Q (.ext (.bl d.isNon)) env
  | .ar _ _ => Q (.ext (.bl false)) env
  | _ => False
def dIsNR (t : DT) : DT := fun Ex env Q => t Ex env fun x env1 => nonQ x env1 Q
end HD
namespace HD
open PySem PySem.Spec PyProof.Rows L2
def fMulS : D → D → (Sl → Prop) → Prop
  | .str z, .int k, Q => (k = 0 ∨ k = 1) ∧ Q (.ext (.str (if k = 0 then Str.empty else z)))
  | _, _, _ => False
end HD
namespace HD
open PySem PySem.Spec PyProof.Rows L2
theorem c_notinSg : CmpR .NotIn (fInSg true) := ⟨fun K => fun x y H Q => ∃ (c : Nat) (z : Str), x = .str ⟨#[c]⟩ ∧ y = .str z ∧ Q (.bl (!decide (c ∈ z.cps.toList))) H, fun _ F H v u d d' Q R fh h1 h2 hf ha => by
    unfold fInSg at hf
    split at hf
    · obtain ⟨c, rfl, q⟩ := hf
      exact ⟨c, _, h1.str, h2.str, ha.bl fh (by rw [Bool.true_bne] at q; exact q)⟩
    · exact hf.elim, fun _ h => op_notIn_sign⟩
def fSIdx (d d' : D) (Q : Sl → Prop) : Prop := match d, d' with
  | .str a, .str b => ∃ (i : Nat) (rest : List Nat), Builtin.Str.occurrences a b 0 a.length 1 = i :: rest ∧ Q (.ext (.int (i : Nat)))
  | _, _ => False
theorem pr_sidx (K : PySem.W.Frag) : Pr2 K (fun v u H Q => ∃ a b i rest, v = .str a ∧ [u] = [.str b] ∧ Builtin.Str.occurrences a b 0 a.length 1 = i :: rest ∧ Q (.int (i : Nat)) H) fSIdx := fun F H v u d d' Q R fh r1 r2 h ha => by
  cases d <;> try exact h.elim
  cases d' <;> try exact h.elim
  rename_i a b
  obtain ⟨i, rest, f1, q⟩ := h
  exact ⟨a, b, i, rest, r1.str, by rw [r2.str], f1, ha.int fh q⟩
section
variable {G : GG} {N : List Str} {sc : SC} {k : Nat} {a b : Expr} {ta tb : DT} {apos cpos pos : Pos}
theorem de_sindex (ha : DE G N sc k a ta) (hb : DE G N sc k b tb) (hw : FewArgs a "index" b [] cpos := by intro _; exact ⟨rfl, rfl, rfl, rfl⟩) (hline : (apos.endLine == cpos.line) = true := by rfl) : DE G N sc k (.Call (.Attribute a "index" apos) [b] [] cpos) (dMeth D.isStr fSIdx ta tb) :=
  de_meth (r := fun K => fun x xs H Q => ∃ a b i rest, x = .str a ∧ xs = [.str b] ∧ Builtin.Str.occurrences a b 0 a.length 1 = i :: rest ∧ Q (.int (i : Nat)) H) PySem.F.plainAttrs_str PySem.F.slot_str_index PySem.F.type_str_index (fun _ => mt_sindex) (fun _ => ty_str) pr_sidx ha hb hw hline
end
theorem rep_size (x : Array Nat) : ∀ (n : Nat) (acc : Array Nat), ((List.replicate n x).foldl (· ++ ·) acc).size = acc.size + x.size * n := by
  intro n
  induction n with
  | zero => intro acc; rw [Nat.mul_zero]; rfl
  | succ n ih =>
    intro acc
    rw [List.replicate_succ, List.foldl_cons, ih, Array.size_append, Nat.mul_succ]
    omega
def rMulN : R2 := fun x y H Q => ∃ (z : Str) (n : Nat), x = .str z ∧ y = .int (n : Nat) ∧ n ≤ 100000 ∧ z.length * n ≤ 1000000 ∧ ∀ w : Str, w.length = z.length * n → Q (.str w) H
theorem op_mulN {X : Cx} : OpR X (binaryOp .Mult) rMulN := by
  intro pins s σ H x y v u Q I rx ry h
  obtain ⟨z, n, rfl, rfl, hn, hz, q⟩ := h
  obtain ⟨t, rfl⟩ := rx
  obtain ⟨t2, rfl⟩ := ry
  by_cases h0 : n = 0
  · subst h0
    exact PySem.P.mul_str_none (by decide) (by decide) ⟨.str Str.empty, H, I.tok _, ⟨_, rfl⟩, q _ rfl⟩
  have hlen : ((z.length : Nat) : Int) * ((n : Nat) : Int) ≤ 1000000 := by have h := Int.ofNat_le.2 hz; rw [Int.natCast_mul] at h; exact h
  refine PySem.P.mul_str ?_ (fun _ _ => ?_) (fun _ _ => ?_) ?_
  · simp only [Bool.or_eq_false_iff, decide_eq_false_iff_not]
    omega
  · have h1 : (0 : Int) < ((n : Nat) : Int) := by omega
    have h2 : ((z.length : Nat) : Int) ≤ 1000000 := by
      have : z.length * 1 ≤ z.length * n := Nat.mul_le_mul_left _ (by omega)
      omega
    have h3 : (1000000 : Int) ≤ (2 ^ 63 - 1) / ((n : Nat) : Int) := by
      rw [Int.le_ediv_iff_mul_le h1]
      omega
    omega
  · have : z.length * n ≤ sizeLine := Nat.le_trans hz (by decide)
    rw [Int.toNat_natCast]
    exact decide_eq_false (by omega)
  · rw [if_neg (by omega)]
    split
    · rename_i hc
      rw [Bool.or_eq_true, beq_iff_eq, beq_iff_eq] at hc
      refine ⟨.str z, H, I, ⟨_, rfl⟩, q z ?_⟩
      rcases hc with hc | hc
      · rw [show n = 1 by omega, Nat.mul_one]
      · rw [hc, Nat.zero_mul]
    · have e : (Str.mk ((List.replicate ((n : Nat) : Int).toNat z.cps).foldl (· ++ ·) #[])).length = z.length * n := by
        show ((List.replicate ((n : Nat) : Int).toNat z.cps).foldl (· ++ ·) #[]).size = _
        rw [rep_size, Int.toNat_natCast]
        exact Nat.zero_add _
      exact ⟨by rw [e]; exact Nat.le_trans hz (by decide), .str _, H, I.tok _, ⟨_, rfl⟩, q _ e⟩
def fMulN : D → D → (Sl → Prop) → Prop
  | .str z, .int k, Q => ∃ n : Nat, k = (n : Nat) ∧ n ≤ 100000 ∧ z.length * n ≤ 1000000 ∧ ∀ w : Str, w.length = z.length * n → Q (.ext (.str w))
  | _, _, _ => False
theorem pr_mulN {K : PySem.W.Frag} : Pr2 K rMulN fMulN := fun F H v u d d' Q R fh h1 h2 hf ha => by
  unfold fMulN at hf
  split at hf
  · obtain ⟨n, rfl, e1, e2, q⟩ := hf
    exact ⟨_, n, h1.str, h2.int, e1, e2, fun w hw => ha.str fh (q w hw)⟩
  · exact hf.elim
theorem de_mulN {G : GG} {N : List Str} {sc : SC} {k : Nat} {a b : Expr} {ta tb : DT} {pos : Pos} (ha : DE G N sc k a ta) (hb : DE G N sc k b tb) : DE G N sc k (.BinOp a .Mult b pos) (dOp fMulN ta tb) := de_bin (r := fun _ => rMulN) (fun _ => pr_mulN) (fun _ => op_mulN) ha hb
end HD
namespace LS
namespace WD
namespace RF
open PySem L2 HD PM
local macro_rules | `(tactic| and_intros) => `(tactic| try simp -dsimp only [↓sIf, ↓sRet, ↓retD_ext, ↓retD_lst, ↓retD_al, ↓sSet, ↓sSetE, ↓sAsg, ↓sDrop, ↓sNext, ↓sFor, ↓sRetN, ↓sCont, ↓sBreak, ↓dTest, ↓dOp, ↓dC, ↓dCons, ↓dNil, ↓dTup, ↓dLst, ↓frzDs, ↓frzD_ext, ↓frzD_lst, ↓frzD_al, ↓wd_ext, ↓wd_lst, ↓wd_al, ↓wds, ↓AtS_ext, ↓AtS_lst, ↓AtL, ↓fAdd, ↓fSub, ↓fMul, ↓fDiv, ↓fMod, ↓fPow, ↓fCmp, ↓fIn, ↓fEq_ii, ↓fEq_ss, ↓fEq_bb, ↓fEq_tt, ↓fEq_ll, ↓fNe_ii, ↓fNe_ss, ↓fNe_bb, ↓fNe_tt, ↓fNe_ll, ↓fIx_l, ↓fIx_t, ↓fIx_k, ↓fIx_f, ↓GetS_some, ↓NatS_some, ↓fSl, ↓fIsN, ↓fNotN, ↓D.knN, ↓dNot, ↓dAnd, ↓dOr, ↓dAndV_w, ↓dOrV_w, ↓dNotV, ↓dIf, ↓dNeg, ↓dChain_w, ↓BlS_bl, ↓dCall_w, ↓dCallJ_w, ↓anyAl, ↓frozs, ↓froz, ↓gSet, ↓gTupD, ↓gsCons, ↓gsNil, ↓dSeq, ↓seqD_tup, ↓seqD_elst, ↓seqD_lst, ↓seqD_al, ↓dRange1, ↓dRange2, ↓dZip, ↓dCB, ↓dLc, ↓dYes, ↓dNoPart, ↓dPart, ↓dSl, ↓fLen, ↓fMin, ↓fMax, ↓fSum, ↓fAll, ↓fAny, ↓fSorted, ↓fTuple, ↓fList, ↓dRg1, ↓dRg2, ↓dLstRg, ↓dTupRg, ↓dIndex, ↓fIdx, ↓dAppend_w, ↓dExtend_w, ↓extD_lst, ↓dPopAt_w, ↓popD_int, ↓dPop_w, ↓mutD_w, ↓sSetItem_w, ↓setD_int, ↓dSortSet, ↓dTable_w, ↓wipeE, finals1, finals2, finals3, finals4, finals5, finals6, fin1_ext, fin1_lst, List.getElem?_cons_zero, List.getElem?_cons_succ, List.getElem?_nil, List.set_cons_zero, List.set_cons_succ, List.cons_append, List.nil_append, List.append_nil, List.replicate_succ, List.replicate_zero, List.map_cons, List.map_nil, List.length_cons, List.length_nil, true_and, and_true, ite_true, ite_false, if_true, if_false, Bool.false_eq_true, decide_eq_true_eq, Sl.plain, D.isSq, eq_self_iff_true, forall_const, reduceIte, true_or, or_true, atI_0, atI_1, atI_2, atI_3, ixN_0, ixN_1, ixN_2, AtS_ext, AtS_lst, FzS_lst, FzS_ext, GetS_some, NatS_some, ↓fIsi1, ↓fIsi2, BoolS_some, HD.kb_non_tuple, HD.kb_non_list, HD.kb_non_bool, HD.kb_non_int, HD.kb_non_str, HD.kb_bl_tuple, HD.kb_bl_list, HD.kb_bl_bool, HD.kb_bl_int, HD.kb_bl_str, HD.kb_int_tuple, HD.kb_int_list, HD.kb_int_bool, HD.kb_int_int, HD.kb_int_str, HD.kb_str_tuple, HD.kb_str_list, HD.kb_str_bool, HD.kb_str_int, HD.kb_str_str, HD.kb_lst_tuple, HD.kb_lst_list, HD.kb_lst_bool, HD.kb_lst_int, HD.kb_lst_str, HD.kb_tup_tuple, HD.kb_tup_list, HD.kb_tup_bool, HD.kb_tup_int, HD.kb_tup_str, ↓sFz_w, ↓FzS_lst, ↓FzS_ext, ↓dSortSetL, ↓fAbs, ↓fInt, ↓fRepr, ↓fLtT, ↓sRaise, ↓sTryKeep, ↓dCallV_w, ↓dMeth, ↓fCount, ↓fSplit, ↓seq_setE, ↓seq_set, ↓seq_drop, ↓seq_asg, ↓seq_if, ↓seq_for, ↓dStep, ↓fStep, ↓fMulT, ↓fIsB, ↓fNotB, ↓sPar, ↓dEnum, ↓dListZip, ↓dNest, ↓sSeal, ↓dNApp, ↓retD_reg, ↓dLenSet, ↓fSum2, ↓seq_putD, ↓seq_sealD, ↓dDIn, ↓dDGet, ↓sPutD, ↓dDNew, ↓dDOne, ↓sSealD, ↓dKeys, ↓keyS_dk, ↓dExtT, ↓fSortT, ↓fMinP, ↓dRemove, ↓dDInT, ↓dDGetT, ↓sPutDT, ↓dDNewT, ↓sSealDT, ↓dKeysT, ↓keyST_dt, ↓fSortK, ↓seq_putDT, ↓seq_sealDT, ↓dVarR_w, ↓dAttr, ↓dAppR, ↓dExtR_w, ↓dExtTR_w, ↓dClrR, ↓dPopR_w, ↓dIxR_w, ↓dDGetR, ↓dDInR, ↓dGet2R, ↓dPop1R, ↓dPop2R, ↓dDGetTR, ↓dDInTR, ↓dPop1TR, ↓dCallM, ↓dMethO, ↓dMake, ↓dMoveR, ↓dPtr, ↓sAttr, ↓sSetR, ↓sPutR, ↓sPutTR, ↓sSetA_w, ↓sSetG_w, ↓seq_setG, ↓seq_setA, ↓seq_attr, ↓seq_setR, ↓seq_putR, ↓seq_putTR, ↓RegS_reg, ↓CellS_some, ↓RefS_reg, ↓RefS_ar, ↓cellS_ar, ↓wd_ar, ↓seqD_ar, ↓lstO_lst, ↓insO_ins, ↓dkO_dk, ↓dkO_lk, ↓dtO_dt, ↓dtO_lk, ↓dkW_dk, ↓dtW_dt, ↓stoS_ext, ↓stoS_reg, ↓stoS_lstT, ↓stoS_lstF, ↓stoS_al, ↓ptrD_ref, ↓ptrD_int, ↓ptrD_str, ↓ptrD_bl, ↓ptrD_non, ↓ptrD_tup, ↓ptrD_tk, ↓ptrD_lst, ↓ptrD_fz, ↓setGS_lst, ↓setGS_reg, ↓setAS_ar, ↓setAS_ext, ↓intS_int, ↓tupS_tup, ↓lstS_lst, ↓lstK, ↓dkK, ↓dtK, ↓retD_reg, ↓dSortSetB, ↓fSortD, ↓fInD, ↓dCallD, ↓regC_reg, ↓dMoveL, ↓dMoveR_w, ↓dDictP, ↓froz_lst, ↓froz_ext, ↓dUpdTR, ↓dUpdKR, ↓dDictZipK, ↓dDictC, ↓gLstD, ↓dClear, ↓fStr, ↓dListItems, ↓dLenK, ↓dSortKI, ↓dInC, ↓fJoin, ↓fIntS, ↓fInSg, ↓fSlS, ↓dSlS, ↓dSigns_w, ↓fMulS, ↓dIsNR, ↓nonQ, ↓sRaiseT, ↓sTryKeepN, ↓dExcAt, ↓fSIdx, ↓fMulN, ↓dGetC, ↓dInC, ↓dv0, ↓dw0, ↓dv1, ↓dw1, ↓dv2, ↓dw2, ↓dv3, ↓dw3, ↓dv4, ↓dw4, ↓dv5, ↓dw5, ↓dv6, ↓dw6, ↓dv7, ↓dw7, ↓dv8, ↓dw8, ↓dv9, ↓dw9, ↓dv10, ↓dw10, ↓dv11, ↓dw11, ↓dv12, ↓dw12, ↓dv13, ↓dw13, ↓dv14, ↓dw14, ↓dv15, ↓dw15, ↓dv16, ↓dw16, ↓dv17, ↓dw17, ↓dv18, ↓dw18, ↓dv19, ↓dw19])
def msL (ws : List (List Nat)) : Nat := (ws.map (·.length)).sum + ws.length
theorem ms_spl : ∀ (l acc : List Nat), msL (TL.spl [32] 0 acc l) = acc.length + l.length + 1
  | [], acc => by
    rw [TL.spl_nil]
    show acc.length + 0 + 1 = _
    rfl
  | c :: r, acc => by
    cases h : TL.pre [32] (c :: r) with
    | true =>
      rw [TL.spl_hit h]
      have := ms_spl r []
      have e : TL.spl [32] ([32].length - 1) [] r = TL.spl [32] 0 [] r := rfl
      rw [e]
      unfold msL at this ⊢
      rw [List.length_nil] at this
      simp only [List.map_cons, List.sum_cons, List.length_cons]
      omega
    | false =>
      rw [TL.spl_miss h, ms_spl r (acc ++ [c]), List.length_append, List.length_cons, List.length_cons]
      show acc.length + (0 + 1) + r.length + 1 = _
      omega
def msS (ws : List Str) : Nat := (ws.map (·.length)).sum + ws.length
theorem ms_tl (ws : List Str) : msS ws = msL (ws.map tl) := by
  unfold msS msL
  rw [List.map_map, List.length_map]
  have : (fun x : Str => x.length) = (fun x : List Nat => x.length) ∘ tl := funext fun x => len_tl x
  rw [this]
theorem ms_split (x : Str) : msS (Txt.split x (Str.ofString " ")) = x.length + 1 := by
  have e : TL.tl (Str.ofString " ") = [32] := by decide +kernel
  rw [ms_tl, show (Txt.split x (Str.ofString " ")).map tl = TL.spl [32] 0 [] (tl x) by rw [← e]; exact TL.split_spl _ _ (by rw [e]; decide) (TL.kind_ok (by decide +kernel)), ms_spl, len_tl]
  show 0 + _ + 1 = _
  omega
theorem ms_mem {ws : List Str} {w : Str} (h : w ∈ ws) : w.length + 1 ≤ msS ws := by
  induction ws with
  | nil => cases h
  | cons v ws ih =>
    have e : msS (v :: ws) = v.length + 1 + msS ws := by
      unfold msS
      rw [List.map_cons, List.sum_cons, List.length_cons]
      omega
    rw [e]
    rcases List.mem_cons.1 h with z | z
    · rw [z]; omega
    · have := ih z; omega
theorem split_len {x w : Str} (h : w ∈ Txt.split x (Str.ofString " ")) : w.length ≤ x.length := by
  have := ms_mem h
  rw [ms_split] at this
  omega
def readR : WS → Nat → List (List Nat) → WS ⊕ Nat
  | W, k, [] => if isDone W = true then .inl W else .inr k
  | W, k, w :: ws => match tkW W w with
    | some W' => readR W' (k + 1) ws
    | none => .inr k
def wordsL (x : Str) : List (List Nat) := (Txt.split x (Str.ofString " ")).map tl
def sp_read_sheet : DSpec := fun args Q X => ∃ x : Str, args = [.ext (.str x)] ∧ x.length ≤ 90000 ∧ (∀ W, readR W0 0 (wordsL x) = .inl W → ∀ fin, Q (.ext (dSh (closeW W).sz (closeW W).ps)) fin) ∧ (∀ k, readR W0 0 (wordsL x) = .inr k → ∀ fin, X (ntS k) fin)
def b1_read_sheet : DTS :=
    (sIf (dNot (dTest (dMethO "Words" "take" sp_Words_take [1, 0] (dVarR 2) (dCons (dVar 4) dNil)))) (sRaiseT (dVar 3)) sNext)
def k2_read_sheet : DTS :=
    (sRet (dTup (dCons (dCB fTuple (dCons (dAttr "Words" "sizes" (dVarR 2)) dNil)) (dCons (dCB fTuple (dCons (dAttr "Words" "parts" (dVarR 2)) dNil)) dNil))))
def k3_read_sheet : DTS :=
    (sSeq (sDrop (dMethO "Words" "close" sp_Words_close [1] (dVarR 2) dNil))
    k2_read_sheet)
def k4_read_sheet : DTS :=
    (sSeq (sIf (dNot (dTest (dMethO "Words" "is_done" sp_Words_is_done [1] (dVarR 2) dNil))) (sRaiseT (dCB fLen (dCons (dVar 1) dNil))) sNext)
    k3_read_sheet)
def k5_read_sheet : DTS :=
    (sSeq (sFor (dEnum (dVar 1)) (gTupD 2 (gsCons (gSet 3) (gsCons (gSet 4) gsNil))) b1_read_sheet)
    k4_read_sheet)
def k6_read_sheet : DTS :=
    (sSeq (sSet 2 (dMake "Words" sp_Words_init [] dNil))
    k5_read_sheet)
def t_read_sheet : DTS :=
    (sSeq (sSetE 1 (dMeth D.isStr fSplit (dVar 0) (dC (.str (Str.ofString " ")))))
    k6_read_sheet)
theorem m_read_sheet : Meets t_read_sheet 1 4 sp_read_sheet := by
  rintro args Qd Xd ⟨x, rfl, hl, hQ, hX⟩
  have hw : ∀ w ∈ Txt.split x (Str.ofString " "), w.length ≤ 100000 := fun w h => Nat.le_trans (split_len h) (by omega)
  unfold wordsL at hQ hX
  show t_read_sheet _ _ [_, .un, .un, .un, .un]
  unfold t_read_sheet
  and_intros
  refine ⟨rfl, by decide +kernel, Nat.le_trans (show _ ≤ 100000 by omega) (by decide), ?_⟩
  unfold k6_read_sheet
  and_intros
  show ∀ a dx, a ≠ dx → sp_Words_init [newS "Words" a dx] _ _
  intro a dx nad
  refine ⟨a, dx, rfl, nad, fun A cs h => ?_⟩
  refine ⟨rfl, True.intro, ?_⟩
  and_intros
  unfold k5_read_sheet
  and_intros
  generalize hws : Txt.split x (Str.ofString " ") = ws at hw hQ hX ⊢
  have een : enD (ws.map D.str) = ws.zipIdx.map fun p : Str × Nat => D.tk [.int (p.2 : Nat), .str p.1] := by
    unfold enD
    rw [List.zipIdx_map, List.map_map]
    rfl
  rw [een]
  have hzl : ws.zipIdx.map (fun p => tl p.1) = ws.map tl := by
    rw [show (fun p : Str × Nat => tl p.1) = tl ∘ Prod.fst from rfl, ← List.map_map, List.zipIdx_map_fst]
  refine for_ind (fun p : Str × Nat => D.tk [.int (p.2 : Nat), .str p.1]) (fun qs env => ∃ (W1 : WS) (A : WA) (cs : Cells) (k : Nat) (u3 u4 : Sl), env = [.ext (.str x), .ext (.lst (ws.map D.str)), wdQ a cs, u3, u4] ∧ WdOk a dx W1 A cs ∧ WOk W1 ∧ readR W1 k (qs.map fun p => tl p.1) = readR W0 0 (ws.map tl) ∧ k + qs.length = ws.length ∧ (∀ j q, qs[j]? = some q → q.2 = k + j) ∧ ∀ q ∈ qs, q.1 ∈ ws) ?_ ?_ ws.zipIdx _ ⟨W0, A, cs, 0, _, _, rfl, h, W0_ok, by rw [hzl], by rw [List.length_zipIdx]; omega, fun j q hj => ?_, fun q hq => ?_⟩
  rotate_right
  · have := List.mem_zipIdx' hq
    rw [this.2]
    exact List.getElem_mem _
  · rintro env ⟨W1, A, cs, k, u3, u4, rfl, h, hW, hr, hk, _⟩
    refine ⟨True.intro, ?_⟩
    unfold k4_read_sheet
    and_intros
    refine ⟨objS_i rfl h.o rfl, wcall0 rfl ⟨a, dx, W1, A, cs, rfl, h, hW, True.intro, ?_⟩⟩
    simp only [giveM, give1]
    and_intros
    rw [List.map_nil] at hr
    have hr : (if isDone W1 = true then Sum.inl W1 else Sum.inr k) = readR W0 0 (ws.map tl) := hr
    cases hd : isDone W1 with
    | false =>
      rw [hd, if_neg (by decide)] at hr
      rw [if_pos (by decide)]
      refine ⟨k, ?_, hX k hr.symm _⟩
      rw [List.length_map]
      have : k + 0 = ws.length := hk
      omega
    | true =>
      rw [hd, if_pos rfl] at hr
      rw [if_neg (by decide)]
      unfold k3_read_sheet
      and_intros
      refine ⟨objS_i rfl h.o rfl, wcall0 rfl ⟨a, dx, W1, A, cs, rfl, h, hW, fun cs1 h' => ⟨True.intro, ?_⟩⟩⟩
      simp only [giveM, give1]
      and_intros
      unfold k2_read_sheet
      and_intros
      refine a_sizes h' ?_
      and_intros
      refine cellS_i h'.s ?_
      and_intros
      refine a_parts h' ?_
      and_intros
      refine cellS_i h'.p ?_
      and_intros
      exact ⟨by decide, hQ W1 hr.symm _⟩
  · rintro q qs env N ⟨W1, A, cs, k, u3, u4, rfl, h, hW, hr, hk, hix, hmem⟩ hN
    refine ⟨True.intro, ?_⟩
    unfold b1_read_sheet
    and_intros
    rw [List.map_cons] at hr
    have hr : (match tkW W1 (tl q.1) with | some W' => readR W' (k + 1) (qs.map fun p => tl p.1) | none => .inr k) = readR W0 0 (ws.map tl) := hr
    have hql := hw q.1 (hmem q List.mem_cons_self)
    have hq2 : q.2 = k := hix 0 q rfl
    have hj : ∀ j p, qs[j]? = some p → p.2 = k + 1 + j := fun j p hp => by
      have := hix (j + 1) p hp
      omega
    rw [List.length_cons] at hk
    cases ht : tkW W1 (tl q.1) with
    | none =>
      rw [ht] at hr
      refine ⟨objS_i rfl h.o rfl, wcall1 rfl ⟨a, dx, W1, A, cs, q.1, rfl, hql, h, hW, fun W' e A' cs' h' => (by rw [ht] at e; cases e), fun _ cs' => ⟨True.intro, ?_⟩⟩⟩
      simp only [giveM, give1]
      and_intros
      rw [if_pos (by decide)]
      exact ⟨k, by rw [hq2], hX k hr.symm _⟩
    | some W2 =>
      rw [ht] at hr
      refine ⟨objS_i rfl h.o rfl, wcall1 rfl ⟨a, dx, W1, A, cs, q.1, rfl, hql, h, hW, fun W' e A' cs' h' => ⟨True.intro, ?_⟩, fun e => by rw [ht] at e; cases e⟩⟩
      rw [ht] at e
      cases e
      simp only [giveM, give1]
      and_intros
      rw [if_neg (by decide)]
      exact hN _ ⟨W2, A', cs', k + 1, _, _, rfl, h', tk_ok hW ht, hr, by omega, hj, fun r hr => hmem r (List.mem_cons_of_mem _ hr)⟩
  · rw [List.getElem?_zipIdx] at hj
    cases hg : ws[j]? with
    | none => rw [hg] at hj; cases hj
    | some z =>
      rw [hg] at hj
      cases hj
      rfl
end RF
end WD
end LS
namespace LS
namespace WD
namespace RF
open PySem L2 HD PM
local macro_rules | `(tactic| and_intros) => `(tactic| try simp -dsimp only [↓sIf, ↓sRet, ↓retD_ext, ↓retD_lst, ↓retD_al, ↓sSet, ↓sSetE, ↓sAsg, ↓sDrop, ↓sNext, ↓sFor, ↓sRetN, ↓sCont, ↓sBreak, ↓dTest, ↓dOp, ↓dC, ↓dCons, ↓dNil, ↓dTup, ↓dLst, ↓frzDs, ↓frzD_ext, ↓frzD_lst, ↓frzD_al, ↓wd_ext, ↓wd_lst, ↓wd_al, ↓wds, ↓AtS_ext, ↓AtS_lst, ↓AtL, ↓fAdd, ↓fSub, ↓fMul, ↓fDiv, ↓fMod, ↓fPow, ↓fCmp, ↓fIn, ↓fEq_ii, ↓fEq_ss, ↓fEq_bb, ↓fEq_tt, ↓fEq_ll, ↓fNe_ii, ↓fNe_ss, ↓fNe_bb, ↓fNe_tt, ↓fNe_ll, ↓fIx_l, ↓fIx_t, ↓fIx_k, ↓fIx_f, ↓GetS_some, ↓NatS_some, ↓fSl, ↓fIsN, ↓fNotN, ↓D.knN, ↓dNot, ↓dAnd, ↓dOr, ↓dAndV_w, ↓dOrV_w, ↓dNotV, ↓dIf, ↓dNeg, ↓dChain_w, ↓BlS_bl, ↓dCall_w, ↓dCallJ_w, ↓anyAl, ↓frozs, ↓froz, ↓gSet, ↓gTupD, ↓gsCons, ↓gsNil, ↓dSeq, ↓seqD_tup, ↓seqD_elst, ↓seqD_lst, ↓seqD_al, ↓dRange1, ↓dRange2, ↓dZip, ↓dCB, ↓dLc, ↓dYes, ↓dNoPart, ↓dPart, ↓dSl, ↓fLen, ↓fMin, ↓fMax, ↓fSum, ↓fAll, ↓fAny, ↓fSorted, ↓fTuple, ↓fList, ↓dRg1, ↓dRg2, ↓dLstRg, ↓dTupRg, ↓dIndex, ↓fIdx, ↓dAppend_w, ↓dExtend_w, ↓extD_lst, ↓dPopAt_w, ↓popD_int, ↓dPop_w, ↓mutD_w, ↓sSetItem_w, ↓setD_int, ↓dSortSet, ↓dTable_w, ↓wipeE, finals1, finals2, finals3, finals4, finals5, finals6, fin1_ext, fin1_lst, List.getElem?_cons_zero, List.getElem?_cons_succ, List.getElem?_nil, List.set_cons_zero, List.set_cons_succ, List.cons_append, List.nil_append, List.append_nil, List.replicate_succ, List.replicate_zero, List.map_cons, List.map_nil, List.length_cons, List.length_nil, true_and, and_true, ite_true, ite_false, if_true, if_false, Bool.false_eq_true, decide_eq_true_eq, Sl.plain, D.isSq, eq_self_iff_true, forall_const, reduceIte, true_or, or_true, atI_0, atI_1, atI_2, atI_3, ixN_0, ixN_1, ixN_2, AtS_ext, AtS_lst, FzS_lst, FzS_ext, GetS_some, NatS_some, ↓fIsi1, ↓fIsi2, BoolS_some, HD.kb_non_tuple, HD.kb_non_list, HD.kb_non_bool, HD.kb_non_int, HD.kb_non_str, HD.kb_bl_tuple, HD.kb_bl_list, HD.kb_bl_bool, HD.kb_bl_int, HD.kb_bl_str, HD.kb_int_tuple, HD.kb_int_list, HD.kb_int_bool, HD.kb_int_int, HD.kb_int_str, HD.kb_str_tuple, HD.kb_str_list, HD.kb_str_bool, HD.kb_str_int, HD.kb_str_str, HD.kb_lst_tuple, HD.kb_lst_list, HD.kb_lst_bool, HD.kb_lst_int, HD.kb_lst_str, HD.kb_tup_tuple, HD.kb_tup_list, HD.kb_tup_bool, HD.kb_tup_int, HD.kb_tup_str, ↓sFz_w, ↓FzS_lst, ↓FzS_ext, ↓dSortSetL, ↓fAbs, ↓fInt, ↓fRepr, ↓fLtT, ↓sRaise, ↓sTryKeep, ↓dCallV_w, ↓dMeth, ↓fCount, ↓fSplit, ↓seq_setE, ↓seq_set, ↓seq_drop, ↓seq_asg, ↓seq_if, ↓seq_for, ↓dStep, ↓fStep, ↓fMulT, ↓fIsB, ↓fNotB, ↓sPar, ↓dEnum, ↓dListZip, ↓dNest, ↓sSeal, ↓dNApp, ↓retD_reg, ↓dLenSet, ↓fSum2, ↓seq_putD, ↓seq_sealD, ↓dDIn, ↓dDGet, ↓sPutD, ↓dDNew, ↓dDOne, ↓sSealD, ↓dKeys, ↓keyS_dk, ↓dExtT, ↓fSortT, ↓fMinP, ↓dRemove, ↓dDInT, ↓dDGetT, ↓sPutDT, ↓dDNewT, ↓sSealDT, ↓dKeysT, ↓keyST_dt, ↓fSortK, ↓seq_putDT, ↓seq_sealDT, ↓dVarR_w, ↓dAttr, ↓dAppR, ↓dExtR_w, ↓dExtTR_w, ↓dClrR, ↓dPopR_w, ↓dIxR_w, ↓dDGetR, ↓dDInR, ↓dGet2R, ↓dPop1R, ↓dPop2R, ↓dDGetTR, ↓dDInTR, ↓dPop1TR, ↓dCallM, ↓dMethO, ↓dMake, ↓dMoveR, ↓dPtr, ↓sAttr, ↓sSetR, ↓sPutR, ↓sPutTR, ↓sSetA_w, ↓sSetG_w, ↓seq_setG, ↓seq_setA, ↓seq_attr, ↓seq_setR, ↓seq_putR, ↓seq_putTR, ↓RegS_reg, ↓CellS_some, ↓RefS_reg, ↓RefS_ar, ↓cellS_ar, ↓wd_ar, ↓seqD_ar, ↓lstO_lst, ↓insO_ins, ↓dkO_dk, ↓dkO_lk, ↓dtO_dt, ↓dtO_lk, ↓dkW_dk, ↓dtW_dt, ↓stoS_ext, ↓stoS_reg, ↓stoS_lstT, ↓stoS_lstF, ↓stoS_al, ↓ptrD_ref, ↓ptrD_int, ↓ptrD_str, ↓ptrD_bl, ↓ptrD_non, ↓ptrD_tup, ↓ptrD_tk, ↓ptrD_lst, ↓ptrD_fz, ↓setGS_lst, ↓setGS_reg, ↓setAS_ar, ↓setAS_ext, ↓intS_int, ↓tupS_tup, ↓lstS_lst, ↓lstK, ↓dkK, ↓dtK, ↓retD_reg, ↓dSortSetB, ↓fSortD, ↓fInD, ↓dCallD, ↓regC_reg, ↓dMoveL, ↓dMoveR_w, ↓dDictP, ↓froz_lst, ↓froz_ext, ↓dUpdTR, ↓dUpdKR, ↓dDictZipK, ↓dDictC, ↓gLstD, ↓dClear, ↓fStr, ↓dListItems, ↓dLenK, ↓dSortKI, ↓dInC, ↓fJoin, ↓fIntS, ↓fInSg, ↓fSlS, ↓dSlS, ↓dSigns_w, ↓fMulS, ↓dIsNR, ↓nonQ, ↓sRaiseT, ↓sTryKeepN, ↓dExcAt, ↓fSIdx, ↓fMulN, ↓dGetC, ↓dInC, ↓dv0, ↓dw0, ↓dv1, ↓dw1, ↓dv2, ↓dw2, ↓dv3, ↓dw3, ↓dv4, ↓dw4, ↓dv5, ↓dw5, ↓dv6, ↓dw6, ↓dv7, ↓dw7, ↓dv8, ↓dw8, ↓dv9, ↓dw9, ↓dv10, ↓dw10, ↓dv11, ↓dw11, ↓dv12, ↓dw12, ↓dv13, ↓dw13, ↓dv14, ↓dw14, ↓dv15, ↓dw15, ↓dv16, ↓dw16, ↓dv17, ↓dw17, ↓dv18, ↓dw18, ↓dv19, ↓dw19])
def figB (cs : List Nat) (lo hi : Int) : Option Int := match numW cs 13 with
  | some i => if lo ≤ i ∧ i ≤ hi then some i else none
  | none => none
def sp_law_figures : DSpec := fun args Q _ => ∃ (x : Str) (lo hi : Int), args = [.ext (.str x), dI lo, dI hi] ∧ x.length ≤ 100000 ∧ ∀ fin, Q (.ext (oI (figB (tl x) lo hi))) fin
def e1_law_figures : DT :=
    (dVar 4)
def b2_law_figures : DTS :=
    (sSetE 5 (dOp fAdd (dOp fMul (dC (.int 10)) (dVar 5)) (dMeth D.isStr fSIdx (dC (.str (Str.ofString "0123456789"))) (dVar 4))))
def k3_law_figures : DTS :=
    (sRet (dIf (dTest (dChain (fCmp fun i j => decide (i ≤ j)) (fCmp fun i j => decide (i ≤ j)) (dVar 1) (dVar 5) (dVar 2))) (dVar 5) (dC .non)))
def k4_law_figures : DTS :=
    (sSeq (sSetE 5 (dIf (dTest (dOp fEq (dSlS (dVar 0) dNoPart (dPart (dC (.int 1)))) (dC (.str (Str.ofString "-"))))) (dOp fSub (dC (.int 0)) (dVar 5)) (dVar 5)))
    k3_law_figures)
def k5_law_figures : DTS :=
    (sSeq (sFor (dSigns (dVar 3)) (gSet 4) b2_law_figures)
    k4_law_figures)
def k6_law_figures : DTS :=
    (sSeq (sSetE 5 (dC (.int 0)))
    k5_law_figures)
def k7_law_figures : DTS :=
    (sSeq (sIf (dAnd (dTest (dOp fEq (dOp fIx (dVar 3) (dC (.int 0))) (dC (.str (Str.ofString "0"))))) (dTest (dOp fNe (dVar 0) (dC (.str (Str.ofString "0")))))) (sRet (dC .non)) sNext)
    k6_law_figures)
def k8_law_figures : DTS :=
    (sSeq (sIf (dTest (dOp (fCmp fun i j => decide (j < i)) (dCB fLen (dCons (dLc (dSigns (dVar 3)) (gSet 4) (dTest (dOp (fInSg true) (dVar 4) (dC (.str (Str.ofString "0123456789"))))) e1_law_figures [4]) dNil)) (dC (.int 0)))) (sRet (dC .non)) sNext)
    k7_law_figures)
def k9_law_figures : DTS :=
    (sSeq (sIf (dOr (dTest (dOp fEq (dVar 3) (dC (.str (Str.ofString ""))))) (dTest (dOp (fCmp fun i j => decide (j < i)) (dCB fLen (dCons (dVar 3) dNil)) (dC (.int 13))))) (sRet (dC .non)) sNext)
    k8_law_figures)
def t_law_figures : DTS :=
    (sSeq (sSetE 3 (dIf (dTest (dOp fEq (dSlS (dVar 0) dNoPart (dPart (dC (.int 1)))) (dC (.str (Str.ofString "-"))))) (dSlS (dVar 0) (dPart (dC (.int 1))) dNoPart) (dVar 0)))
    k9_law_figures)
theorem k3_fig {Ex : DX} {E : DEnds} {x : Str} {lo hi : Int} {i : Int} {u3 u4 : Sl} (h : numW (tl x) 13 = some i) (hQ : ∀ env, E.rt (.ext (oI (figB (tl x) lo hi))) env) : k3_law_figures Ex E [.ext (.str x), dI lo, dI hi, u3, u4, dI i] := by
  have e : figB (tl x) lo hi = if lo ≤ i ∧ i ≤ hi then some i else none := by unfold figB; rw [h]
  rw [e] at hQ
  unfold k3_law_figures
  and_intros
  by_cases h1 : lo ≤ i
  rotate_left
  · rw [if_neg h1]
    rw [if_neg fun z => h1 z.1] at hQ
    exact hQ _
  rw [if_pos h1]
  by_cases h2 : i ≤ hi
  rotate_left
  · rw [if_neg h2]
    rw [if_neg fun z => h2 z.2] at hQ
    exact hQ _
  rw [if_pos h2]
  rw [if_pos ⟨h1, h2⟩] at hQ
  exact hQ _
theorem dv_lt : ∀ (n : Nat) (cs : List Nat), cs.length = n → cs.all isDig = true → NumText.digitsVal cs < 10 ^ n := by
  intro n
  induction n with
  | zero =>
    intro cs h _
    rw [List.length_eq_zero_iff.1 h]
    decide
  | succ n ih =>
    intro cs h hd
    rcases List.eq_nil_or_concat cs with z | ⟨l, c, z⟩
    · rw [z] at h; cases h
    rw [List.concat_eq_append] at z
    subst z
    rw [List.length_append, List.length_singleton] at h
    rw [List.all_append, Bool.and_eq_true] at hd
    have h1 := ih l (by omega) hd.1
    have hc : isDig c = true := by
      have := hd.2
      simpa using this
    have hc := of_decide_eq_true hc
    rw [NumText.digitsVal_snoc, Nat.pow_succ]
    omega
theorem dig_at {c : Nat} (h : isDig c = true) : ∃ rest, Builtin.Str.occurrences (Str.ofString "0123456789") ⟨#[c]⟩ 0 (Str.ofString "0123456789").length 1 = (c - 48) :: rest := by
  have := of_decide_eq_true h
  obtain ⟨h1, h2⟩ := this
  have : c = 48 ∨ c = 49 ∨ c = 50 ∨ c = 51 ∨ c = 52 ∨ c = 53 ∨ c = 54 ∨ c = 55 ∨ c = 56 ∨ c = 57 := by omega
  rcases this with rfl | rfl | rfl | rfl | rfl | rfl | rfl | rfl | rfl | rfl <;> exact ⟨[], by decide +kernel⟩
theorem k9_fig {Ex : DX} {E : DEnds} {x f : Str} {lo hi : Int} (hl : x.length ≤ 100000) (hf : tl f = figW (tl x)) (hQ : ∀ env, E.rt (.ext (oI (figB (tl x) lo hi))) env) : k9_law_figures Ex E [.ext (.str x), dI lo, dI hi, .ext (.str f), .un, .un] := by
  have hfl : f.length = (figW (tl x)).length := by rw [len_tl, hf]
  have hfx : (figW (tl x)).length ≤ (tl x).length := by
    unfold figW
    split
    · rw [List.length_drop]; omega
    · exact Nat.le_refl _
  have hlx := len_tl x
  have none_ : numW (tl x) 13 = none → ∀ env, E.rt (.ext .non) env := fun h env => by
    have := hQ env
    unfold figB at this
    rw [h] at this
    exact this
  have he : (f == Str.ofString "") = decide (tl f = []) := by rw [beq_tl, show tl (Str.ofString "") = [] by decide +kernel]
  unfold k9_law_figures
  and_intros
  rw [he, hf]
  by_cases h0 : figW (tl x) = []
  · rw [if_pos (decide_eq_true h0)]
    refine none_ (if_neg fun z => ?_) _
    have := z.1
    rw [h0] at this
    exact absurd this (by decide)
  rw [if_neg fun z => h0 (of_decide_eq_true z)]
  refine ⟨Nat.le_trans (show _ ≤ 100000 by omega) (by decide), ?_⟩
  by_cases h13 : (figW (tl x)).length ≤ 13
  rotate_left
  · rw [if_pos (by omega)]
    exact none_ (if_neg fun z => h13 z.2.1) _
  rw [if_neg (by omega)]
  unfold k8_law_figures
  and_intros
  rw [sg_map]
  refine lc_filter (fun c : Nat => D.str ⟨#[c]⟩) (fun c : Nat => D.str ⟨#[c]⟩) (fun c => !isDig c) True.intro (tl f) (Nat.le_trans (show _ ≤ 100000 by rw [hf]; omega) (by decide)) (fun c hc R hR => ?_) fun b => ?_
  · and_intros
    refine ⟨c, rfl, ?_⟩
    rw [Bool.true_bne, show decide (c ∈ (Str.ofString "0123456789").cps.toList) = isDig c from dig_in c]
    cases hd : isDig c with
    | true =>
      rw [hd] at hR
      exact hR
    | false =>
      rw [hd] at hR
      rw [if_pos (by decide)]
      unfold e1_law_figures
      and_intros
      exact hR
  and_intros
  rw [List.length_map]
  by_cases hd : (figW (tl x)).all isDig = true
  rotate_left
  · rw [if_pos]
    · exact none_ (if_neg fun z => hd z.2.2.1) _
    · have : 0 < ((tl f).filter fun c => !isDig c).length := by
        rw [List.length_pos_iff]
        intro z
        rw [List.filter_eq_nil_iff] at z
        refine hd (List.all_eq_true.2 fun c hc => ?_)
        have := z c (by rw [hf]; exact hc)
        simpa using this
      omega
  rw [if_neg]
  rotate_left
  · have : ((tl f).filter fun c => !isDig c) = [] := by
      rw [List.filter_eq_nil_iff]
      intro c hc
      rw [hf] at hc
      have := List.all_eq_true.1 hd c hc
      rw [this]
      decide
    rw [this]
    exact (by decide : ¬ (0 : Int) < ((0 : Nat) : Int))
  unfold k7_law_figures
  and_intros
  obtain ⟨c, r, ef⟩ : ∃ c r, tl f = c :: r := by
    cases e : tl f with
    | nil => rw [← hf, e] at h0; exact absurd rfl h0
    | cons c r => exact ⟨c, r, rfl⟩
  have hfe : figW (tl x) = c :: r := by rw [← hf, ef]
  refine ⟨Nat.le_trans (show _ ≤ 100000 by omega) (by decide), c, by rw [show f.cps.toList = c :: r from ef]; exact atN (xs := c :: r) (n := 0) rfl, ?_⟩
  and_intros
  have hc0 : (({ cps := #[c] } : Str) == Str.ofString "0") = decide (c = 48) := by
    rw [beq_tl, show tl (Str.ofString "0") = [48] by decide +kernel]
    refine decide_eq_decide.2 ?_
    show [c] = [48] ↔ _
    exact ⟨fun z => (List.cons.inj z).1, fun z => by rw [z]⟩
  have hx0 : (x == Str.ofString "0") = decide (tl x = [48]) := by rw [beq_tl, show tl (Str.ofString "0") = [48] by decide +kernel]
  rw [hc0]
  have h1 : 1 ≤ (figW (tl x)).length := by rw [hfe, List.length_cons]; omega
  have go : ¬ ((figW (tl x)).take 1 = [48] ∧ tl x ≠ [48]) → ∀ u4 u5, k6_law_figures Ex E [.ext (.str x), dI lo, dI hi, .ext (.str f), u4, u5] := fun hz u4 u5 => by
    have hnum : numW (tl x) 13 = some (if (tl x).take 1 = [45] then -((NumText.digitsVal (figW (tl x)) : Nat) : Int) else ((NumText.digitsVal (figW (tl x)) : Nat) : Int)) := if_pos ⟨h1, h13, hd, hz⟩
    unfold k6_law_figures
    and_intros
    unfold k5_law_figures
    and_intros
    rw [sg_map]
    refine for_ind (fun c : Nat => D.str ⟨#[c]⟩) (fun cs env => ∃ (ds : List Nat) (u4 : Sl), env = [.ext (.str x), dI lo, dI hi, .ext (.str f), u4, dI ((NumText.digitsVal ds : Nat) : Int)] ∧ ds ++ cs = tl f) ?_ ?_ (tl f) _ ⟨[], _, rfl, rfl⟩
    · rintro env ⟨ds, u4, rfl, e⟩
      rw [List.append_nil, hf] at e
      subst e
      refine ⟨True.intro, ?_⟩
      unfold k4_law_figures
      and_intros
      refine ⟨Nat.le_trans (show _ ≤ 100000 by omega) (by decide), ?_⟩
      rw [beq_tl, tl_cut1, show tl (Str.ofString "-") = [45] by decide +kernel]
      by_cases h : (tl x).take 1 = [45]
      · rw [if_pos (decide_eq_true h), Int.zero_sub]
        rw [if_pos h] at hnum
        exact k3_fig hnum hQ
      · rw [if_neg fun z => h (of_decide_eq_true z)]
        rw [if_neg h] at hnum
        exact k3_fig hnum hQ
    · rintro c cs env N ⟨ds, u4, rfl, e⟩ hN
      refine ⟨True.intro, ?_⟩
      have hal : (ds ++ c :: cs).all isDig = true := by rw [e, hf]; exact hd
      rw [List.all_append, Bool.and_eq_true, List.all_cons, Bool.and_eq_true] at hal
      have hlen : ds.length + (cs.length + 1) ≤ 13 := by
        have := congrArg List.length e
        rw [List.length_append, List.length_cons, hf] at this
        omega
      have hdv := dv_lt ds.length ds rfl hal.1
      have h13' : 10 ^ ds.length ≤ 10 ^ 12 := Nat.pow_le_pow_right (by decide) (by omega)
      obtain ⟨rest, ho⟩ := dig_at hal.2.1
      unfold b2_law_figures
      and_intros
      refine ⟨cmul64 (by omega) (by omega) (by omega) (by omega), rfl, _, rest, ho, ?_⟩
      have : 10 * ((NumText.digitsVal ds : Nat) : Int) + ((c - 48 : Nat) : Int) = ((NumText.digitsVal (ds ++ [c]) : Nat) : Int) := by rw [NumText.digitsVal_snoc]; omega
      rw [this]
      exact hN _ ⟨ds ++ [c], _, rfl, by rw [← e, List.append_assoc]; rfl⟩
  by_cases h4 : c = 48
  rotate_left
  · rw [if_neg (by simpa using h4)]
    exact go (fun z => h4 (by
      have := z.1
      rw [hfe] at this
      exact (List.cons.inj this).1)) _ _
  rw [if_pos (decide_eq_true h4), show (!x == Str.ofString "0") = !decide (tl x = [48]) by rw [hx0]]
  by_cases h5 : tl x = [48]
  · rw [if_neg (by simp [h5])]
    exact go (fun z => z.2 h5) _ _
  · rw [if_pos (by simp [h5])]
    exact none_ (if_neg fun z => z.2.2.2 ⟨by rw [hfe, h4]; rfl, h5⟩) _
theorem m_law_figures : Meets t_law_figures 3 3 sp_law_figures := by
  rintro args Qd Xd ⟨x, lo, hi, rfl, hl, hQ⟩
  show t_law_figures _ _ [_, _, _, .un, .un, .un]
  unfold t_law_figures
  and_intros
  have hz : x.length ≤ sizeLine := Nat.le_trans (show _ ≤ 100000 by omega) (by decide)
  refine ⟨hz, ?_⟩
  have hQ' : ∀ env, (endsOf [Sl.ext (D.str x), dI lo, dI hi] Qd).rt (.ext (oI (figB (tl x) lo hi))) env := fun env => hQ _
  rw [beq_tl, tl_cut1, show tl (Str.ofString "-") = [45] by decide +kernel]
  by_cases h : (tl x).take 1 = [45]
  · rw [if_pos (decide_eq_true h)]
    exact ⟨hz, k9_fig hl (by rw [tl_cutr]; unfold figW; rw [if_pos h]) hQ'⟩
  · rw [if_neg fun z => h (of_decide_eq_true z)]
    exact k9_fig hl (by unfold figW; rw [if_neg h]) hQ'
end RF
end WD
end LS
namespace LS
namespace WD
namespace RF
open PySem L2 HD PM
local macro_rules | `(tactic| and_intros) => `(tactic| try simp -dsimp only [↓sIf, ↓sRet, ↓retD_ext, ↓retD_lst, ↓retD_al, ↓sSet, ↓sSetE, ↓sAsg, ↓sDrop, ↓sNext, ↓sFor, ↓sRetN, ↓sCont, ↓sBreak, ↓dTest, ↓dOp, ↓dC, ↓dCons, ↓dNil, ↓dTup, ↓dLst, ↓frzDs, ↓frzD_ext, ↓frzD_lst, ↓frzD_al, ↓wd_ext, ↓wd_lst, ↓wd_al, ↓wds, ↓AtS_ext, ↓AtS_lst, ↓AtL, ↓fAdd, ↓fSub, ↓fMul, ↓fDiv, ↓fMod, ↓fPow, ↓fCmp, ↓fIn, ↓fEq_ii, ↓fEq_ss, ↓fEq_bb, ↓fEq_tt, ↓fEq_ll, ↓fNe_ii, ↓fNe_ss, ↓fNe_bb, ↓fNe_tt, ↓fNe_ll, ↓fIx_l, ↓fIx_t, ↓fIx_k, ↓fIx_f, ↓GetS_some, ↓NatS_some, ↓fSl, ↓fIsN, ↓fNotN, ↓D.knN, ↓dNot, ↓dAnd, ↓dOr, ↓dAndV_w, ↓dOrV_w, ↓dNotV, ↓dIf, ↓dNeg, ↓dChain_w, ↓BlS_bl, ↓dCall_w, ↓dCallJ_w, ↓anyAl, ↓frozs, ↓froz, ↓gSet, ↓gTupD, ↓gsCons, ↓gsNil, ↓dSeq, ↓seqD_tup, ↓seqD_elst, ↓seqD_lst, ↓seqD_al, ↓dRange1, ↓dRange2, ↓dZip, ↓dCB, ↓dLc, ↓dYes, ↓dNoPart, ↓dPart, ↓dSl, ↓fLen, ↓fMin, ↓fMax, ↓fSum, ↓fAll, ↓fAny, ↓fSorted, ↓fTuple, ↓fList, ↓dRg1, ↓dRg2, ↓dLstRg, ↓dTupRg, ↓dIndex, ↓fIdx, ↓dAppend_w, ↓dExtend_w, ↓extD_lst, ↓dPopAt_w, ↓popD_int, ↓dPop_w, ↓mutD_w, ↓sSetItem_w, ↓setD_int, ↓dSortSet, ↓dTable_w, ↓wipeE, finals1, finals2, finals3, finals4, finals5, finals6, fin1_ext, fin1_lst, List.getElem?_cons_zero, List.getElem?_cons_succ, List.getElem?_nil, List.set_cons_zero, List.set_cons_succ, List.cons_append, List.nil_append, List.append_nil, List.replicate_succ, List.replicate_zero, List.map_cons, List.map_nil, List.length_cons, List.length_nil, true_and, and_true, ite_true, ite_false, if_true, if_false, Bool.false_eq_true, decide_eq_true_eq, Sl.plain, D.isSq, eq_self_iff_true, forall_const, reduceIte, true_or, or_true, atI_0, atI_1, atI_2, atI_3, ixN_0, ixN_1, ixN_2, AtS_ext, AtS_lst, FzS_lst, FzS_ext, GetS_some, NatS_some, ↓fIsi1, ↓fIsi2, BoolS_some, HD.kb_non_tuple, HD.kb_non_list, HD.kb_non_bool, HD.kb_non_int, HD.kb_non_str, HD.kb_bl_tuple, HD.kb_bl_list, HD.kb_bl_bool, HD.kb_bl_int, HD.kb_bl_str, HD.kb_int_tuple, HD.kb_int_list, HD.kb_int_bool, HD.kb_int_int, HD.kb_int_str, HD.kb_str_tuple, HD.kb_str_list, HD.kb_str_bool, HD.kb_str_int, HD.kb_str_str, HD.kb_lst_tuple, HD.kb_lst_list, HD.kb_lst_bool, HD.kb_lst_int, HD.kb_lst_str, HD.kb_tup_tuple, HD.kb_tup_list, HD.kb_tup_bool, HD.kb_tup_int, HD.kb_tup_str, ↓sFz_w, ↓FzS_lst, ↓FzS_ext, ↓dSortSetL, ↓fAbs, ↓fInt, ↓fRepr, ↓fLtT, ↓sRaise, ↓sTryKeep, ↓dCallV_w, ↓dMeth, ↓fCount, ↓fSplit, ↓seq_setE, ↓seq_set, ↓seq_drop, ↓seq_asg, ↓seq_if, ↓seq_for, ↓dStep, ↓fStep, ↓fMulT, ↓fIsB, ↓fNotB, ↓sPar, ↓dEnum, ↓dListZip, ↓dNest, ↓sSeal, ↓dNApp, ↓retD_reg, ↓dLenSet, ↓fSum2, ↓seq_putD, ↓seq_sealD, ↓dDIn, ↓dDGet, ↓sPutD, ↓dDNew, ↓dDOne, ↓sSealD, ↓dKeys, ↓keyS_dk, ↓dExtT, ↓fSortT, ↓fMinP, ↓dRemove, ↓dDInT, ↓dDGetT, ↓sPutDT, ↓dDNewT, ↓sSealDT, ↓dKeysT, ↓keyST_dt, ↓fSortK, ↓seq_putDT, ↓seq_sealDT, ↓dVarR_w, ↓dAttr, ↓dAppR, ↓dExtR_w, ↓dExtTR_w, ↓dClrR, ↓dPopR_w, ↓dIxR_w, ↓dDGetR, ↓dDInR, ↓dGet2R, ↓dPop1R, ↓dPop2R, ↓dDGetTR, ↓dDInTR, ↓dPop1TR, ↓dCallM, ↓dMethO, ↓dMake, ↓dMoveR, ↓dPtr, ↓sAttr, ↓sSetR, ↓sPutR, ↓sPutTR, ↓sSetA_w, ↓sSetG_w, ↓seq_setG, ↓seq_setA, ↓seq_attr, ↓seq_setR, ↓seq_putR, ↓seq_putTR, ↓RegS_reg, ↓CellS_some, ↓RefS_reg, ↓RefS_ar, ↓cellS_ar, ↓wd_ar, ↓seqD_ar, ↓lstO_lst, ↓insO_ins, ↓dkO_dk, ↓dkO_lk, ↓dtO_dt, ↓dtO_lk, ↓dkW_dk, ↓dtW_dt, ↓stoS_ext, ↓stoS_reg, ↓stoS_lstT, ↓stoS_lstF, ↓stoS_al, ↓ptrD_ref, ↓ptrD_int, ↓ptrD_str, ↓ptrD_bl, ↓ptrD_non, ↓ptrD_tup, ↓ptrD_tk, ↓ptrD_lst, ↓ptrD_fz, ↓setGS_lst, ↓setGS_reg, ↓setAS_ar, ↓setAS_ext, ↓intS_int, ↓tupS_tup, ↓lstS_lst, ↓lstK, ↓dkK, ↓dtK, ↓retD_reg, ↓dSortSetB, ↓fSortD, ↓fInD, ↓dCallD, ↓regC_reg, ↓dMoveL, ↓dMoveR_w, ↓dDictP, ↓froz_lst, ↓froz_ext, ↓dUpdTR, ↓dUpdKR, ↓dDictZipK, ↓dDictC, ↓gLstD, ↓dClear, ↓fStr, ↓dListItems, ↓dLenK, ↓dSortKI, ↓dInC, ↓fJoin, ↓fIntS, ↓fInSg, ↓fSlS, ↓dSlS, ↓dSigns_w, ↓fMulS, ↓dIsNR, ↓nonQ, ↓sRaiseT, ↓sTryKeepN, ↓dExcAt, ↓fSIdx, ↓fMulN, ↓dGetC, ↓dInC, ↓dv0, ↓dw0, ↓dv1, ↓dw1, ↓dv2, ↓dw2, ↓dv3, ↓dw3, ↓dv4, ↓dw4, ↓dv5, ↓dw5, ↓dv6, ↓dw6, ↓dv7, ↓dw7, ↓dv8, ↓dw8, ↓dv9, ↓dw9, ↓dv10, ↓dw10, ↓dv11, ↓dw11, ↓dv12, ↓dw12, ↓dv13, ↓dw13, ↓dv14, ↓dw14, ↓dv15, ↓dw15, ↓dv16, ↓dw16, ↓dv17, ↓dw17, ↓dv18, ↓dw18, ↓dv19, ↓dw19])
def nmD (W : WS) : D := match W.pl with
  | .sizes => .non
  | _ => .lst (nD W.ns)
def woD (W : WS) : D := match W.pl with
  | .worths => .lst (iD W.ws)
  | _ => .non
def stD (W : WS) : D := .tup [.lst (nD W.sz), .lst (W.ps.map dP), nmD W, woD W]
def osD : Option WS → D
  | some W => stD W
  | none => .non
def HasS (W : WS) : Prop := (W.pl ≠ .sizes → 0 < W.sz.length) ∧ (W.pl = .names → W.ws = [])
def sp_law_step : DSpec := fun args Q _ => ∃ (W : WS) (x : Str), args = [.ext (stD W), .ext (.str x)] ∧ x.length ≤ 100000 ∧ WOk W ∧ HasS W ∧ ∀ fin, Q (.ext (osD (tkW W (tl x)))) fin
def e1_law_step : DT :=
    (dOp fIx (dVar 2) (dVar 7))
def e2_law_step : DT :=
    (dCB fLen (dCons (dOp fIx (dVar 10) (dC (.int 1))) dNil))
def k3_law_step : DTS :=
    (sRet (dIf (dTest (dVar 9)) (dC .non) (dTup (dCons (dVar 2) (dCons (dVar 8) (dCons (dLst dNil) (dCons (dC .non) dNil)))))))
def k4_law_step : DTS :=
    (sSeq (sSetE 9 (dOrV (dVar 9) (dOrV (dOp fEq (dCB fLen (dCons (dVar 8) dNil)) (dC (.int 24))) (dOp fEq (dCB fLen (dCons (dVar 2) dNil)) (dC (.int 0))))))
    k3_law_step)
def k5_law_step : DTS :=
    (sSeq (sSetE 9 (dOp fEq (dCB fSum (dCons (dLc (dSeq (dVar 8)) (gSet 10) dYes e2_law_step [10]) dNil)) (dC (.int 2000))))
    k4_law_step)
def k6_law_step : DTS :=
    (sSeq (sIf (dTest (dOp fNotN (dVar 4) (dC .non))) (sSetE 8 (dOp fAdd (dVar 3) (dLst (dCons (dTup (dCons (dCB fTuple (dCons (dVar 4) dNil)) (dCons (dCB fTuple (dCons (dVar 5) dNil)) dNil))) dNil)))) sNext)
    k5_law_step)
def i7_law_step : DTS :=
    (sSeq (sSetE 8 (dVar 3))
    k6_law_step)
def k8_law_step : DTS :=
    (sRet (dTup (dCons (dOp fAdd (dVar 2) (dLst (dCons (dVar 11) dNil))) (dCons (dVar 3) (dCons (dC .non) (dCons (dC .non) dNil))))))
def k9_law_step : DTS :=
    (sSeq (sIf (dOr (dTest (dOp fIsN (dVar 11) (dC .non))) (dOr (dTest (dOp fEq (dCB fLen (dCons (dVar 2) dNil)) (dC (.int 12)))) (dTest (dOp (fCmp fun i j => decide (j < i)) (dOp fMul (dCall sp_law_times (dCons (dVar 2) dNil)) (dVar 11)) (dC (.int 4000)))))) (sRet (dC .non)) sNext)
    k8_law_step)
def k10_law_step : DTS :=
    (sSeq (sSetE 11 (dIf (dTest (dOp fIsN (dVar 4) (dC .non))) (dCall sp_law_figures (dCons (dVar 1) (dCons (dC (.int 1)) (dCons (dC (.int 4)) dNil)))) (dC .non)))
    k9_law_step)
def i11_law_step : DTS :=
    (sSeq (sIf (dTest (dOp fEq (dVar 1) (dC (.str (Str.ofString "/"))))) i7_law_step sNext)
    k10_law_step)
def e12_law_step : DT :=
    (dCB fLen (dCons (dOp fIx (dVar 10) (dC (.int 1))) dNil))
def k13_law_step : DTS :=
    (sRet (dTup (dCons (dVar 2) (dCons (dVar 3) (dCons (dOp fAdd (dVar 4) (dLst (dCons (dVar 11) dNil))) (dCons (dC .non) dNil))))))
def k14_law_step : DTS :=
    (sSeq (sIf (dOr (dTest (dOp fIsN (dVar 11) (dC .non))) (dTest (dOp (fCmp fun i j => decide (j < i)) (dOp fMul (dVar 6) (dOp fIx (dVar 2) (dVar 11))) (dVar 12)))) (sRet (dC .non)) sNext)
    k13_law_step)
def k15_law_step : DTS :=
    (sSeq (sSetE 11 (dCall sp_law_figures (dCons (dVar 1) (dCons (dVar 13) (dCons (dOp fSub (dCB fLen (dCons (dVar 2) dNil)) (dC (.int 1))) dNil)))))
    k14_law_step)
def k16_law_step : DTS :=
    (sSeq (sSetE 13 (dIf (dTest (dOp (fCmp fun i j => decide (j < i)) (dCB fLen (dCons (dVar 4) dNil)) (dC (.int 0)))) (dOp fAdd (dOp fIx (dVar 4) (dNeg (dC (.int 1)))) (dC (.int 1))) (dC (.int 0))))
    k15_law_step)
def i17_law_step : DTS :=
    (sSeq (sIf (dTest (dOp fEq (dVar 1) (dC (.str (Str.ofString ":"))))) (sRet (dTup (dCons (dVar 2) (dCons (dVar 3) (dCons (dVar 4) (dCons (dLst dNil) dNil)))))) sNext)
    k16_law_step)
def k18_law_step : DTS :=
    (sRet (dTup (dCons (dVar 2) (dCons (dVar 3) (dCons (dVar 4) (dCons (dOp fAdd (dVar 5) (dLst (dCons (dVar 11) dNil))) dNil))))))
def k19_law_step : DTS :=
    (sSeq (sIf (dTest (dOp fIsN (dVar 11) (dC .non))) (sRet (dC .non)) sNext)
    k18_law_step)
def k20_law_step : DTS :=
    (sSeq (sSetE 11 (dCall sp_law_figures (dCons (dVar 1) (dCons (dOp fSub (dC (.int 0)) (dOp fPow (dC (.int 10)) (dC (.int 12)))) (dCons (dOp fPow (dC (.int 10)) (dC (.int 12))) dNil)))))
    k19_law_step)
def k21_law_step : DTS :=
    (sSeq (sIf (dTest (dOp fIsN (dVar 5) (dC .non))) i17_law_step sNext)
    k20_law_step)
def k22_law_step : DTS :=
    (sSeq (sSetE 12 (dOp fSub (dC (.int 2000)) (dCB fSum (dCons (dLc (dSeq (dVar 3)) (gSet 10) dYes e12_law_step [10]) dNil))))
    k21_law_step)
def k23_law_step : DTS :=
    (sSeq (sIf (dOr (dTest (dOp fIsN (dVar 4) (dC .non))) (dAnd (dTest (dOp fNotN (dVar 5) (dC .non))) (dTest (dOp fEq (dCB fLen (dCons (dVar 5) dNil)) (dVar 6))))) i11_law_step sNext)
    k22_law_step)
def k24_law_step : DTS :=
    (sSeq (sSetE 6 (dIf (dTest (dOp fIsN (dVar 4) (dC .non))) (dC (.int 0)) (dCall sp_law_times (dCons (dLc (dSeq (dVar 4)) (gSet 7) dYes e1_law_step [7]) dNil))))
    k23_law_step)
def t_law_step : DTS :=
    (sSeq (sAsg (dVar 0) (gTupD 4 (gsCons (gSet 2) (gsCons (gSet 3) (gsCons (gSet 4) (gsCons (gSet 5) gsNil))))))
    k24_law_step)
abbrev seE (x0 : Sl) (W : WS) (x : Str) (a b : D) (due : Sl) (l : List Sl) : Env' := x0 :: .ext (.str x) :: .ext (.lst (nD W.sz)) :: .ext (.lst (W.ps.map dP)) :: .ext a :: .ext b :: due :: l
theorem ifL {ds : List D} {a b : Prop} : (if (D.lst ds).isNon = true then a else b) = b := if_neg Bool.false_ne_true
theorem ifNL {ds : List D} {a b : Prop} : (if (!(D.lst ds).isNon) = true then a else b) = a := if_pos rfl
theorem ifN {a b : Prop} : (if D.non.isNon = true then a else b) = a := if_pos rfl
theorem ifNN {a b : Prop} : (if (!D.non.isNon) = true then a else b) = b := if_neg Bool.false_ne_true
theorem ifI {i : Int} {a b : Prop} : (if (D.int i).isNon = true then a else b) = b := if_neg Bool.false_ne_true
theorem sum_allW (l : List Part) : (l.map fun p => ((p.ws.length : Nat) : Int)).sum = ((allW l : Nat) : Int) := by
  unfold allW
  induction l with
  | nil => rfl
  | cons p l ih => rw [List.map_cons, List.sum_cons, ih, List.map_cons, List.sum_cons]; omega
theorem k5_st {Ex : DX} {E : DEnds} {x4 x5 x0 x1 x3 due : Sl} {u9 u10 u11 u12 u13 : Sl} {sz : List Nat} {M : List Part} (hM : M.length ≤ 24) (hs : sz.length ≤ 12) (ha : allW M ≤ 4000)
    (hQ : ∀ env, E.rt (.ext (if allW M = 2000 ∨ M.length = 24 ∨ sz.length = 0 then .non else .tup [.lst (nD sz), .lst (M.map dP), .lst [], .non])) env) :
    k5_law_step Ex E [x0, x1, .ext (.lst (nD sz)), x3, x4, x5, due, .un, .ext (.lst (M.map dP)), u9, u10, u11, u12, u13] := by
  unfold k5_law_step
  and_intros
  refine lc_map dP (fun p => D.int ((p.ws.length : Nat) : Int)) True.intro M (Nat.le_trans (show _ ≤ 100 by omega) (by decide)) (fun p hp R hR => ?_) fun b => ?_
  · unfold e2_law_step
    and_intros
    rw [iD_len]
    exact hR
  and_intros
  refine ⟨M.map fun p => ((p.ws.length : Nat) : Int), by rw [List.map_map]; rfl, ?_⟩
  rw [sum_allW, show (((allW M : Nat) : Int) == 2000) = decide (allW M = 2000) by rw [Bool.eq_iff_iff, beq_iff_eq, decide_eq_true_eq]; omega]
  have k3 : ∀ (b : Bool) u10, b = decide (allW M = 2000 ∨ M.length = 24 ∨ sz.length = 0) → k3_law_step Ex E [x0, x1, .ext (.lst (nD sz)), x3, x4, x5, due, .un, .ext (.lst (M.map dP)), .ext (.bl b), u10, u11, u12, u13] := fun b u10 hb => by
    unfold k3_law_step
    and_intros
    cases b with
    | true =>
      rw [if_pos (of_decide_eq_true hb.symm)] at hQ
      exact hQ _
    | false =>
      rw [if_neg (of_decide_eq_false hb.symm)] at hQ
      rw [if_neg (by decide)]
      exact ⟨by decide, by decide, hQ _⟩
  unfold k4_law_step
  and_intros
  by_cases h1 : allW M = 2000
  · rw [if_pos h1]
    exact k3 _ _ (decide_eq_true (.inl h1)).symm
  rw [if_neg h1, List.length_map]
  by_cases h2 : M.length = 24
  · rw [if_pos (beq_iff_eq.2 (by omega))]
    exact k3 _ _ (decide_eq_true (.inr (.inl h2))).symm
  rw [if_neg fun z => h2 (by have := beq_iff_eq.1 z; omega)]
  refine k3 _ _ ?_
  rw [nD_len, Bool.eq_iff_iff, beq_iff_eq, decide_eq_true_eq]
  omega
theorem k22_gen {t : DTS} {Ex : DX} {E : DEnds} {x4 x5 x0 x1 x2 x6 : Sl} {u7 u8 u9 u11 u12 u13 : Sl} {M : List Part} (hM : M.length ≤ 24) (ha : (M.map fun p => p.ws.length).sum ≤ 2000)
    (h : t Ex E [x0, x1, x2, .ext (.lst (M.map dP)), x4, x5, x6, u7, u8, u9, .un, u11, dI ((2000 - allW M : Nat) : Int), u13]) :
    (sSeq (sSetE 12 (dOp fSub (dC (.int 2000)) (dCB fSum (dCons (dLc (dSeq (dVar 3)) (gSet 10) dYes e12_law_step [10]) dNil)))) t) Ex E [x0, x1, x2, .ext (.lst (M.map dP)), x4, x5, x6, u7, u8, u9, .un, u11, u12, u13] := by
  and_intros
  refine lc_map dP (fun p => D.int ((p.ws.length : Nat) : Int)) True.intro M (Nat.le_trans (show _ ≤ 100 by omega) (by decide)) (fun p hp R hR => ?_) fun b2 => ?_
  · unfold e12_law_step
    and_intros
    rw [iD_len]
    exact hR
  and_intros
  refine ⟨M.map fun p => ((p.ws.length : Nat) : Int), by rw [List.map_map]; rfl, ?_⟩
  have ha' : allW M ≤ 2000 := ha
  rw [sum_allW, show (2000 : Int) - ((allW M : Nat) : Int) = ((2000 - allW M : Nat) : Int) by omega]
  exact h
theorem k22_st {Ex : DX} {E : DEnds} {x4 x5 x0 x1 x2 x6 : Sl} {u7 u8 u9 u11 u12 u13 : Sl} {M : List Part} (hM : M.length ≤ 24) (ha : (M.map fun p => p.ws.length).sum ≤ 2000)
    (h : k21_law_step Ex E [x0, x1, x2, .ext (.lst (M.map dP)), x4, x5, x6, u7, u8, u9, .un, u11, dI ((2000 - allW M : Nat) : Int), u13]) :
    k22_law_step Ex E [x0, x1, x2, .ext (.lst (M.map dP)), x4, x5, x6, u7, u8, u9, .un, u11, u12, u13] := k22_gen hM ha h
theorem i7_st {Ex : DX} {E : DEnds} {x0 : Sl} {W : WS} {x : Str} {u9 u10 u11 u12 u13 due : Sl} {a b : D} (hW : WOk W) (hs : HasS W) (hd : W.pl = .sizes ∧ a = .non ∧ b = .non ∨ W.pl = .worths ∧ W.ws.length = psz W.sz W.ns ∧ a = .lst (nD W.ns) ∧ b = .lst (iD W.ws))
    (hQ : ∀ env, E.rt (.ext (osD (strokeW W))) env) : i7_law_step Ex E [x0, .ext (.str x), .ext (.lst (nD W.sz)), .ext (.lst (W.ps.map dP)), .ext a, .ext b, due, .un, .un, u9, u10, u11, u12, u13] := by
  unfold i7_law_step
  and_intros
  unfold k6_law_step
  and_intros
  rcases hd with ⟨hp, rfl, rfl⟩ | ⟨hp, hf, rfl, rfl⟩
  · refine ⟨rfl, ?_⟩
    rw [if_neg (by decide)]
    have hc : closeW W = W := if_neg (by rw [hp]; decide)
    have ha : allW W.ps ≤ 2000 := hW.all
    refine k5_st hW.many hW.few (by omega) ?_
    have e : osD (strokeW W) = if allW W.ps = 2000 ∨ W.ps.length = 24 ∨ W.sz.length = 0 then .non else .tup [.lst (nD W.sz), .lst (W.ps.map dP), .lst [], .non] := by
      unfold strokeW
      rw [hc]
      have hd : isDone W = decide (0 < W.sz.length) := by unfold isDone; rw [hp]
      rw [hd]
      by_cases h : allW W.ps = 2000 ∨ W.ps.length = 24 ∨ W.sz.length = 0
      · rw [if_pos h, if_neg fun z => ?_]
        · rfl
        · obtain ⟨z1, z2, z3⟩ := z
          have z1 := of_decide_eq_true z1
          rw [if_neg (by rw [hp]; decide)] at z2
          omega
      · rw [if_neg h, if_pos ⟨decide_eq_true (by omega), by rw [if_neg (by rw [hp]; decide)]; omega, by omega⟩]
        rfl
    rw [e] at hQ
    exact hQ
  · refine ⟨rfl, ?_⟩
    rw [ifNL]
    have hc : closeW W = { W with ps := W.ps ++ [⟨W.ns, W.ws⟩] } := if_pos hp
    have hd : isDone W = true := by unfold isDone; rw [hp]; exact decide_eq_true hf
    obtain ⟨ca, cl⟩ := close_all hW hd
    rw [if_pos hp] at cl
    have h23 := hW.m23 (by rw [hp]; decide)
    have hs0 := hs.1 (by rw [hp]; decide)
    refine ⟨by decide, by decide, by rw [List.length_map]; exact Nat.le_trans (show _ ≤ 100 by omega) (by decide), ?_⟩
    rw [show W.ps.map dP ++ [D.tup [D.tup (nD W.ns), D.tup (iD W.ws)]] = (closeW W).ps.map dP by rw [hc, List.map_append]; rfl]
    refine k5_st (by omega) hW.few (by omega) ?_
    have e : osD (strokeW W) = if allW (closeW W).ps = 2000 ∨ (closeW W).ps.length = 24 ∨ W.sz.length = 0 then .non else .tup [.lst (nD W.sz), .lst ((closeW W).ps.map dP), .lst [], .non] := by
      unfold strokeW
      rw [hd]
      by_cases h : allW (closeW W).ps = 2000 ∨ (closeW W).ps.length = 24 ∨ W.sz.length = 0
      · rw [if_pos h, if_neg fun z => ?_]
        · rfl
        · obtain ⟨z1, z2, z3⟩ := z
          rw [if_pos hp] at z2
          omega
      · rw [if_neg h, if_pos ⟨rfl, by rw [if_pos hp]; omega, by omega⟩]
        show stD _ = _
        unfold stD nmD woD
        rw [close_sz]
        rfl
    rw [e] at hQ
    exact hQ
theorem num_up {cs : List Nat} {k m : Nat} {i : Int} (h : numW cs k = some i) (hk : k ≤ m) : numW cs m = some i := by
  unfold numW at h ⊢
  split at h
  · rename_i hc
    rw [if_pos ⟨hc.1, Nat.le_trans hc.2.1 hk, hc.2.2⟩]
    exact h
  · cases h
theorem dv_ge (c : Nat) : ∀ (n : Nat) (r : List Nat), r.length = n → (c - 48) * 10 ^ n ≤ NumText.digitsVal (c :: r) := by
  intro n
  induction n with
  | zero =>
    intro r h
    rw [List.length_eq_zero_iff.1 h]
    show _ ≤ 0 * 10 + (c - 48)
    omega
  | succ n ih =>
    intro r h
    rcases List.eq_nil_or_concat r with z | ⟨l, d, z⟩
    · rw [z] at h; cases h
    rw [List.concat_eq_append] at z
    subst z
    rw [List.length_append, List.length_singleton] at h
    have h1 := ih l (by omega)
    rw [show c :: (l ++ [d]) = (c :: l) ++ [d] from rfl, NumText.digitsVal_snoc, Nat.pow_succ, ← Nat.mul_assoc]
    omega
theorem num_dn {cs : List Nat} {k m : Nat} {i : Int} (h : numW cs m = some i) (hk : 1 ≤ k) (hi : i.natAbs < 10 ^ k) : numW cs k = some i := by
  unfold numW at h ⊢
  split at h
  · rename_i hc
    obtain ⟨h1, h2, h3, h4⟩ := hc
    have key : (figW cs).length ≤ k := by
      refine Nat.le_of_not_lt fun hn => ?_
      cases hf : figW cs with
      | nil => rw [hf] at hn; exact absurd hn (by simp)
      | cons c r =>
        rw [hf] at h3 h4 hn
        rw [List.length_cons] at hn
        rw [List.all_cons, Bool.and_eq_true] at h3
        have hc := of_decide_eq_true h3.1
        have hne : c ≠ 48 := fun z => h4 ⟨by rw [z]; rfl, fun e => by
          rw [e] at hf
          have : figW [48] = [48] := by decide
          rw [this] at hf
          rw [← (List.cons.inj hf).2] at hn
          simp at hn
          omega⟩
        have hg := dv_ge c r.length r rfl
        have h10 : 10 ^ k ≤ 10 ^ r.length := Nat.pow_le_pow_right (by decide) (by omega)
        have h11 : 1 * 10 ^ r.length ≤ (c - 48) * 10 ^ r.length := Nat.mul_le_mul_right _ (by omega)
        have hv : i.natAbs = NumText.digitsVal (c :: r) := by
          have h := Option.some.inj h
          rw [hf] at h
          rw [← h]
          split
          · rw [Int.natAbs_neg, Int.natAbs_natCast]
          · rw [Int.natAbs_natCast]
        omega
    rw [if_pos ⟨h1, key, h3, h4⟩]
    exact h
  · cases h
theorem fig_some {cs : List Nat} {k : Nat} {lo hi i : Int} (hk : 1 ≤ k) (h13 : k ≤ 13) (hb : ∀ i : Int, lo ≤ i → i ≤ hi → i.natAbs < 10 ^ k) : figB cs lo hi = some i ↔ numW cs k = some i ∧ lo ≤ i ∧ i ≤ hi := by
  constructor
  · intro h
    unfold figB at h
    split at h
    · rename_i j hj
      split at h
      · rename_i hc
        cases h
        exact ⟨num_dn hj hk (hb _ hc.1 hc.2), hc⟩
      · cases h
    · cases h
  · rintro ⟨h1, h2⟩
    unfold figB
    rw [num_up h1 h13]
    exact if_pos h2
theorem fig_none {cs : List Nat} {k : Nat} {lo hi : Int} (hk : 1 ≤ k) (h13 : k ≤ 13) (hb : ∀ i : Int, lo ≤ i → i ≤ hi → i.natAbs < 10 ^ k) (h : figB cs lo hi = none) : ∀ i, numW cs k = some i → ¬ (lo ≤ i ∧ i ≤ hi) := fun i h1 h2 => by
  have := (fig_some (i := i) hk h13 hb).2 ⟨h1, h2⟩
  rw [h] at this
  cases this
theorem beq1 (x : Str) (c : String) {n : Nat} (h : tl (Str.ofString c) = [n]) : (x == Str.ofString c) = decide (tl x = [n]) := by rw [beq_tl, h]
theorem st_sizes {Ex : DX} {E : DEnds} {x0 : Sl} {W : WS} {x : Str} (hp : W.pl = .sizes) (hl : x.length ≤ 100000) (hW : WOk W) (hQ : ∀ env, E.rt (.ext (osD (tkW W (tl x)))) env) :
    k24_law_step Ex E (seE x0 W x .non .non .un [.un, .un, .un, .un, .un, .un, .un]) := by
  unfold k24_law_step
  and_intros
  unfold k23_law_step
  and_intros
  unfold i11_law_step
  and_intros
  rw [ifN, ifN, beq1 x "/" (n := 47) (by decide +kernel)]
  by_cases h0 : tl x = [47]
  · rw [if_pos (decide_eq_true h0)]
    refine i7_st hW ⟨fun z => absurd hp z, fun z => by rw [hp] at z; cases z⟩ (.inl ⟨hp, rfl, rfl⟩) ?_
    rw [show tkW W (tl x) = strokeW W from if_pos h0] at hQ
    exact hQ
  rw [if_neg fun z => h0 (of_decide_eq_true z)]
  have et : tkW W (tl x) = sizeW W (numW (tl x) 1) := by
    unfold tkW
    rw [if_neg h0, hp]
  rw [et] at hQ
  have hb : ∀ i : Int, 1 ≤ i → i ≤ 4 → i.natAbs < 10 ^ 1 := fun i _ _ => by omega
  unfold k10_law_step
  and_intros
  rw [ifN]
  refine ⟨x, 1, 4, rfl, hl, fun fin => ?_⟩
  cases hf : figB (tl x) 1 4 with
  | none =>
    rw [show oI none = D.non from rfl]
    and_intros
    unfold k9_law_step
    and_intros
    rw [ifN]
    have : sizeW W (numW (tl x) 1) = none := by
      cases hn : numW (tl x) 1 with
      | none => rfl
      | some i =>
        have := fig_none (by decide) (by decide) hb hf i hn
        exact if_neg fun z => this ⟨z.1, by have := z.2.1; omega⟩
    rw [this] at hQ
    exact hQ _
  | some i =>
    rw [show oI (some i) = D.int i from rfl]
    obtain ⟨hn, h1, h4⟩ := (fig_some (by decide) (by decide) hb).1 hf
    rw [hn] at hQ
    and_intros
    unfold k9_law_step
    and_intros
    rw [ifI, nD_len]
    have hfew := hW.few
    by_cases h12 : W.sz.length = 12
    · rw [if_pos (beq_iff_eq.2 (by omega))]
      rw [show sizeW W (some i) = none from if_neg fun z => z.2.2.1 h12] at hQ
      exact hQ _
    rw [if_neg fun z => h12 (by have := beq_iff_eq.1 z; omega)]
    have hpr := hW.pr
    refine ⟨W.sz, .inl rfl, fun x hx => (hW.siz x hx).1, Nat.lt_of_le_of_lt hpr (by decide), fun fin => ?_⟩
    and_intros
    obtain ⟨k, rfl⟩ := Int.eq_ofNat_of_zero_le (show 0 ≤ i by omega)
    refine ⟨cmul64 (by omega) (by omega) (by omega) (by omega), ?_⟩
    have e4 : ((prodN W.sz : Nat) : Int) * ((k : Nat) : Int) = ((prodN W.sz * k : Nat) : Int) := by rw [Int.natCast_mul]
    rw [e4]
    by_cases h5 : prodN W.sz * k ≤ 4000
    rotate_left
    · rw [if_pos (by omega)]
      rw [show sizeW W (some ((k : Nat) : Int)) = none from if_neg fun z => h5 z.2.2.2] at hQ
      exact hQ _
    rw [if_neg (by omega)]
    rw [show sizeW W (some ((k : Nat) : Int)) = some { W with sz := W.sz ++ [k] } from if_pos ⟨h1, by omega, h12, h5⟩] at hQ
    unfold k8_law_step
    and_intros
    have e : osD (some { W with sz := W.sz ++ [k] }) = .tup [.lst (nD W.sz ++ [.int ((k : Nat) : Int)]), .lst (W.ps.map dP), .non, .non] := by
      show stD _ = _
      unfold stD nmD woD
      dsimp only
      rw [hp, nD_app]
      rfl
    rw [e] at hQ
    exact ⟨by decide, by rw [nD_len]; exact Nat.le_trans (show _ ≤ 100 by omega) (by decide), by decide, hQ _⟩
def leastW (W : WS) : Int := match W.ns.getLast? with | some m => ((m + 1 : Nat) : Int) | none => 0
theorem least0 (W : WS) : 0 ≤ leastW W := by
  unfold leastW
  split <;> omega
theorem k15_st {Ex : DX} {E : DEnds} {W : WS} {x : Str} {u7 u8 u9 u10 u11 a5 : Sl} {x0 : Sl} (hp : W.pl = .names) (h58 : tl x ≠ [58]) (hl : x.length ≤ 100000) (hW : WOk W) (hQ : ∀ env, E.rt (.ext (osD (tkW W (tl x)))) env) :
    k15_law_step Ex E [x0, .ext (.str x), .ext (.lst (nD W.sz)), .ext (.lst (W.ps.map dP)), .ext (.lst (nD W.ns)), a5, dI ((psz W.sz W.ns : Nat) : Int), u7, u8, u9, u10, u11, dI ((2000 - allW W.ps : Nat) : Int), dI (leastW W)] := by
  have hfew := hW.few
  have hl0 := least0 W
  have hb : ∀ i : Int, leastW W ≤ i → i ≤ ((W.sz.length : Nat) : Int) - 1 → i.natAbs < 10 ^ 2 := fun i h1 h2 => by
    rw [show (10 : Nat) ^ 2 = 100 by decide]
    omega
  have et : tkW W (tl x) = match figB (tl x) (leastW W) (((W.sz.length : Nat) : Int) - 1) with
      | some i => if psz W.sz W.ns * sz W.sz i.toNat ≤ 2000 - allW W.ps then some { W with ns := W.ns ++ [i.toNat] } else none
      | none => none := by
    unfold tkW
    by_cases h0 : tl x = [47]
    · have : figB (tl x) (leastW W) (((W.sz.length : Nat) : Int) - 1) = none := by
        unfold figB
        rw [show numW (tl x) 13 = none by rw [h0]; decide +kernel]
      rw [if_pos h0, this]
      have hd : isDone W = false := by unfold isDone; rw [hp]
      exact if_neg fun z => by rw [hd] at z; exact absurd z.1 (by decide)
    rw [if_neg h0, hp]
    show nameW W (tl x) = _
    unfold nameW
    rw [if_neg h58]
    cases hf : figB (tl x) (leastW W) (((W.sz.length : Nat) : Int) - 1) with
    | none =>
      have hn := fig_none (k := 2) (by decide) (by decide) hb hf
      cases h2 : numW (tl x) 2 with
      | none => rfl
      | some i => exact if_neg fun z => hn i h2 ⟨z.1, by have := z.2.1; omega⟩
    | some i =>
      obtain ⟨h2, h3, h4⟩ := (fig_some (k := 2) (by decide) (by decide) hb).1 hf
      rw [h2]
      by_cases h5 : psz W.sz W.ns * sz W.sz i.toNat ≤ 2000 - allW W.ps
      · refine (if_pos ⟨h3, by omega, h5⟩).trans ?_
        dsimp only
        rw [if_pos h5, hp]
      · refine (if_neg fun z => h5 z.2.2).trans ?_
        dsimp only
        rw [if_neg h5]
  rw [et] at hQ
  unfold k15_law_step
  and_intros
  rw [nD_len]
  refine ⟨x, _, _, rfl, hl, fun fin => ?_⟩
  cases hf : figB (tl x) (leastW W) (((W.sz.length : Nat) : Int) - 1) with
  | none =>
    rw [hf] at hQ
    rw [show oI none = D.non from rfl]
    and_intros
    unfold k14_law_step
    and_intros
    rw [ifN]
    exact hQ _
  | some i =>
    rw [hf] at hQ
    have hQ : ∀ env, E.rt (.ext (osD (if psz W.sz W.ns * sz W.sz i.toNat ≤ 2000 - allW W.ps then some { W with ns := W.ns ++ [i.toNat] } else none))) env := hQ
    rw [show oI (some i) = D.int i from rfl]
    obtain ⟨h2, h3, h4⟩ := (fig_some (k := 2) (by decide) (by decide) hb).1 hf
    obtain ⟨k, rfl⟩ := Int.eq_ofNat_of_zero_le (show 0 ≤ i by omega)
    have hk : k < W.sz.length := by omega
    have hs4 := hW.siz _ (sz_mem hk)
    have hdu := hW.due
    rw [Int.toNat_natCast] at hQ
    and_intros
    unfold k14_law_step
    and_intros
    rw [ifI]
    refine ⟨_, atN (sz_at hk), ?_⟩
    and_intros
    refine ⟨cmul64 (by omega) (by omega) (by omega) (by omega), ?_⟩
    rw [show ((psz W.sz W.ns : Nat) : Int) * ((sz W.sz k : Nat) : Int) = ((psz W.sz W.ns * sz W.sz k : Nat) : Int) by rw [Int.natCast_mul]]
    by_cases h5 : psz W.sz W.ns * sz W.sz k ≤ 2000 - allW W.ps
    rotate_left
    · rw [if_pos (by omega)]
      rw [if_neg h5] at hQ
      exact hQ _
    rw [if_neg (by omega)]
    rw [if_pos h5] at hQ
    have e : osD (some { W with ns := W.ns ++ [k] }) = .tup [.lst (nD W.sz), .lst (W.ps.map dP), .lst (nD W.ns ++ [.int (k : Nat)]), .non] := by
      show stD _ = _
      unfold stD nmD woD
      dsimp only
      rw [hp, nD_app]
      rfl
    rw [e] at hQ
    unfold k13_law_step
    and_intros
    have hnl : W.ns.length ≤ 12 := Nat.le_trans (rising_len hW.rise hW.lt) hW.few
    exact ⟨by decide, by rw [nD_len]; exact Nat.le_trans (show _ ≤ 100 by omega) (by decide), by decide, hQ _⟩
theorem k21_n {Ex : DX} {E : DEnds} {W : WS} {x : Str} {u7 u8 u9 u10 u11 u13 : Sl} {x0 : Sl} (hp : W.pl = .names) (hl : x.length ≤ 100000) (hW : WOk W) (hs : HasS W) (hQ : ∀ env, E.rt (.ext (osD (tkW W (tl x)))) env) :
    k21_law_step Ex E [x0, .ext (.str x), .ext (.lst (nD W.sz)), .ext (.lst (W.ps.map dP)), .ext (.lst (nD W.ns)), .ext .non, dI ((psz W.sz W.ns : Nat) : Int), u7, u8, u9, u10, u11, dI ((2000 - allW W.ps : Nat) : Int), u13] := by
  have hw0 := hs.2 hp
  unfold k21_law_step
  and_intros
  rw [ifN]
  unfold i17_law_step
  and_intros
  rw [beq1 x ":" (n := 58) (by decide +kernel)]
  by_cases h0 : tl x = [58]
  · rw [if_pos (decide_eq_true h0)]
    have et : tkW W (tl x) = some { W with pl := .worths } := by
      unfold tkW
      rw [if_neg (by rw [h0]; decide), hp]
      exact if_pos h0
    have e : osD (tkW W (tl x)) = .tup [.lst (nD W.sz), .lst (W.ps.map dP), .lst (nD W.ns), .lst []] := by
      rw [et]
      show stD _ = _
      unfold stD nmD woD
      dsimp only
      rw [hw0]
      rfl
    rw [e] at hQ
    exact ⟨by decide, by decide, hQ _⟩
  rw [if_neg fun z => h0 (of_decide_eq_true z)]
  unfold k16_law_step
  and_intros
  cases hg : W.ns.getLast? with
  | none =>
    rw [List.getLast?_eq_none_iff] at hg
    have e0 : leastW W = 0 := by unfold leastW; rw [hg]; rfl
    rw [if_neg (by rw [hg]; exact (by decide : ¬ (0 : Int) < ((0 : Nat) : Int)))]
    rw [← e0]
    exact k15_st hp h0 hl hW hQ
  | some m =>
    obtain ⟨l, e⟩ := List.getLast?_eq_some_iff.1 hg
    have e0 : leastW W = ((m + 1 : Nat) : Int) := by unfold leastW; rw [hg]
    have hpos : 0 < (nD W.ns).length := by rw [nD_len, e, List.length_append, List.length_singleton]; omega
    rw [if_pos (by omega)]
    refine ⟨.int (m : Nat), by rw [e]; exact at_last l m, ?_⟩
    and_intros
    rw [show ((m : Nat) : Int) + 1 = leastW W by rw [e0]; omega]
    exact k15_st hp h0 hl hW hQ
theorem k21_w {Ex : DX} {E : DEnds} {W : WS} {x : Str} {u7 u8 u9 u10 u11 u12 u13 due : Sl} {x0 : Sl} (hp : W.pl = .worths) (hl : x.length ≤ 100000) (hW : WOk W) (hf : W.ws.length ≠ psz W.sz W.ns) (hQ : ∀ env, E.rt (.ext (osD (tkW W (tl x)))) env) :
    k21_law_step Ex E [x0, .ext (.str x), .ext (.lst (nD W.sz)), .ext (.lst (W.ps.map dP)), .ext (.lst (nD W.ns)), .ext (.lst (iD W.ws)), due, u7, u8, u9, u10, u11, u12, u13] := by
  unfold k21_law_step
  and_intros
  rw [ifL]
  unfold k20_law_step
  and_intros
  refine ⟨⟨by decide, by decide, by decide⟩, ⟨by decide, by decide, by decide⟩, x, _, _, rfl, hl, fun fin => ?_⟩
  have et : tkW W (tl x) = worthW W (figB (tl x) (0 - 10 ^ Int.toNat 12) (10 ^ Int.toNat 12)) := by
    unfold tkW
    by_cases h0 : tl x = [47]
    · rw [if_pos h0, show figB (tl x) (0 - 10 ^ Int.toNat 12) (10 ^ Int.toNat 12) = none by rw [h0]; decide +kernel]
      show strokeW W = none
      have hd : isDone W = false := by unfold isDone; rw [hp]; exact decide_eq_false hf
      exact if_neg fun z => by rw [hd] at z; exact absurd z.1 (by decide)
    rw [if_neg h0, hp]
    show worthW W (numW (tl x) 13) = _
    unfold figB
    cases hn : numW (tl x) 13 with
    | none => rfl
    | some i =>
      dsimp only
      by_cases hb : 0 - 10 ^ Int.toNat 12 ≤ i ∧ i ≤ 10 ^ Int.toNat 12
      · rw [if_pos hb]
      · rw [if_neg hb]
        refine if_neg fun z => hb ⟨?_, ?_⟩
        · have := z.2.1
          have e : (0 : Int) - 10 ^ Int.toNat 12 = -(10 ^ 12) := by decide +kernel
          rw [e]; exact this
        · exact z.2.2
  rw [et] at hQ
  cases hf2 : figB (tl x) (0 - 10 ^ Int.toNat 12) (10 ^ Int.toNat 12) with
  | none =>
    rw [hf2] at hQ
    rw [show oI none = D.non from rfl]
    and_intros
    unfold k19_law_step
    and_intros
    rw [ifN]
    exact hQ _
  | some i =>
    rw [hf2] at hQ
    rw [show oI (some i) = D.int i from rfl]
    have hi := ((fig_some (k := 13) (by decide) (by decide) fun i h1 h2 => by
      have e : (0 : Int) - 10 ^ Int.toNat 12 = -1000000000000 := by decide +kernel
      have e2 : (10 : Int) ^ Int.toNat 12 = 1000000000000 := by decide +kernel
      rw [e] at h1
      rw [e2] at h2
      rw [show (10 : Nat) ^ 13 = 10000000000000 by decide]
      omega).1 hf2).2
    have hw : worthW W (some i) = some { W with ws := W.ws ++ [i] } := by
      refine if_pos ⟨hf, ?_, hi.2⟩
      have e : (0 : Int) - 10 ^ Int.toNat 12 = -(10 ^ 12) := by decide +kernel
      rw [← e]; exact hi.1
    have e : osD (worthW W (some i)) = .tup [.lst (nD W.sz), .lst (W.ps.map dP), .lst (nD W.ns), .lst (iD W.ws ++ [.int i])] := by
      rw [hw]
      show stD _ = _
      unfold stD nmD woD
      dsimp only
      rw [hp]
      show D.tup [_, _, _, D.lst (iD (W.ws ++ [i]))] = _
      unfold iD
      rw [List.map_append]
      rfl
    rw [e] at hQ
    and_intros
    unfold k19_law_step
    and_intros
    rw [ifI]
    unfold k18_law_step
    and_intros
    have hwl := hW.wl
    have hdu := hW.due
    exact ⟨by decide, by rw [iD_len]; exact Nat.le_trans (show _ ≤ 3000 by omega) (by decide), by decide, hQ _⟩
theorem st_names {Ex : DX} {E : DEnds} {x0 : Sl} {W : WS} {x : Str} (hp : W.pl = .names) (hl : x.length ≤ 100000) (hW : WOk W) (hs : HasS W) (hQ : ∀ env, E.rt (.ext (osD (tkW W (tl x)))) env) :
    k24_law_step Ex E (seE x0 W x (.lst (nD W.ns)) .non .un [.un, .un, .un, .un, .un, .un, .un]) := by
  unfold k24_law_step
  and_intros
  rw [ifL]
  have hnl : W.ns.length ≤ 12 := Nat.le_trans (rising_len hW.rise hW.lt) hW.few
  refine lc_map (fun n : Nat => D.int (n : Nat)) (fun n => D.int ((sz W.sz n : Nat) : Int)) True.intro W.ns (Nat.le_trans (show _ ≤ 100 by omega) (by decide)) (fun n hn R hR => ?_) fun b => ?_
  · unfold e1_law_step
    and_intros
    refine ⟨_, atN (sz_at (hW.lt n hn)), ?_⟩
    and_intros
    exact hR
  and_intros
  have e : (W.ns.map fun n => D.int ((sz W.sz n : Nat) : Int)) = nD (W.ns.map (sz W.sz)) := by rw [nD, List.map_map]; rfl
  rw [e]
  refine ⟨W.ns.map (sz W.sz), .inl rfl, fun x hx => ?_, Nat.lt_of_le_of_lt hW.due (by decide), fun fin => ?_⟩
  · obtain ⟨n, hn, rfl⟩ := List.mem_map.1 hx
    exact (hW.siz _ (sz_mem (hW.lt n hn))).1
  and_intros
  unfold k23_law_step
  and_intros
  rw [ifL]
  rw [ifNN]
  refine k22_st hW.many hW.all ?_
  exact k21_n hp hl hW hs hQ
theorem st_worths {Ex : DX} {E : DEnds} {x0 : Sl} {W : WS} {x : Str} (hp : W.pl = .worths) (hl : x.length ≤ 100000) (hW : WOk W) (hs : HasS W) (hQ : ∀ env, E.rt (.ext (osD (tkW W (tl x)))) env) :
    k24_law_step Ex E (seE x0 W x (.lst (nD W.ns)) (.lst (iD W.ws)) .un [.un, .un, .un, .un, .un, .un, .un]) := by
  unfold k24_law_step
  and_intros
  rw [ifL]
  have hnl : W.ns.length ≤ 12 := Nat.le_trans (rising_len hW.rise hW.lt) hW.few
  refine lc_map (fun n : Nat => D.int (n : Nat)) (fun n => D.int ((sz W.sz n : Nat) : Int)) True.intro W.ns (Nat.le_trans (show _ ≤ 100 by omega) (by decide)) (fun n hn R hR => ?_) fun b => ?_
  · unfold e1_law_step
    and_intros
    refine ⟨_, atN (sz_at (hW.lt n hn)), ?_⟩
    and_intros
    exact hR
  and_intros
  have e : (W.ns.map fun n => D.int ((sz W.sz n : Nat) : Int)) = nD (W.ns.map (sz W.sz)) := by rw [nD, List.map_map]; rfl
  rw [e]
  refine ⟨W.ns.map (sz W.sz), .inl rfl, fun x hx => ?_, Nat.lt_of_le_of_lt hW.due (by decide), fun fin => ?_⟩
  · obtain ⟨n, hn, rfl⟩ := List.mem_map.1 hx
    exact (hW.siz _ (sz_mem (hW.lt n hn))).1
  and_intros
  unfold k23_law_step
  and_intros
  rw [ifL]
  rw [ifNL, iD_len, show (((W.ws.length : Nat) : Int) == ((prodN (W.ns.map (sz W.sz)) : Nat) : Int)) = decide (W.ws.length = psz W.sz W.ns) by rw [Bool.eq_iff_iff, beq_iff_eq, decide_eq_true_eq]; show _ ↔ W.ws.length = prodN _; omega]
  by_cases hfull : W.ws.length = psz W.sz W.ns
  · rw [if_pos (decide_eq_true hfull)]
    unfold i11_law_step
    and_intros
    rw [beq1 x "/" (n := 47) (by decide +kernel)]
    by_cases h0 : tl x = [47]
    · rw [if_pos (decide_eq_true h0)]
      refine i7_st hW hs (.inr ⟨hp, hfull, rfl, rfl⟩) ?_
      rw [show tkW W (tl x) = strokeW W from if_pos h0] at hQ
      exact hQ
    rw [if_neg fun z => h0 (of_decide_eq_true z)]
    have et : tkW W (tl x) = none := by
      unfold tkW
      rw [if_neg h0, hp]
      show worthW W _ = none
      unfold worthW
      split
      · exact if_neg fun z => z.1 hfull
      · rfl
    rw [et] at hQ
    unfold k10_law_step
    and_intros
    rw [ifL]
    unfold k9_law_step
    and_intros
    rw [ifN]
    exact hQ _
  rw [if_neg fun z => hfull (of_decide_eq_true z)]
  refine k22_st hW.many hW.all ?_
  exact k21_w hp hl hW hfull hQ
theorem m_law_step : Meets t_law_step 2 12 sp_law_step := by
  rintro args Qd Xd ⟨W, x, rfl, hl, hW, hs, hQ⟩
  show t_law_step _ _ [_, _, .un, .un, .un, .un, .un, .un, .un, .un, .un, .un, .un, .un]
  unfold t_law_step
  unfold stD
  and_intros
  have hQ' : ∀ env, (endsOf [Sl.ext (D.tup [D.lst (nD W.sz), D.lst (List.map dP W.ps), nmD W, woD W]), Sl.ext (D.str x)] Qd).rt (.ext (osD (tkW W (tl x)))) env := fun env => hQ _
  cases hp : W.pl with
  | sizes =>
    have e1 : nmD W = .non := by unfold nmD; rw [hp]
    have e2 : woD W = .non := by unfold woD; rw [hp]
    rw [e1, e2] at hQ' ⊢
    exact st_sizes hp hl hW hQ'
  | names =>
    have e1 : nmD W = .lst (nD W.ns) := by unfold nmD; rw [hp]
    have e2 : woD W = .non := by unfold woD; rw [hp]
    rw [e1, e2] at hQ' ⊢
    exact st_names hp hl hW hs hQ'
  | worths =>
    have e1 : nmD W = .lst (nD W.ns) := by unfold nmD; rw [hp]
    have e2 : woD W = .lst (iD W.ws) := by unfold woD; rw [hp]
    rw [e1, e2] at hQ' ⊢
    exact st_worths hp hl hW hs hQ'
end RF
end WD
end LS
namespace LS
namespace WD
namespace RF
open PySem L2 HD PM
local macro_rules | `(tactic| trivial) => `(tactic| try simp -dsimp only [↓sIf, ↓sRet, ↓retD_ext, ↓retD_lst, ↓retD_al, ↓sSet, ↓sSetE, ↓sAsg, ↓sDrop, ↓sNext, ↓sFor, ↓sRetN, ↓sCont, ↓sBreak, ↓dTest, ↓dOp, ↓dVar_w, ↓dC, ↓dCons, ↓dNil, ↓dTup, ↓dLst, ↓frzDs, ↓frzD_ext, ↓frzD_lst, ↓frzD_al, ↓wd_ext, ↓wd_lst, ↓wd_al, ↓wds, ↓AtS_ext, ↓AtS_lst, ↓AtL, ↓fAdd, ↓fSub, ↓fMul, ↓fDiv, ↓fMod, ↓fPow, ↓fCmp, ↓fIn, ↓fEq_ii, ↓fEq_ss, ↓fEq_bb, ↓fEq_tt, ↓fEq_ll, ↓fNe_ii, ↓fNe_ss, ↓fNe_bb, ↓fNe_tt, ↓fNe_ll, ↓fIx_l, ↓fIx_t, ↓fIx_k, ↓fIx_f, ↓GetS_some, ↓NatS_some, ↓fSl, ↓fIsN, ↓fNotN, ↓D.knN, ↓dNot, ↓dAnd, ↓dOr, ↓dAndV_w, ↓dOrV_w, ↓dNotV, ↓dIf, ↓dNeg, ↓dChain_w, ↓BlS_bl, ↓dCall_w, ↓dCallJ_w, ↓anyAl, ↓frozs, ↓froz, ↓gSet, ↓gTupD, ↓gsCons, ↓gsNil, ↓dSeq, ↓seqD_tup, ↓seqD_elst, ↓seqD_lst, ↓seqD_al, ↓dRange1, ↓dRange2, ↓dZip, ↓dCB, ↓dLc, ↓dYes, ↓dNoPart, ↓dPart, ↓dSl, ↓fLen, ↓fMin, ↓fMax, ↓fSum, ↓fAll, ↓fAny, ↓fSorted, ↓fTuple, ↓fList, ↓dRg1, ↓dRg2, ↓dLstRg, ↓dTupRg, ↓dIndex, ↓fIdx, ↓dAppend_w, ↓dExtend_w, ↓extD_lst, ↓dPopAt_w, ↓popD_int, ↓dPop_w, ↓mutD_w, ↓sSetItem_w, ↓setD_int, ↓dSortSet, ↓dTable_w, ↓wipeE, finals1, finals2, finals3, finals4, finals5, finals6, fin1_ext, fin1_lst, List.getElem?_cons_zero, List.getElem?_cons_succ, List.getElem?_nil, List.set_cons_zero, List.set_cons_succ, List.cons_append, List.nil_append, List.append_nil, List.replicate_succ, List.replicate_zero, List.map_cons, List.map_nil, List.length_cons, List.length_nil, true_and, and_true, ite_true, ite_false, if_true, if_false, Bool.false_eq_true, decide_eq_true_eq, Sl.plain, D.isSq, eq_self_iff_true, forall_const, reduceIte, true_or, or_true, atI_0, atI_1, atI_2, atI_3, ixN_0, ixN_1, ixN_2, AtS_ext, AtS_lst, FzS_lst, FzS_ext, GetS_some, NatS_some, ↓fIsi1, ↓fIsi2, BoolS_some, HD.kb_non_tuple, HD.kb_non_list, HD.kb_non_bool, HD.kb_non_int, HD.kb_non_str, HD.kb_bl_tuple, HD.kb_bl_list, HD.kb_bl_bool, HD.kb_bl_int, HD.kb_bl_str, HD.kb_int_tuple, HD.kb_int_list, HD.kb_int_bool, HD.kb_int_int, HD.kb_int_str, HD.kb_str_tuple, HD.kb_str_list, HD.kb_str_bool, HD.kb_str_int, HD.kb_str_str, HD.kb_lst_tuple, HD.kb_lst_list, HD.kb_lst_bool, HD.kb_lst_int, HD.kb_lst_str, HD.kb_tup_tuple, HD.kb_tup_list, HD.kb_tup_bool, HD.kb_tup_int, HD.kb_tup_str, ↓sFz_w, ↓FzS_lst, ↓FzS_ext, ↓dSortSetL, ↓fAbs, ↓fInt, ↓fRepr, ↓fLtT, ↓sRaise, ↓sTryKeep, ↓dCallV_w, ↓dMeth, ↓fCount, ↓fSplit, ↓seq_setE, ↓seq_set, ↓seq_drop, ↓seq_asg, ↓seq_if, ↓seq_for, ↓dStep, ↓fStep, ↓fMulT, ↓fIsB, ↓fNotB, ↓sPar, ↓dEnum, ↓dListZip, ↓dNest, ↓sSeal, ↓dNApp, ↓retD_reg, ↓dLenSet, ↓fSum2, ↓seq_putD, ↓seq_sealD, ↓dDIn, ↓dDGet, ↓sPutD, ↓dDNew, ↓dDOne, ↓sSealD, ↓dKeys, ↓keyS_dk, ↓dExtT, ↓fSortT, ↓fMinP, ↓dRemove, ↓dDInT, ↓dDGetT, ↓sPutDT, ↓dDNewT, ↓sSealDT, ↓dKeysT, ↓keyST_dt, ↓fSortK, ↓seq_putDT, ↓seq_sealDT, ↓dVarR_w, ↓dAttr, ↓dAppR, ↓dExtR_w, ↓dExtTR_w, ↓dClrR, ↓dPopR_w, ↓dIxR_w, ↓dDGetR, ↓dDInR, ↓dGet2R, ↓dPop1R, ↓dPop2R, ↓dDGetTR, ↓dDInTR, ↓dPop1TR, ↓dCallM, ↓dMethO, ↓dMake, ↓dMoveR, ↓dPtr, ↓sAttr, ↓sSetR, ↓sPutR, ↓sPutTR, ↓sSetA_w, ↓sSetG_w, ↓seq_setG, ↓seq_setA, ↓seq_attr, ↓seq_setR, ↓seq_putR, ↓seq_putTR, ↓RegS_reg, ↓CellS_some, ↓RefS_reg, ↓RefS_ar, ↓cellS_ar, ↓wd_ar, ↓seqD_ar, ↓lstO_lst, ↓insO_ins, ↓dkO_dk, ↓dkO_lk, ↓dtO_dt, ↓dtO_lk, ↓dkW_dk, ↓dtW_dt, ↓stoS_ext, ↓stoS_reg, ↓stoS_lstT, ↓stoS_lstF, ↓stoS_al, ↓ptrD_ref, ↓ptrD_int, ↓ptrD_str, ↓ptrD_bl, ↓ptrD_non, ↓ptrD_tup, ↓ptrD_tk, ↓ptrD_lst, ↓ptrD_fz, ↓setGS_lst, ↓setGS_reg, ↓setAS_ar, ↓setAS_ext, ↓intS_int, ↓tupS_tup, ↓lstS_lst, ↓lstK, ↓dkK, ↓dtK, ↓retD_reg, ↓dSortSetB, ↓fSortD, ↓fInD, ↓dCallD, ↓regC_reg, ↓dMoveL, ↓dMoveR_w, ↓dDictP, ↓froz_lst, ↓froz_ext, ↓dUpdTR, ↓dUpdKR, ↓dDictZipK, ↓dDictC, ↓gLstD, ↓dClear, ↓fStr, ↓dListItems, ↓dLenK, ↓dSortKI, ↓dInC, ↓fJoin, ↓fIntS, ↓fInSg, ↓fSlS, ↓dSlS, ↓dSigns_w, ↓fMulS, ↓dIsNR, ↓nonQ, ↓sRaiseT, ↓sTryKeepN, ↓dExcAt, ↓fSIdx, ↓fMulN, ↓dGetC, ↓dInC])
local macro_rules | `(tactic| and_intros) => `(tactic| try simp -dsimp only [↓sIf, ↓sRet, ↓retD_ext, ↓retD_lst, ↓retD_al, ↓sSet, ↓sSetE, ↓sAsg, ↓sDrop, ↓sNext, ↓sFor, ↓sRetN, ↓sCont, ↓sBreak, ↓dTest, ↓dOp, ↓dC, ↓dCons, ↓dNil, ↓dTup, ↓dLst, ↓frzDs, ↓frzD_ext, ↓frzD_lst, ↓frzD_al, ↓wd_ext, ↓wd_lst, ↓wd_al, ↓wds, ↓AtS_ext, ↓AtS_lst, ↓AtL, ↓fAdd, ↓fSub, ↓fMul, ↓fDiv, ↓fMod, ↓fPow, ↓fCmp, ↓fIn, ↓fEq_ii, ↓fEq_ss, ↓fEq_bb, ↓fEq_tt, ↓fEq_ll, ↓fNe_ii, ↓fNe_ss, ↓fNe_bb, ↓fNe_tt, ↓fNe_ll, ↓fIx_l, ↓fIx_t, ↓fIx_k, ↓fIx_f, ↓GetS_some, ↓NatS_some, ↓fSl, ↓fIsN, ↓fNotN, ↓D.knN, ↓dNot, ↓dAnd, ↓dOr, ↓dAndV_w, ↓dOrV_w, ↓dNotV, ↓dIf, ↓dNeg, ↓dChain_w, ↓BlS_bl, ↓dCall_w, ↓dCallJ_w, ↓anyAl, ↓frozs, ↓froz, ↓gSet, ↓gTupD, ↓gsCons, ↓gsNil, ↓dSeq, ↓seqD_tup, ↓seqD_elst, ↓seqD_lst, ↓seqD_al, ↓dRange1, ↓dRange2, ↓dZip, ↓dCB, ↓dLc, ↓dYes, ↓dNoPart, ↓dPart, ↓dSl, ↓fLen, ↓fMin, ↓fMax, ↓fSum, ↓fAll, ↓fAny, ↓fSorted, ↓fTuple, ↓fList, ↓dRg1, ↓dRg2, ↓dLstRg, ↓dTupRg, ↓dIndex, ↓fIdx, ↓dAppend_w, ↓dExtend_w, ↓extD_lst, ↓dPopAt_w, ↓popD_int, ↓dPop_w, ↓mutD_w, ↓sSetItem_w, ↓setD_int, ↓dSortSet, ↓dTable_w, ↓wipeE, finals1, finals2, finals3, finals4, finals5, finals6, fin1_ext, fin1_lst, List.getElem?_cons_zero, List.getElem?_cons_succ, List.getElem?_nil, List.set_cons_zero, List.set_cons_succ, List.cons_append, List.nil_append, List.append_nil, List.replicate_succ, List.replicate_zero, List.map_cons, List.map_nil, List.length_cons, List.length_nil, true_and, and_true, ite_true, ite_false, if_true, if_false, Bool.false_eq_true, decide_eq_true_eq, Sl.plain, D.isSq, eq_self_iff_true, forall_const, reduceIte, true_or, or_true, atI_0, atI_1, atI_2, atI_3, ixN_0, ixN_1, ixN_2, AtS_ext, AtS_lst, FzS_lst, FzS_ext, GetS_some, NatS_some, ↓fIsi1, ↓fIsi2, BoolS_some, HD.kb_non_tuple, HD.kb_non_list, HD.kb_non_bool, HD.kb_non_int, HD.kb_non_str, HD.kb_bl_tuple, HD.kb_bl_list, HD.kb_bl_bool, HD.kb_bl_int, HD.kb_bl_str, HD.kb_int_tuple, HD.kb_int_list, HD.kb_int_bool, HD.kb_int_int, HD.kb_int_str, HD.kb_str_tuple, HD.kb_str_list, HD.kb_str_bool, HD.kb_str_int, HD.kb_str_str, HD.kb_lst_tuple, HD.kb_lst_list, HD.kb_lst_bool, HD.kb_lst_int, HD.kb_lst_str, HD.kb_tup_tuple, HD.kb_tup_list, HD.kb_tup_bool, HD.kb_tup_int, HD.kb_tup_str, ↓sFz_w, ↓FzS_lst, ↓FzS_ext, ↓dSortSetL, ↓fAbs, ↓fInt, ↓fRepr, ↓fLtT, ↓sRaise, ↓sTryKeep, ↓dCallV_w, ↓dMeth, ↓fCount, ↓fSplit, ↓seq_setE, ↓seq_set, ↓seq_drop, ↓seq_asg, ↓seq_if, ↓seq_for, ↓dStep, ↓fStep, ↓fMulT, ↓fIsB, ↓fNotB, ↓sPar, ↓dEnum, ↓dListZip, ↓dNest, ↓sSeal, ↓dNApp, ↓retD_reg, ↓dLenSet, ↓fSum2, ↓seq_putD, ↓seq_sealD, ↓dDIn, ↓dDGet, ↓sPutD, ↓dDNew, ↓dDOne, ↓sSealD, ↓dKeys, ↓keyS_dk, ↓dExtT, ↓fSortT, ↓fMinP, ↓dRemove, ↓dDInT, ↓dDGetT, ↓sPutDT, ↓dDNewT, ↓sSealDT, ↓dKeysT, ↓keyST_dt, ↓fSortK, ↓seq_putDT, ↓seq_sealDT, ↓dVarR_w, ↓dAttr, ↓dAppR, ↓dExtR_w, ↓dExtTR_w, ↓dClrR, ↓dPopR_w, ↓dIxR_w, ↓dDGetR, ↓dDInR, ↓dGet2R, ↓dPop1R, ↓dPop2R, ↓dDGetTR, ↓dDInTR, ↓dPop1TR, ↓dCallM, ↓dMethO, ↓dMake, ↓dMoveR, ↓dPtr, ↓sAttr, ↓sSetR, ↓sPutR, ↓sPutTR, ↓sSetA_w, ↓sSetG_w, ↓seq_setG, ↓seq_setA, ↓seq_attr, ↓seq_setR, ↓seq_putR, ↓seq_putTR, ↓RegS_reg, ↓CellS_some, ↓RefS_reg, ↓RefS_ar, ↓cellS_ar, ↓wd_ar, ↓seqD_ar, ↓lstO_lst, ↓insO_ins, ↓dkO_dk, ↓dkO_lk, ↓dtO_dt, ↓dtO_lk, ↓dkW_dk, ↓dtW_dt, ↓stoS_ext, ↓stoS_reg, ↓stoS_lstT, ↓stoS_lstF, ↓stoS_al, ↓ptrD_ref, ↓ptrD_int, ↓ptrD_str, ↓ptrD_bl, ↓ptrD_non, ↓ptrD_tup, ↓ptrD_tk, ↓ptrD_lst, ↓ptrD_fz, ↓setGS_lst, ↓setGS_reg, ↓setAS_ar, ↓setAS_ext, ↓intS_int, ↓tupS_tup, ↓lstS_lst, ↓lstK, ↓dkK, ↓dtK, ↓retD_reg, ↓dSortSetB, ↓fSortD, ↓fInD, ↓dCallD, ↓regC_reg, ↓dMoveL, ↓dMoveR_w, ↓dDictP, ↓froz_lst, ↓froz_ext, ↓dUpdTR, ↓dUpdKR, ↓dDictZipK, ↓dDictC, ↓gLstD, ↓dClear, ↓fStr, ↓dListItems, ↓dLenK, ↓dSortKI, ↓dInC, ↓fJoin, ↓fIntS, ↓fInSg, ↓fSlS, ↓dSlS, ↓dSigns_w, ↓fMulS, ↓dIsNR, ↓nonQ, ↓sRaiseT, ↓sTryKeepN, ↓dExcAt, ↓fSIdx, ↓fMulN, ↓dGetC, ↓dInC, ↓dv0, ↓dw0, ↓dv1, ↓dw1, ↓dv2, ↓dw2, ↓dv3, ↓dw3, ↓dv4, ↓dw4, ↓dv5, ↓dw5, ↓dv6, ↓dw6, ↓dv7, ↓dw7, ↓dv8, ↓dw8, ↓dv9, ↓dw9, ↓dv10, ↓dw10, ↓dv11, ↓dw11, ↓dv12, ↓dw12, ↓dv13, ↓dw13, ↓dv14, ↓dw14, ↓dv15, ↓dw15, ↓dv16, ↓dw16, ↓dv17, ↓dw17, ↓dv18, ↓dw18, ↓dv19, ↓dw19])
def cs56 : List Str := ["NoText"]
def rD : WS ⊕ Nat → List D
  | .inl W => [.str (Str.ofString "told"), dSh (closeW W).sz (closeW W).ps]
  | .inr k => [.str (Str.ofString "text"), .int (k : Nat)]
theorem rg_zip {ws : List Str} : rgD 0 ((ws.length : Nat) : Int) = ws.zipIdx.map fun p : Str × Nat => D.int (p.2 : Nat) := by
  rw [rgD_nat]
  have : ws.zipIdx.map (fun p : Str × Nat => D.int (p.2 : Nat)) = (ws.zipIdx.map Prod.snd).map fun n : Nat => D.int (n : Nat) := by rw [List.map_map]; rfl
  rw [this, List.zipIdx_map_snd]
  show nD _ = (List.range' 0 _).map _
  rw [← List.range_eq_range']
theorem tk_has {W W' : WS} {cs : List Nat} (h : WOk W) (hs : HasS W) (e : tkW W cs = some W') : HasS W' ∧ 0 < W'.sz.length := by
  unfold tkW at e
  split at e
  · unfold strokeW at e
    by_cases hc : isDone W = true ∧ W.ps.length + (if W.pl = .worths then 1 else 0) ≠ 24 ∧ 2000 - allW (closeW W).ps ≠ 0
    · rw [if_pos hc] at e
      cases e
      have h0 : 0 < W.sz.length := by
        by_cases hp : W.pl = .sizes
        · have := hc.1
          unfold isDone at this
          rw [hp] at this
          exact of_decide_eq_true this
        · exact hs.1 hp
      have h1 : 0 < (closeW W).sz.length := by rw [close_sz]; exact h0
      exact ⟨⟨fun _ => h1, fun _ => rfl⟩, h1⟩
    · rw [if_neg hc] at e
      cases e
  · split at e
    · rename_i hp
      unfold sizeW at e
      split at e
      · rename_i i _
        split at e
        · cases e
          have h1 : 0 < (W.sz ++ [i.toNat]).length := by rw [List.length_append, List.length_singleton]; exact Nat.succ_pos _
          exact ⟨⟨fun _ => h1, fun z => by rw [show ({ W with sz := W.sz ++ _ } : WS).pl = W.pl from rfl, hp] at z; cases z⟩, h1⟩
        · cases e
      · cases e
    · rename_i hp
      have h0 := hs.1 (by rw [hp]; decide)
      unfold nameW at e
      split at e
      · cases e
        exact ⟨⟨fun _ => h0, fun z => by cases z⟩, h0⟩
      · cases ho : numW cs 2 with
        | none => rw [ho] at e; cases e
        | some i =>
          rw [ho] at e
          have e : (if (match W.ns.getLast? with | some m => ((m + 1 : Nat) : Int) | none => 0) ≤ i ∧ i < (W.sz.length : Int) ∧ psz W.sz W.ns * sz W.sz i.toNat ≤ 2000 - allW W.ps then some { W with ns := W.ns ++ [i.toNat] } else none) = some W' := e
          by_cases hc : (match W.ns.getLast? with | some m => ((m + 1 : Nat) : Int) | none => 0) ≤ i ∧ i < (W.sz.length : Int) ∧ psz W.sz W.ns * sz W.sz i.toNat ≤ 2000 - allW W.ps
          · rw [if_pos hc] at e
            cases e
            exact ⟨⟨fun _ => h0, fun _ => hs.2 hp⟩, h0⟩
          · rw [if_neg hc] at e
            cases e
    · rename_i hp
      have h0 := hs.1 (by rw [hp]; decide)
      unfold worthW at e
      split at e
      · split at e
        · cases e
          exact ⟨⟨fun _ => h0, fun z => by rw [show ({ W with ws := W.ws ++ _ } : WS).pl = W.pl from rfl, hp] at z; cases z⟩, h0⟩
        · cases e
      · cases e
def sp_law_due : DSpec := fun args Q _ => ∃ x : Str, args = [.ext (.str x)] ∧ x.length ≤ 90000 ∧ ∀ a fin, Q (.lst a (rD (readR W0 0 (wordsL x)))) fin
def k1_law_due : DTS :=
    (sIf (dTest (dOp fIsN (dVar 2) (dC .non))) (sRet (dLst (dCons (dC (.str (Str.ofString "text"))) (dCons (dVar 3) dNil)))) sNext)
def b2_law_due : DTS :=
    (sSeq (sSetE 2 (dCall sp_law_step (dCons (dVar 2) (dCons (dOp fIx (dVar 1) (dVar 3)) dNil))))
    k1_law_due)
def e3_law_due : DT :=
    (dOp fIx (dVar 4) (dVar 9))
def k4_law_due : DTS :=
    (sRet (dLst (dCons (dC (.str (Str.ofString "told"))) (dCons (dTup (dCons (dCB fTuple (dCons (dVar 4) dNil)) (dCons (dCB fTuple (dCons (dVar 5) dNil)) dNil))) dNil))))
def k5_law_due : DTS :=
    (sSeq (sSetE 5 (dOp fAdd (dVar 5) (dLst (dCons (dTup (dCons (dCB fTuple (dCons (dVar 6) dNil)) (dCons (dCB fTuple (dCons (dVar 7) dNil)) dNil))) dNil))))
    k4_law_due)
def k6_law_due : DTS :=
    (sSeq (sIf (dOr (dTest (dOp fIsN (dVar 7) (dC .non))) (dTest (dOp (fCmp fun i j => decide (i < j)) (dCB fLen (dCons (dVar 7) dNil)) (dVar 8)))) (sRet (dLst (dCons (dC (.str (Str.ofString "text"))) (dCons (dCB fLen (dCons (dVar 1) dNil)) dNil)))) sNext)
    k5_law_due)
def k7_law_due : DTS :=
    (sSeq (sSetE 8 (dCall sp_law_times (dCons (dLc (dSeq (dVar 6)) (gSet 9) dYes e3_law_due [9]) dNil)))
    k6_law_due)
def k8_law_due : DTS :=
    (sSeq (sIf (dTest (dOp fIsN (dVar 6) (dC .non))) (sRet (dLst (dCons (dC (.str (Str.ofString "told"))) (dCons (dTup (dCons (dCB fTuple (dCons (dVar 4) dNil)) (dCons (dCB fTuple (dCons (dVar 5) dNil)) dNil))) dNil)))) sNext)
    k7_law_due)
def k9_law_due : DTS :=
    (sSeq (sAsg (dVar 2) (gTupD 4 (gsCons (gSet 4) (gsCons (gSet 5) (gsCons (gSet 6) (gsCons (gSet 7) gsNil))))))
    k8_law_due)
def k10_law_due : DTS :=
    (sSeq (sFor (dRange1 (dCons (dCB fLen (dCons (dVar 1) dNil)) dNil)) (gSet 3) b2_law_due)
    k9_law_due)
def k11_law_due : DTS :=
    (sSeq (sSetE 2 (dTup (dCons (dLst dNil) (dCons (dLst dNil) (dCons (dC .non) (dCons (dC .non) dNil))))))
    k10_law_due)
def t_law_due : DTS :=
    (sSeq (sSetE 1 (dMeth D.isStr fSplit (dVar 0) (dC (.str (Str.ofString " ")))))
    k11_law_due)
theorem k7_due {Ex : DX} {E : DEnds} {W : WS} {x0 x1 x2 x3 x5 x7 u8 : Sl} (hW : WOk W) (h : ∀ b : Unit, k6_law_due Ex E [x0, x1, x2, x3, .ext (.lst (nD W.sz)), x5, .ext (.lst (nD W.ns)), x7, dI ((psz W.sz W.ns : Nat) : Int), .un]) :
    k7_law_due Ex E [x0, x1, x2, x3, .ext (.lst (nD W.sz)), x5, .ext (.lst (nD W.ns)), x7, u8, .un] := by
  have hnl : W.ns.length ≤ 12 := Nat.le_trans (rising_len hW.rise hW.lt) hW.few
  unfold k7_law_due
  and_intros
  refine lc_map (fun n : Nat => D.int (n : Nat)) (fun n => D.int ((sz W.sz n : Nat) : Int)) True.intro W.ns (Nat.le_trans (show _ ≤ 100 by omega) (by decide)) (fun n hn R hR => ?_) fun b => ?_
  · unfold e3_law_due
    and_intros
    refine ⟨_, atN (sz_at (hW.lt n hn)), ?_⟩
    and_intros
    exact hR
  and_intros
  have e : (W.ns.map fun n => D.int ((sz W.sz n : Nat) : Int)) = nD (W.ns.map (sz W.sz)) := by rw [nD, List.map_map]; rfl
  rw [e]
  refine ⟨W.ns.map (sz W.sz), .inl rfl, fun x hx => ?_, Nat.lt_of_le_of_lt hW.due (by decide), fun fin => ?_⟩
  · obtain ⟨n, hn, rfl⟩ := List.mem_map.1 hx
    exact (hW.siz _ (sz_mem (hW.lt n hn))).1
  and_intros
  exact h ()
theorem m_law_due : Meets t_law_due 1 9 sp_law_due := by
  rintro args Qd Xd ⟨x, rfl, hl, hQ⟩
  have hw : ∀ w ∈ Txt.split x (Str.ofString " "), w.length ≤ 100000 := fun w h => Nat.le_trans (split_len h) (by omega)
  unfold wordsL at hQ
  have hms := ms_split x
  show t_law_due _ _ [_, .un, .un, .un, .un, .un, .un, .un, .un, .un]
  unfold t_law_due
  and_intros
  refine ⟨rfl, by decide +kernel, Nat.le_trans (show _ ≤ 100000 by omega) (by decide), ?_⟩
  generalize hws : Txt.split x (Str.ofString " ") = ws at hw hQ hms ⊢
  have hlen : ws.length ≤ x.length + 1 := by unfold msS at hms; omega
  unfold k11_law_due
  and_intros
  refine ⟨by decide, by decide, by decide, ?_⟩
  unfold k10_law_due
  and_intros
  rw [List.length_map, rg_zip]
  have hzl : ws.zipIdx.map (fun p => tl p.1) = ws.map tl := by
    rw [show (fun p : Str × Nat => tl p.1) = tl ∘ Prod.fst from rfl, ← List.map_map, List.zipIdx_map_fst]
  refine ⟨?_, ?_⟩
  · show small62 _
    unfold small62
    omega
  refine for_ind (fun p : Str × Nat => D.int (p.2 : Nat)) (fun qs env => ∃ (W1 : WS) (k : Nat) (u3 : Sl), env = [.ext (.str x), .ext (.lst (ws.map D.str)), .ext (stD W1), u3, .un, .un, .un, .un, .un, .un] ∧ WOk W1 ∧ HasS W1 ∧ (0 < k → 0 < W1.sz.length) ∧ readR W1 k (qs.map fun p => tl p.1) = readR W0 0 (ws.map tl) ∧ k + qs.length = ws.length ∧ (∀ j q, qs[j]? = some q → q.2 = k + j) ∧ ∀ q ∈ qs, ws[q.2]? = some q.1) ?_ ?_ ws.zipIdx _ ⟨W0, 0, _, rfl, W0_ok, ⟨fun h => absurd rfl h, fun _ => rfl⟩, fun h => absurd h (by decide), by rw [hzl], by rw [List.length_zipIdx]; omega, fun j q hj => ?_, fun q hq => ?_⟩
  · rintro env ⟨W1, k, u3, rfl, hW, hs, hsz, hr, hk, _⟩
    refine ⟨True.intro, ?_⟩
    rw [List.map_nil] at hr
    have hr : (if isDone W1 = true then Sum.inl W1 else Sum.inr k) = readR W0 0 (ws.map tl) := hr
    have hk : k + 0 = ws.length := hk
    unfold k9_law_due stD
    and_intros
    unfold k8_law_due
    have hpos : 0 < k := by
      have : 0 < msS ws := by omega
      unfold msS at this
      cases ws with
      | nil => exact absurd this (by decide)
      | cons w ws => rw [List.length_cons] at hk; omega
    have hsz := hsz hpos
    cases hp : W1.pl with
    | sizes =>
      have hd : isDone W1 = true := by unfold isDone; rw [hp]; exact decide_eq_true hsz
      rw [hd, if_pos rfl] at hr
      have hc : closeW W1 = W1 := if_neg (by rw [hp]; decide)
      rw [← hr, show rD (.inl W1) = [.str (Str.ofString "told"), dSh W1.sz W1.ps] by unfold rD; dsimp only; rw [hc]] at hQ
      rw [show nmD W1 = .non by unfold nmD; rw [hp]]
      and_intros
      rw [ifN]
      exact ⟨by decide, by decide, fun a => hQ _ _⟩
    | names =>
      have hd : isDone W1 = false := by unfold isDone; rw [hp]
      rw [hd, if_neg (by decide)] at hr
      rw [← hr] at hQ
      rw [show nmD W1 = .lst (nD W1.ns) by unfold nmD; rw [hp], show woD W1 = .non by unfold woD; rw [hp]]
      and_intros
      rw [ifL]
      refine k7_due hW fun b => ?_
      unfold k6_law_due
      and_intros
      rw [ifN, List.length_map]
      refine ⟨by decide, fun a => ?_⟩
      have := hQ a [Sl.ext (D.str x)]
      have e : ((ws.length : Nat) : Int) = ((k : Nat) : Int) := by omega
      rw [e]
      exact this
    | worths =>
      rw [show nmD W1 = .lst (nD W1.ns) by unfold nmD; rw [hp], show woD W1 = .lst (iD W1.ws) by unfold woD; rw [hp]]
      and_intros
      rw [ifL]
      refine k7_due hW fun b => ?_
      unfold k6_law_due
      and_intros
      rw [ifL, iD_len]
      have hwl := hW.wl
      by_cases hf : W1.ws.length = psz W1.sz W1.ns
      rotate_left
      · have hd : isDone W1 = false := by unfold isDone; rw [hp]; exact decide_eq_false hf
        rw [hd, if_neg (by decide)] at hr
        rw [← hr] at hQ
        rw [if_pos (by omega), List.length_map]
        refine ⟨by decide, fun a => ?_⟩
        have := hQ a [Sl.ext (D.str x)]
        have e : ((ws.length : Nat) : Int) = ((k : Nat) : Int) := by omega
        rw [e]
        exact this
      have hd : isDone W1 = true := by unfold isDone; rw [hp]; exact decide_eq_true hf
      rw [hd, if_pos rfl] at hr
      have hc : closeW W1 = { W1 with ps := W1.ps ++ [⟨W1.ns, W1.ws⟩] } := if_pos hp
      rw [← hr, show rD (.inl W1) = [.str (Str.ofString "told"), dSh W1.sz (W1.ps ++ [⟨W1.ns, W1.ws⟩])] by unfold rD; dsimp only; rw [hc]] at hQ
      rw [if_neg (by omega)]
      unfold k5_law_due
      and_intros
      have h23 := hW.many
      refine ⟨by decide, by decide, by rw [List.length_map]; exact Nat.le_trans (show _ ≤ 100 by omega) (by decide), ?_⟩
      unfold k4_law_due
      and_intros
      refine ⟨by decide, by decide, fun a => ?_⟩
      have := hQ a [Sl.ext (D.str x)]
      rw [show W1.ps.map dP ++ [D.tup [D.tup (nD W1.ns), D.tup (iD W1.ws)]] = (W1.ps ++ [(⟨W1.ns, W1.ws⟩ : Part)]).map dP by rw [List.map_append]; rfl]
      exact this
  · rintro q qs env N ⟨W1, k, u3, rfl, hW, hs, hsz, hr, hk, hix, hmem⟩ hN
    refine ⟨True.intro, ?_⟩
    rw [List.map_cons] at hr
    have hr : (match tkW W1 (tl q.1) with | some W' => readR W' (k + 1) (qs.map fun p => tl p.1) | none => .inr k) = readR W0 0 (ws.map tl) := hr
    have hq2 : q.2 = k := hix 0 q rfl
    have hat : (ws.map D.str)[q.2]? = some (.str q.1) := by rw [List.getElem?_map, hmem q List.mem_cons_self]; rfl
    have hql := hw q.1 (List.mem_of_getElem? (hmem q List.mem_cons_self))
    have hj : ∀ j p, qs[j]? = some p → p.2 = k + 1 + j := fun j p hp => by
      have := hix (j + 1) p hp
      omega
    rw [List.length_cons] at hk
    unfold b2_law_due
    and_intros
    refine ⟨_, atN hat, ?_⟩
    and_intros
    refine ⟨W1, q.1, rfl, hql, hW, hs, fun fin => ?_⟩
    cases ht : tkW W1 (tl q.1) with
    | none =>
      rw [ht] at hr
      rw [show osD none = D.non from rfl]
      and_intros
      unfold k1_law_due
      and_intros
      rw [ifN, hq2]
      rw [← hr] at hQ
      exact ⟨by decide, fun a => hQ _ _⟩
    | some W2 =>
      rw [ht] at hr
      obtain ⟨hs2, hsz2⟩ := tk_has hW hs ht
      rw [show osD (some W2) = stD W2 from rfl]
      and_intros
      unfold k1_law_due
      and_intros
      refine ⟨rfl, ?_⟩
      rw [if_neg (show ¬ (stD W2).isNon = true from Bool.false_ne_true)]
      exact hN _ ⟨W2, k + 1, _, rfl, tk_ok hW ht, hs2, fun _ => hsz2, hr, by omega, hj, fun r hr => hmem r (List.mem_cons_of_mem _ hr)⟩
  · rw [List.getElem?_zipIdx] at hj
    cases hg : ws[j]? with
    | none => rw [hg] at hj; cases hj
    | some z =>
      rw [hg] at hj
      cases hj
      rfl
  · have := List.mem_zipIdx' hq
    rw [this.2]
    exact List.getElem?_eq_getElem _
def sp_law_told : DSpec := fun args Q _ => ∃ x : Str, args = [.ext (.str x)] ∧ x.length ≤ 90000 ∧ ∀ a fin, Q (.lst a (rD (readR W0 0 (wordsL x)))) fin
def sp_law_class (cs : List Str) : DSpec := fun args Q _ => ∃ c : Str, args = [.ext (.exc c)] ∧ xk c ∈ cs ∧ xk c ∈ xAll ∧ ∀ fin, Q (.ext (.str (xWord (xk c)))) fin
theorem isXN_glo {cs : List Str} {c : Str} (hc : xk c ∈ cs) (x : Str) (hx : x ∈ xAll) (Q : Sl → Prop) : fIsX (xtabN cs) [.exc c, .glo x] Q = Q (.ext (.bl (decide (x = xk c)))) := isX_glo hc x hx Q
theorem isXN_ve {cs : List Str} {c : Str} (hc : xk c ∈ cs) (Q : Sl → Prop) : fIsX (xtabN cs) [.exc c, .val (.ty "ValueError")] Q = Q (.ext (.bl true)) := isX_ve hc Q
def k1_law_class (cs : List Str) : DTS :=
    (sSeq (sSetE 2 (dC (.str (Str.ofString "filling name many deeds offers tree bag part worths back weights number row text"))))
    (sRet (dOp fIx (dMeth D.isStr fSplit (dVar 2) (dC (.str (Str.ofString " ")))) (dIndex (dVar 1) (dC (.bl true))))))
def t_law_class (cs : List Str) : DTS :=
    (sSeq (sSetE 1 (dLst (dCons (dCB (fIsX (xtabN cs)) (dCons (dVar 0) (dCons (dC (.glo "NoFilling")) dNil))) (dCons (dCB (fIsX (xtabN cs)) (dCons (dVar 0) (dCons (dC (.glo "NoName")) dNil))) (dCons (dCB (fIsX (xtabN cs)) (dCons (dVar 0) (dCons (dC (.glo "TooMany")) dNil))) dNil)))))
    (sSeq (sSetE 1 (dOp fAdd (dVar 1) (dLst (dCons (dCB (fIsX (xtabN cs)) (dCons (dVar 0) (dCons (dC (.glo "NoDeeds")) dNil))) (dCons (dCB (fIsX (xtabN cs)) (dCons (dVar 0) (dCons (dC (.glo "NoOffers")) dNil))) (dCons (dCB (fIsX (xtabN cs)) (dCons (dVar 0) (dCons (dC (.glo "NoTree")) dNil))) dNil))))))
    (sSeq (sSetE 1 (dOp fAdd (dVar 1) (dLst (dCons (dCB (fIsX (xtabN cs)) (dCons (dVar 0) (dCons (dC (.glo "NoBag")) dNil))) (dCons (dCB (fIsX (xtabN cs)) (dCons (dVar 0) (dCons (dC (.glo "NoPart")) dNil))) (dCons (dCB (fIsX (xtabN cs)) (dCons (dVar 0) (dCons (dC (.glo "NoWorths")) dNil))) dNil))))))
    (sSeq (sSetE 1 (dOp fAdd (dVar 1) (dLst (dCons (dCB (fIsX (xtabN cs)) (dCons (dVar 0) (dCons (dC (.glo "NoBack")) dNil))) (dCons (dCB (fIsX (xtabN cs)) (dCons (dVar 0) (dCons (dC (.glo "NoWeights")) dNil))) (dCons (dCB (fIsX (xtabN cs)) (dCons (dVar 0) (dCons (dC (.glo "NoNumber")) dNil))) dNil))))))
    (sSeq (sSetE 1 (dOp fAdd (dVar 1) (dLst (dCons (dCB (fIsX (xtabN cs)) (dCons (dVar 0) (dCons (dC (.glo "NoRow")) dNil))) (dCons (dCB (fIsX (xtabN cs)) (dCons (dVar 0) (dCons (dC (.glo "NoText")) dNil))) dNil)))))
    (sSeq (sIf (dOr (dTest (dOp fNe (dMeth D.isLst fCount (dVar 1) (dC (.bl true))) (dC (.int 1)))) (dNot (dTest (dCB (fIsX (xtabN cs)) (dCons (dVar 0) (dCons (dC (.val (.ty "ValueError"))) dNil)))))) (sRet (dC (.str (Str.ofString "odd")))) sNext)
    (k1_law_class cs)))))))
def t_law_told : DTS :=
    (sSeq (sSetE 1 (dC .non))
    (sSeq (sSetE 2 (dC .non))
    (sSeq (sTryKeepN cs56 3 1 (sSetE 2 (dCall sp_read_sheet (dCons (dVar 0) dNil))))
    (sSeq (sIf (dTest (dOp fIsN (dVar 1) (dC .non))) (sRet (dLst (dCons (dC (.str (Str.ofString "told"))) (dCons (dVar 2) dNil)))) sNext)
    (sRet (dLst (dCons (dCall (sp_law_class cs56) (dCons (dVar 1) dNil)) (dCons (dIf (dTest (dCB (fIsX (xtabN cs56)) (dCons (dVar 1) (dCons (dC (.glo "NoText")) dNil)))) (dExcAt (dVar 1)) (dC .non)) dNil))))))))
theorem m_law_class (cs : List Str) : Meets (t_law_class cs) 1 2 (sp_law_class cs) := by
  rintro args Qd Xd ⟨c, rfl, hc, hx, hQ⟩
  show t_law_class cs _ _ [_, .un, .un]
  unfold t_law_class
  have i1 := isXN_glo hc "NoFilling" (by decide)
  have i2 := isXN_glo hc "NoName" (by decide)
  have i3 := isXN_glo hc "TooMany" (by decide)
  have i4 := isXN_glo hc "NoDeeds" (by decide)
  have i5 := isXN_glo hc "NoOffers" (by decide)
  have i6 := isXN_glo hc "NoTree" (by decide)
  have i7 := isXN_glo hc "NoBag" (by decide)
  have i8 := isXN_glo hc "NoPart" (by decide)
  have i9 := isXN_glo hc "NoWorths" (by decide)
  have i10 := isXN_glo hc "NoBack" (by decide)
  have i11 := isXN_glo hc "NoWeights" (by decide)
  have i12 := isXN_glo hc "NoNumber" (by decide)
  have i13 := isXN_glo hc "NoRow" (by decide)
  have i14 := isXN_glo hc "NoText" (by decide)
  have iv := isXN_ve hc
  simp -dsimp only [↓sSeq, ↓sIf, ↓sRet, ↓retD_ext, ↓retD_lst, ↓retD_al, ↓sSet, ↓sSetE, ↓sAsg, ↓sDrop, ↓sNext, ↓sFor, ↓sRetN, ↓sCont, ↓sBreak, ↓dTest, ↓dOp, ↓dVar_w, ↓dC, ↓dCons, ↓dNil, ↓dTup, ↓dLst, ↓frzDs, ↓frzD_ext, ↓frzD_lst, ↓frzD_al, ↓wd_ext, ↓wd_lst, ↓wd_al, ↓wds, ↓AtS_ext, ↓AtS_lst, ↓AtL, ↓fAdd, ↓fSub, ↓fMul, ↓fDiv, ↓fMod, ↓fPow, ↓fCmp, ↓fIn, ↓fEq_ii, ↓fEq_ss, ↓fEq_bb, ↓fEq_tt, ↓fEq_ll, ↓fNe_ii, ↓fNe_ss, ↓fNe_bb, ↓fNe_tt, ↓fNe_ll, ↓fIx_l, ↓fIx_t, ↓fIx_k, ↓fIx_f, ↓GetS_some, ↓NatS_some, ↓fSl, ↓fIsN, ↓fNotN, ↓D.knN, ↓dNot, ↓dAnd, ↓dOr, ↓dAndV_w, ↓dOrV_w, ↓dNotV, ↓dIf, ↓dNeg, ↓dChain_w, ↓BlS_bl, ↓dCall_w, ↓dCallJ_w, ↓anyAl, ↓frozs, ↓froz, ↓gSet, ↓gTupD, ↓gsCons, ↓gsNil, ↓dSeq, ↓seqD_tup, ↓seqD_elst, ↓seqD_lst, ↓seqD_al, ↓dRange1, ↓dRange2, ↓dZip, ↓dCB, ↓dLc, ↓dYes, ↓dNoPart, ↓dPart, ↓dSl, ↓fLen, ↓fMin, ↓fMax, ↓fSum, ↓fAll, ↓fAny, ↓fSorted, ↓fTuple, ↓fList, ↓dRg1, ↓dRg2, ↓dLstRg, ↓dTupRg, ↓dIndex, ↓fIdx, ↓dAppend_w, ↓dExtend_w, ↓extD_lst, ↓dPopAt_w, ↓popD_int, ↓dPop_w, ↓mutD_w, ↓sSetItem_w, ↓setD_int, ↓dSortSet, ↓dTable_w, ↓wipeE, finals1, finals2, finals3, finals4, finals5, finals6, fin1_ext, fin1_lst, List.getElem?_cons_zero, List.getElem?_cons_succ, List.getElem?_nil, List.set_cons_zero, List.set_cons_succ, List.cons_append, List.nil_append, List.append_nil, List.replicate_succ, List.replicate_zero, List.map_cons, List.map_nil, List.length_cons, List.length_nil, true_and, and_true, ite_true, ite_false, if_true, if_false, Bool.false_eq_true, decide_eq_true_eq, Sl.plain, D.isSq, eq_self_iff_true, forall_const, reduceIte, true_or, or_true, atI_0, atI_1, atI_2, atI_3, ixN_0, ixN_1, ixN_2, AtS_ext, AtS_lst, FzS_lst, FzS_ext, GetS_some, NatS_some, ↓fIsi1, ↓fIsi2, BoolS_some, HD.kb_non_tuple, HD.kb_non_list, HD.kb_non_bool, HD.kb_non_int, HD.kb_non_str, HD.kb_bl_tuple, HD.kb_bl_list, HD.kb_bl_bool, HD.kb_bl_int, HD.kb_bl_str, HD.kb_int_tuple, HD.kb_int_list, HD.kb_int_bool, HD.kb_int_int, HD.kb_int_str, HD.kb_str_tuple, HD.kb_str_list, HD.kb_str_bool, HD.kb_str_int, HD.kb_str_str, HD.kb_lst_tuple, HD.kb_lst_list, HD.kb_lst_bool, HD.kb_lst_int, HD.kb_lst_str, HD.kb_tup_tuple, HD.kb_tup_list, HD.kb_tup_bool, HD.kb_tup_int, HD.kb_tup_str, ↓sFz_w, ↓FzS_lst, ↓FzS_ext, ↓dSortSetL, ↓fAbs, ↓fInt, ↓fRepr, ↓fLtT, ↓sRaise, ↓sTryKeep, ↓dCallV_w, ↓dMeth, ↓fCount, ↓fSplit, i1, i2, i3, i4, i5, i6, i7, i8, i9, i10, i11, i12, i13, i14, iv]
  have h2 := xk_count hx
  have h3 := xk_at hx
  simp only [xKinds, xAll, List.map_cons, List.map_nil] at h2 h3
  rw [h2]
  refine ⟨by decide, by decide, by decide, by decide, by decide, by decide, by decide, by decide, by decide, rfl, rfl, rfl, ?_⟩
  rw [if_neg (by decide), if_neg (by decide)]
  unfold k1_law_class
  trivial
  refine ⟨rfl, by decide +kernel, by decide +kernel, rfl, rfl, _, h3, ?_⟩
  rw [xk_split]
  refine ⟨.str (xWord (xk c)), atN ?_, ?_⟩
  · rw [List.getElem?_map]
    unfold xWord
    rw [List.getD_eq_getElem?_getD]
    have hl : List.idxOf (xk c) xAll < xWords.length := List.idxOf_lt_length_of_mem hx
    change Option.map D.str xWords[List.idxOf (xk c) xAll]? = _
    rw [List.getElem?_eq_getElem hl]
    rfl
  · trivial
    exact hQ _
theorem m_law_told : Meets t_law_told 1 3 sp_law_told := by
  rintro args Qd Xd ⟨x, rfl, hl, hQ⟩
  show t_law_told _ _ [_, .un, .un, .un]
  unfold t_law_told
  simp -dsimp only [↓sSeq, ↓sIf, ↓sRet, ↓retD_ext, ↓retD_lst, ↓retD_al, ↓sSet, ↓sSetE, ↓sAsg, ↓sDrop, ↓sNext, ↓sFor, ↓sRetN, ↓sCont, ↓sBreak, ↓dTest, ↓dOp, ↓dVar_w, ↓dC, ↓dCons, ↓dNil, ↓dTup, ↓dLst, ↓frzDs, ↓frzD_ext, ↓frzD_lst, ↓frzD_al, ↓wd_ext, ↓wd_lst, ↓wd_al, ↓wds, ↓AtS_ext, ↓AtS_lst, ↓AtL, ↓fAdd, ↓fSub, ↓fMul, ↓fDiv, ↓fMod, ↓fPow, ↓fCmp, ↓fIn, ↓fEq_ii, ↓fEq_ss, ↓fEq_bb, ↓fEq_tt, ↓fEq_ll, ↓fNe_ii, ↓fNe_ss, ↓fNe_bb, ↓fNe_tt, ↓fNe_ll, ↓fIx_l, ↓fIx_t, ↓fIx_k, ↓fIx_f, ↓GetS_some, ↓NatS_some, ↓fSl, ↓fIsN, ↓fNotN, ↓D.knN, ↓dNot, ↓dAnd, ↓dOr, ↓dAndV_w, ↓dOrV_w, ↓dNotV, ↓dIf, ↓dNeg, ↓dChain_w, ↓BlS_bl, ↓dCall_w, ↓dCallJ_w, ↓anyAl, ↓frozs, ↓froz, ↓gSet, ↓gTupD, ↓gsCons, ↓gsNil, ↓dSeq, ↓seqD_tup, ↓seqD_elst, ↓seqD_lst, ↓seqD_al, ↓dRange1, ↓dRange2, ↓dZip, ↓dCB, ↓dLc, ↓dYes, ↓dNoPart, ↓dPart, ↓dSl, ↓fLen, ↓fMin, ↓fMax, ↓fSum, ↓fAll, ↓fAny, ↓fSorted, ↓fTuple, ↓fList, ↓dRg1, ↓dRg2, ↓dLstRg, ↓dTupRg, ↓dIndex, ↓fIdx, ↓dAppend_w, ↓dExtend_w, ↓extD_lst, ↓dPopAt_w, ↓popD_int, ↓dPop_w, ↓mutD_w, ↓sSetItem_w, ↓setD_int, ↓dSortSet, ↓dTable_w, ↓wipeE, finals1, finals2, finals3, finals4, finals5, finals6, fin1_ext, fin1_lst, List.getElem?_cons_zero, List.getElem?_cons_succ, List.getElem?_nil, List.set_cons_zero, List.set_cons_succ, List.cons_append, List.nil_append, List.append_nil, List.replicate_succ, List.replicate_zero, List.map_cons, List.map_nil, List.length_cons, List.length_nil, true_and, and_true, ite_true, ite_false, if_true, if_false, Bool.false_eq_true, decide_eq_true_eq, Sl.plain, D.isSq, eq_self_iff_true, forall_const, reduceIte, true_or, or_true, atI_0, atI_1, atI_2, atI_3, ixN_0, ixN_1, ixN_2, AtS_ext, AtS_lst, FzS_lst, FzS_ext, GetS_some, NatS_some, ↓fIsi1, ↓fIsi2, BoolS_some, HD.kb_non_tuple, HD.kb_non_list, HD.kb_non_bool, HD.kb_non_int, HD.kb_non_str, HD.kb_bl_tuple, HD.kb_bl_list, HD.kb_bl_bool, HD.kb_bl_int, HD.kb_bl_str, HD.kb_int_tuple, HD.kb_int_list, HD.kb_int_bool, HD.kb_int_int, HD.kb_int_str, HD.kb_str_tuple, HD.kb_str_list, HD.kb_str_bool, HD.kb_str_int, HD.kb_str_str, HD.kb_lst_tuple, HD.kb_lst_list, HD.kb_lst_bool, HD.kb_lst_int, HD.kb_lst_str, HD.kb_tup_tuple, HD.kb_tup_list, HD.kb_tup_bool, HD.kb_tup_int, HD.kb_tup_str, ↓sFz_w, ↓FzS_lst, ↓FzS_ext, ↓dSortSetL, ↓fAbs, ↓fInt, ↓fRepr, ↓fLtT, ↓sRaise, ↓sTryKeep, ↓dCallV_w, ↓dMeth, ↓fCount, ↓fSplit, ↓sTryKeepN, ↓dExcAt]
  refine ⟨x, rfl, hl, fun W e fin => ?_, fun k e fin => ?_⟩
  · rw [e] at hQ
    refine ⟨.inl rfl, True.intro, ?_⟩
    simp -dsimp only [↓sSeq, ↓sIf, ↓sRet, ↓retD_ext, ↓retD_lst, ↓retD_al, ↓sSet, ↓sSetE, ↓sAsg, ↓sDrop, ↓sNext, ↓sFor, ↓sRetN, ↓sCont, ↓sBreak, ↓dTest, ↓dOp, ↓dVar_w, ↓dC, ↓dCons, ↓dNil, ↓dTup, ↓dLst, ↓frzDs, ↓frzD_ext, ↓frzD_lst, ↓frzD_al, ↓wd_ext, ↓wd_lst, ↓wd_al, ↓wds, ↓AtS_ext, ↓AtS_lst, ↓AtL, ↓fAdd, ↓fSub, ↓fMul, ↓fDiv, ↓fMod, ↓fPow, ↓fCmp, ↓fIn, ↓fEq_ii, ↓fEq_ss, ↓fEq_bb, ↓fEq_tt, ↓fEq_ll, ↓fNe_ii, ↓fNe_ss, ↓fNe_bb, ↓fNe_tt, ↓fNe_ll, ↓fIx_l, ↓fIx_t, ↓fIx_k, ↓fIx_f, ↓GetS_some, ↓NatS_some, ↓fSl, ↓fIsN, ↓fNotN, ↓D.knN, ↓dNot, ↓dAnd, ↓dOr, ↓dAndV_w, ↓dOrV_w, ↓dNotV, ↓dIf, ↓dNeg, ↓dChain_w, ↓BlS_bl, ↓dCall_w, ↓dCallJ_w, ↓anyAl, ↓frozs, ↓froz, ↓gSet, ↓gTupD, ↓gsCons, ↓gsNil, ↓dSeq, ↓seqD_tup, ↓seqD_elst, ↓seqD_lst, ↓seqD_al, ↓dRange1, ↓dRange2, ↓dZip, ↓dCB, ↓dLc, ↓dYes, ↓dNoPart, ↓dPart, ↓dSl, ↓fLen, ↓fMin, ↓fMax, ↓fSum, ↓fAll, ↓fAny, ↓fSorted, ↓fTuple, ↓fList, ↓dRg1, ↓dRg2, ↓dLstRg, ↓dTupRg, ↓dIndex, ↓fIdx, ↓dAppend_w, ↓dExtend_w, ↓extD_lst, ↓dPopAt_w, ↓popD_int, ↓dPop_w, ↓mutD_w, ↓sSetItem_w, ↓setD_int, ↓dSortSet, ↓dTable_w, ↓wipeE, finals1, finals2, finals3, finals4, finals5, finals6, fin1_ext, fin1_lst, List.getElem?_cons_zero, List.getElem?_cons_succ, List.getElem?_nil, List.set_cons_zero, List.set_cons_succ, List.cons_append, List.nil_append, List.append_nil, List.replicate_succ, List.replicate_zero, List.map_cons, List.map_nil, List.length_cons, List.length_nil, true_and, and_true, ite_true, ite_false, if_true, if_false, Bool.false_eq_true, decide_eq_true_eq, Sl.plain, D.isSq, eq_self_iff_true, forall_const, reduceIte, true_or, or_true, atI_0, atI_1, atI_2, atI_3, ixN_0, ixN_1, ixN_2, AtS_ext, AtS_lst, FzS_lst, FzS_ext, GetS_some, NatS_some, ↓fIsi1, ↓fIsi2, BoolS_some, HD.kb_non_tuple, HD.kb_non_list, HD.kb_non_bool, HD.kb_non_int, HD.kb_non_str, HD.kb_bl_tuple, HD.kb_bl_list, HD.kb_bl_bool, HD.kb_bl_int, HD.kb_bl_str, HD.kb_int_tuple, HD.kb_int_list, HD.kb_int_bool, HD.kb_int_int, HD.kb_int_str, HD.kb_str_tuple, HD.kb_str_list, HD.kb_str_bool, HD.kb_str_int, HD.kb_str_str, HD.kb_lst_tuple, HD.kb_lst_list, HD.kb_lst_bool, HD.kb_lst_int, HD.kb_lst_str, HD.kb_tup_tuple, HD.kb_tup_list, HD.kb_tup_bool, HD.kb_tup_int, HD.kb_tup_str, ↓sFz_w, ↓FzS_lst, ↓FzS_ext, ↓dSortSetL, ↓fAbs, ↓fInt, ↓fRepr, ↓fLtT, ↓sRaise, ↓sTryKeep, ↓dCallV_w, ↓dMeth, ↓fCount, ↓fSplit, ↓sTryKeepN, ↓dExcAt]
    rw [ifN]
    exact ⟨by decide, fun a => hQ _ _⟩
  · rw [e] at hQ
    have hx : xk (ntS k) = "NoText" := xk_nt k
    refine ⟨by rw [hx]; decide, by simp, ?_⟩
    simp -dsimp only [↓sSeq, ↓sIf, ↓sRet, ↓retD_ext, ↓retD_lst, ↓retD_al, ↓sSet, ↓sSetE, ↓sAsg, ↓sDrop, ↓sNext, ↓sFor, ↓sRetN, ↓sCont, ↓sBreak, ↓dTest, ↓dOp, ↓dVar_w, ↓dC, ↓dCons, ↓dNil, ↓dTup, ↓dLst, ↓frzDs, ↓frzD_ext, ↓frzD_lst, ↓frzD_al, ↓wd_ext, ↓wd_lst, ↓wd_al, ↓wds, ↓AtS_ext, ↓AtS_lst, ↓AtL, ↓fAdd, ↓fSub, ↓fMul, ↓fDiv, ↓fMod, ↓fPow, ↓fCmp, ↓fIn, ↓fEq_ii, ↓fEq_ss, ↓fEq_bb, ↓fEq_tt, ↓fEq_ll, ↓fNe_ii, ↓fNe_ss, ↓fNe_bb, ↓fNe_tt, ↓fNe_ll, ↓fIx_l, ↓fIx_t, ↓fIx_k, ↓fIx_f, ↓GetS_some, ↓NatS_some, ↓fSl, ↓fIsN, ↓fNotN, ↓D.knN, ↓dNot, ↓dAnd, ↓dOr, ↓dAndV_w, ↓dOrV_w, ↓dNotV, ↓dIf, ↓dNeg, ↓dChain_w, ↓BlS_bl, ↓dCall_w, ↓dCallJ_w, ↓anyAl, ↓frozs, ↓froz, ↓gSet, ↓gTupD, ↓gsCons, ↓gsNil, ↓dSeq, ↓seqD_tup, ↓seqD_elst, ↓seqD_lst, ↓seqD_al, ↓dRange1, ↓dRange2, ↓dZip, ↓dCB, ↓dLc, ↓dYes, ↓dNoPart, ↓dPart, ↓dSl, ↓fLen, ↓fMin, ↓fMax, ↓fSum, ↓fAll, ↓fAny, ↓fSorted, ↓fTuple, ↓fList, ↓dRg1, ↓dRg2, ↓dLstRg, ↓dTupRg, ↓dIndex, ↓fIdx, ↓dAppend_w, ↓dExtend_w, ↓extD_lst, ↓dPopAt_w, ↓popD_int, ↓dPop_w, ↓mutD_w, ↓sSetItem_w, ↓setD_int, ↓dSortSet, ↓dTable_w, ↓wipeE, finals1, finals2, finals3, finals4, finals5, finals6, fin1_ext, fin1_lst, List.getElem?_cons_zero, List.getElem?_cons_succ, List.getElem?_nil, List.set_cons_zero, List.set_cons_succ, List.cons_append, List.nil_append, List.append_nil, List.replicate_succ, List.replicate_zero, List.map_cons, List.map_nil, List.length_cons, List.length_nil, true_and, and_true, ite_true, ite_false, if_true, if_false, Bool.false_eq_true, decide_eq_true_eq, Sl.plain, D.isSq, eq_self_iff_true, forall_const, reduceIte, true_or, or_true, atI_0, atI_1, atI_2, atI_3, ixN_0, ixN_1, ixN_2, AtS_ext, AtS_lst, FzS_lst, FzS_ext, GetS_some, NatS_some, ↓fIsi1, ↓fIsi2, BoolS_some, HD.kb_non_tuple, HD.kb_non_list, HD.kb_non_bool, HD.kb_non_int, HD.kb_non_str, HD.kb_bl_tuple, HD.kb_bl_list, HD.kb_bl_bool, HD.kb_bl_int, HD.kb_bl_str, HD.kb_int_tuple, HD.kb_int_list, HD.kb_int_bool, HD.kb_int_int, HD.kb_int_str, HD.kb_str_tuple, HD.kb_str_list, HD.kb_str_bool, HD.kb_str_int, HD.kb_str_str, HD.kb_lst_tuple, HD.kb_lst_list, HD.kb_lst_bool, HD.kb_lst_int, HD.kb_lst_str, HD.kb_tup_tuple, HD.kb_tup_list, HD.kb_tup_bool, HD.kb_tup_int, HD.kb_tup_str, ↓sFz_w, ↓FzS_lst, ↓FzS_ext, ↓dSortSetL, ↓fAbs, ↓fInt, ↓fRepr, ↓fLtT, ↓sRaise, ↓sTryKeep, ↓dCallV_w, ↓dMeth, ↓fCount, ↓fSplit, ↓sTryKeepN, ↓dExcAt]
    rw [if_neg (show ¬ (D.exc (ntS k)).isNon = true from Bool.false_ne_true)]
    refine ⟨ntS k, rfl, by rw [hx]; decide, by rw [hx]; decide, fun fin => ?_⟩
    simp -dsimp only [↓sSeq, ↓sIf, ↓sRet, ↓retD_ext, ↓retD_lst, ↓retD_al, ↓sSet, ↓sSetE, ↓sAsg, ↓sDrop, ↓sNext, ↓sFor, ↓sRetN, ↓sCont, ↓sBreak, ↓dTest, ↓dOp, ↓dVar_w, ↓dC, ↓dCons, ↓dNil, ↓dTup, ↓dLst, ↓frzDs, ↓frzD_ext, ↓frzD_lst, ↓frzD_al, ↓wd_ext, ↓wd_lst, ↓wd_al, ↓wds, ↓AtS_ext, ↓AtS_lst, ↓AtL, ↓fAdd, ↓fSub, ↓fMul, ↓fDiv, ↓fMod, ↓fPow, ↓fCmp, ↓fIn, ↓fEq_ii, ↓fEq_ss, ↓fEq_bb, ↓fEq_tt, ↓fEq_ll, ↓fNe_ii, ↓fNe_ss, ↓fNe_bb, ↓fNe_tt, ↓fNe_ll, ↓fIx_l, ↓fIx_t, ↓fIx_k, ↓fIx_f, ↓GetS_some, ↓NatS_some, ↓fSl, ↓fIsN, ↓fNotN, ↓D.knN, ↓dNot, ↓dAnd, ↓dOr, ↓dAndV_w, ↓dOrV_w, ↓dNotV, ↓dIf, ↓dNeg, ↓dChain_w, ↓BlS_bl, ↓dCall_w, ↓dCallJ_w, ↓anyAl, ↓frozs, ↓froz, ↓gSet, ↓gTupD, ↓gsCons, ↓gsNil, ↓dSeq, ↓seqD_tup, ↓seqD_elst, ↓seqD_lst, ↓seqD_al, ↓dRange1, ↓dRange2, ↓dZip, ↓dCB, ↓dLc, ↓dYes, ↓dNoPart, ↓dPart, ↓dSl, ↓fLen, ↓fMin, ↓fMax, ↓fSum, ↓fAll, ↓fAny, ↓fSorted, ↓fTuple, ↓fList, ↓dRg1, ↓dRg2, ↓dLstRg, ↓dTupRg, ↓dIndex, ↓fIdx, ↓dAppend_w, ↓dExtend_w, ↓extD_lst, ↓dPopAt_w, ↓popD_int, ↓dPop_w, ↓mutD_w, ↓sSetItem_w, ↓setD_int, ↓dSortSet, ↓dTable_w, ↓wipeE, finals1, finals2, finals3, finals4, finals5, finals6, fin1_ext, fin1_lst, List.getElem?_cons_zero, List.getElem?_cons_succ, List.getElem?_nil, List.set_cons_zero, List.set_cons_succ, List.cons_append, List.nil_append, List.append_nil, List.replicate_succ, List.replicate_zero, List.map_cons, List.map_nil, List.length_cons, List.length_nil, true_and, and_true, ite_true, ite_false, if_true, if_false, Bool.false_eq_true, decide_eq_true_eq, Sl.plain, D.isSq, eq_self_iff_true, forall_const, reduceIte, true_or, or_true, atI_0, atI_1, atI_2, atI_3, ixN_0, ixN_1, ixN_2, AtS_ext, AtS_lst, FzS_lst, FzS_ext, GetS_some, NatS_some, ↓fIsi1, ↓fIsi2, BoolS_some, HD.kb_non_tuple, HD.kb_non_list, HD.kb_non_bool, HD.kb_non_int, HD.kb_non_str, HD.kb_bl_tuple, HD.kb_bl_list, HD.kb_bl_bool, HD.kb_bl_int, HD.kb_bl_str, HD.kb_int_tuple, HD.kb_int_list, HD.kb_int_bool, HD.kb_int_int, HD.kb_int_str, HD.kb_str_tuple, HD.kb_str_list, HD.kb_str_bool, HD.kb_str_int, HD.kb_str_str, HD.kb_lst_tuple, HD.kb_lst_list, HD.kb_lst_bool, HD.kb_lst_int, HD.kb_lst_str, HD.kb_tup_tuple, HD.kb_tup_list, HD.kb_tup_bool, HD.kb_tup_int, HD.kb_tup_str, ↓sFz_w, ↓FzS_lst, ↓FzS_ext, ↓dSortSetL, ↓fAbs, ↓fInt, ↓fRepr, ↓fLtT, ↓sRaise, ↓sTryKeep, ↓dCallV_w, ↓dMeth, ↓fCount, ↓fSplit, ↓sTryKeepN, ↓dExcAt]
    rw [isXN_glo (by rw [hx]; decide) "NoText" (by decide), hx]
    show if decide (Str.ofString "NoText" = Str.ofString "NoText") = true then _ else _
    rw [if_pos (by decide)]
    exact ⟨k, rfl, by decide, fun a => hQ _ _⟩
end RF
end WD
end LS
namespace HD
open PySem PySem.Spec PySem.Calls PyProof.Rows L2
def fMinT : List D → (Sl → Prop) → Prop
  | [.tup ds], Q => ∃ ns : List Int, ds = ns.map D.int ∧ ns ≠ [] ∧ ∀ m, m ∈ ns → (∀ y, y ∈ ns → m ≤ y) → Q (.ext (.int m))
  | _, _ => False
def fMaxT : List D → (Sl → Prop) → Prop
  | [.tup ds], Q => ∃ ns : List Int, ds = ns.map D.int ∧ ns ≠ [] ∧ ∀ m, m ∈ ns → (∀ y, y ∈ ns → y ≤ m) → Q (.ext (.int m))
  | _, _ => False
end HD
namespace HD
open PySem PySem.Spec PyProof.Rows L2
section
variable {G : GG} {N : List Str} {sc : SC} {k : Nat} {a : Expr} {ta : DT} {p pos : Pos}
def dListKT (ta : DT) : DT := fun Ex env Q => ta Ex env fun x env1 => cellS env1 x fun _ _ _ _ oc => dtO' oc fun kvs => ∀ a, Q (.lst a (kvs.map fun q => kT q.1)) env1
end
end HD
namespace HD
open PySem PySem.Spec PyProof.Rows L2
def dispF : List (Str × Bool × DT) → Addr → List (Key × D) → Cells → DX → Env' → (Sl → Env' → Prop) → Prop
  | [], p, kvs, cs, _, env, Q => Q (.reg (.val (.ref p)) ((p, .dk (mgK [] kvs)) :: cs)) env
  | q :: r, p, kvs, cs, Ex, env, Q => q.2.2 Ex env fun x env1 => stoS q.2.1 env1 x fun d2 cs2 env2 => (∀ a ∈ p :: cs.map (·.1), a ∉ cs2.map (·.1)) → dispF r p (kvs ++ [(.inr q.1, d2)]) (cs ++ cs2) Ex env2 Q
def dDisp (prs : List (Str × Bool × DT)) : DT := fun Ex env Q => ∀ p, dispF prs p [] [] Ex env Q
end HD
namespace HD
open PySem L2
section
variable {G : GG} {N : List Str} {sc : SC} {k : Nat} {a b : Expr} {pos : Pos}
def sParO (i j : Nat) (t : DTA) : DTS := fun Ex E env => t Ex env fun xs env1 => match xs with
  | [x, y] => x.plain ∧ y.plain ∧ E.nx ((env1.set i x).set j y)
  | _ => False
end
theorem seq_parO (i j : Nat) (t : DTA) (u : DTS) (Ex : DX) (E : DEnds) (env : Env') : sSeq (sParO i j t) u Ex E env = t Ex env fun xs env1 => match xs with
  | [x, y] => x.plain ∧ y.plain ∧ u Ex E ((env1.set i x).set j y)
  | _ => False := rfl
end HD
namespace HD
open PySem L2
def unar : Sl → Sl
  | .ar _ b => .ext (.val (.ref b))
  | s => s
theorem Holds.unar {K : PySem.W.Frag} {e : Ent} {env : Env'} {T : Tmp} {F : Hp} {σ : St} {H : Hp} {v : V} {sl : Sl} (h : Holds K e env ((v, sl) :: T) F σ H) : Holds K e env ((v, HD.unar sl) :: T) F σ H := by
  cases sl with
  | ar i b =>
    have ev : v = .ref b := h.temps (v, .ar i b) List.mem_cons_self
    exact h.retemp (sl' := .ext (.val (.ref b))) ev List.nodup_nil (fun a ha => nomatch ha)
  | _ => exact h
section
variable {G : GG} {N : List Str} {sc : SC} {k : Nat} {a b c : Expr} {pos : Pos}
def sPar3 (i j l : Nat) (t : DTA) : DTS := fun Ex E env => t Ex env fun xs env1 => match xs with
  | [x, y, z] => (unar x).plain ∧ (unar y).plain ∧ (unar z).plain ∧ E.nx (((env1.set i (unar x)).set j (unar y)).set l (unar z))
  | _ => False
theorem ds_par3 {x y z : Str} {px py pz pt : Pos} {kt k2 pt2} {ta : DTA} (i j l : Nat) (h : DAs G N sc k [a, b, c] ta) (hi : N[i]? = some x := by rfl) (hj : N[j]? = some y := by rfl) (hl : N[l]? = some z := by rfl) (hij : i ≠ j := by decide) (hil : i ≠ l := by decide) (hjl : j ≠ l := by decide)
    (hx : sc.sc.names.lookup x = some .local := by rfl) (hy : sc.sc.names.lookup y = some .local := by rfl) (hz : sc.sc.names.lookup z = some .local := by rfl)
    (hw : ∀ env : Env, env.scope = sc.sc → swappedStores [.Tuple [.Name x px, .Name y py, .Name z pz] kt pt] (.Tuple [a, b, c] k2 pt2) env = pure (some [x, y, z]) := by intro env h; unfold swappedStores Env.blockKind Env.kindOf; rw [h]; rfl)
    (hs : ∀ env, swapsWithSole [.Tuple [.Name x px, .Name y py, .Name z pz] kt pt] (.Tuple [a, b, c] k2 pt2) pos.line env = pure false := by intro _; rfl) :
    DS G N sc k (.Assign [.Tuple [.Name x px, .Name y py, .Name z pz] kt pt] (.Tuple [a, b, c] k2 pt2) pos) (sPar3 i j l ta) := ⟨fun W => by
  obtain ⟨te, p1, i1⟩ := h.ex W
  refine ⟨tPar3 i j l te, fun X S => ps_par3 S.calm (by rw [S.nms]; exact S.nd) (by rw [S.nms]; exact hi) (by rw [S.nms]; exact hj) (by rw [S.nms]; exact hl) hij hil hjl (by rw [S.scp]; exact hx) (by rw [S.scp]; exact hy) (by rw [S.scp]; exact hz) (p1 X S) (hw _ S.scp) (hs _), fun e Ex hl env F σ H E Dn hh ht ok => ?_⟩
  refine i1 e Ex hl env [] F σ H _ _ hh ht fun vs H1 F1 env1 xs le hh1 q1 => ?_
  match xs, vs, le, hh1, q1 with
  | [x, y, z], [v, v2, v3], _, hh1, ⟨px, py, pz, q2⟩ => exact ⟨v, v2, v3, rfl, ok.nx _ F1 _ H1 ((((hh1.unar.assign i px).unar.assign j py)).unar.assign l pz) q2⟩
  | [], _, _, _, q1 => exact q1.elim
  | [_], _, _, _, q1 => exact q1.elim
  | [_, _], _, _, _, q1 => exact q1.elim
  | _ :: _ :: _ :: _ :: _, _, _, _, q1 => exact q1.elim⟩
end
theorem seq_par3 (i j l : Nat) (t : DTA) (u : DTS) (Ex : DX) (E : DEnds) (env : Env') : sSeq (sPar3 i j l t) u Ex E env = t Ex env fun xs env1 => match xs with
  | [x, y, z] => (unar x).plain ∧ (unar y).plain ∧ (unar z).plain ∧ u Ex E (((env1.set i (unar x)).set j (unar y)).set l (unar z))
  | _ => False := rfl
end HD
namespace LS
namespace WD
namespace RF
open PySem L2 HD PM
open K02 (sp_law_sheet)
local macro_rules | `(tactic| and_intros) => `(tactic| try simp -dsimp only [↓sIf, ↓sRet, ↓retD_ext, ↓retD_lst, ↓retD_al, ↓sSet, ↓sSetE, ↓sAsg, ↓sDrop, ↓sNext, ↓sFor, ↓sRetN, ↓sCont, ↓sBreak, ↓dTest, ↓dOp, ↓dC, ↓dCons, ↓dNil, ↓dTup, ↓dLst, ↓frzDs, ↓frzD_ext, ↓frzD_lst, ↓frzD_al, ↓wd_ext, ↓wd_lst, ↓wd_al, ↓wds, ↓AtS_ext, ↓AtS_lst, ↓AtL, ↓fAdd, ↓fSub, ↓fMul, ↓fDiv, ↓fMod, ↓fPow, ↓fCmp, ↓fIn, ↓fEq_ii, ↓fEq_ss, ↓fEq_bb, ↓fEq_tt, ↓fEq_ll, ↓fNe_ii, ↓fNe_ss, ↓fNe_bb, ↓fNe_tt, ↓fNe_ll, ↓fIx_l, ↓fIx_t, ↓fIx_k, ↓fIx_f, ↓GetS_some, ↓NatS_some, ↓fSl, ↓fIsN, ↓fNotN, ↓D.knN, ↓dNot, ↓dAnd, ↓dOr, ↓dAndV_w, ↓dOrV_w, ↓dNotV, ↓dIf, ↓dNeg, ↓dChain_w, ↓BlS_bl, ↓dCall_w, ↓dCallJ_w, ↓anyAl, ↓frozs, ↓froz, ↓gSet, ↓gTupD, ↓gsCons, ↓gsNil, ↓dSeq, ↓seqD_tup, ↓seqD_elst, ↓seqD_lst, ↓seqD_al, ↓dRange1, ↓dRange2, ↓dZip, ↓dCB, ↓dLc, ↓dYes, ↓dNoPart, ↓dPart, ↓dSl, ↓fLen, ↓fMin, ↓fMax, ↓fSum, ↓fAll, ↓fAny, ↓fSorted, ↓fTuple, ↓fList, ↓dRg1, ↓dRg2, ↓dLstRg, ↓dTupRg, ↓dIndex, ↓fIdx, ↓dAppend_w, ↓dExtend_w, ↓extD_lst, ↓dPopAt_w, ↓popD_int, ↓dPop_w, ↓mutD_w, ↓sSetItem_w, ↓setD_int, ↓dSortSet, ↓dTable_w, ↓wipeE, finals1, finals2, finals3, finals4, finals5, finals6, fin1_ext, fin1_lst, List.getElem?_cons_zero, List.getElem?_cons_succ, List.getElem?_nil, List.set_cons_zero, List.set_cons_succ, List.cons_append, List.nil_append, List.append_nil, List.replicate_succ, List.replicate_zero, List.map_cons, List.map_nil, List.length_cons, List.length_nil, true_and, and_true, ite_true, ite_false, if_true, if_false, Bool.false_eq_true, decide_eq_true_eq, Sl.plain, D.isSq, eq_self_iff_true, forall_const, reduceIte, true_or, or_true, atI_0, atI_1, atI_2, atI_3, ixN_0, ixN_1, ixN_2, AtS_ext, AtS_lst, FzS_lst, FzS_ext, GetS_some, NatS_some, ↓fIsi1, ↓fIsi2, BoolS_some, HD.kb_non_tuple, HD.kb_non_list, HD.kb_non_bool, HD.kb_non_int, HD.kb_non_str, HD.kb_bl_tuple, HD.kb_bl_list, HD.kb_bl_bool, HD.kb_bl_int, HD.kb_bl_str, HD.kb_int_tuple, HD.kb_int_list, HD.kb_int_bool, HD.kb_int_int, HD.kb_int_str, HD.kb_str_tuple, HD.kb_str_list, HD.kb_str_bool, HD.kb_str_int, HD.kb_str_str, HD.kb_lst_tuple, HD.kb_lst_list, HD.kb_lst_bool, HD.kb_lst_int, HD.kb_lst_str, HD.kb_tup_tuple, HD.kb_tup_list, HD.kb_tup_bool, HD.kb_tup_int, HD.kb_tup_str, ↓sFz_w, ↓FzS_lst, ↓FzS_ext, ↓dSortSetL, ↓fAbs, ↓fInt, ↓fRepr, ↓fLtT, ↓sRaise, ↓sTryKeep, ↓dCallV_w, ↓dMeth, ↓fCount, ↓fSplit, ↓seq_setE, ↓seq_set, ↓seq_drop, ↓seq_asg, ↓seq_if, ↓seq_for, ↓dStep, ↓fStep, ↓fMulT, ↓fIsB, ↓fNotB, ↓sPar, ↓dEnum, ↓dListZip, ↓dNest, ↓sSeal, ↓dNApp, ↓retD_reg, ↓dLenSet, ↓fSum2, ↓seq_putD, ↓seq_sealD, ↓dDIn, ↓dDGet, ↓sPutD, ↓dDNew, ↓dDOne, ↓sSealD, ↓dKeys, ↓keyS_dk, ↓dExtT, ↓fSortT, ↓fMinP, ↓dRemove, ↓dDInT, ↓dDGetT, ↓sPutDT, ↓dDNewT, ↓sSealDT, ↓dKeysT, ↓keyST_dt, ↓fSortK, ↓seq_putDT, ↓seq_sealDT, ↓dVarR_w, ↓dAttr, ↓dAppR, ↓dExtR_w, ↓dExtTR_w, ↓dClrR, ↓dPopR_w, ↓dIxR_w, ↓dDGetR, ↓dDInR, ↓dGet2R, ↓dPop1R, ↓dPop2R, ↓dDGetTR, ↓dDInTR, ↓dPop1TR, ↓dCallM, ↓dMethO, ↓dMake, ↓dMoveR, ↓dPtr, ↓sAttr, ↓sSetR, ↓sPutR, ↓sPutTR, ↓sSetA_w, ↓sSetG_w, ↓seq_setG, ↓seq_setA, ↓seq_attr, ↓seq_setR, ↓seq_putR, ↓seq_putTR, ↓RegS_reg, ↓CellS_some, ↓RefS_reg, ↓RefS_ar, ↓cellS_ar, ↓wd_ar, ↓seqD_ar, ↓lstO_lst, ↓insO_ins, ↓dkO_dk, ↓dkO_lk, ↓dtO_dt, ↓dtO_lk, ↓dkW_dk, ↓dtW_dt, ↓stoS_ext, ↓stoS_reg, ↓stoS_lstT, ↓stoS_lstF, ↓stoS_al, ↓ptrD_ref, ↓ptrD_int, ↓ptrD_str, ↓ptrD_bl, ↓ptrD_non, ↓ptrD_tup, ↓ptrD_tk, ↓ptrD_lst, ↓ptrD_fz, ↓setGS_lst, ↓setGS_reg, ↓setAS_ar, ↓setAS_ext, ↓intS_int, ↓tupS_tup, ↓lstS_lst, ↓lstK, ↓dkK, ↓dtK, ↓retD_reg, ↓dSortSetB, ↓fSortD, ↓fInD, ↓dCallD, ↓regC_reg, ↓dMoveL, ↓dMoveR_w, ↓dDictP, ↓froz_lst, ↓froz_ext, ↓dUpdTR, ↓dUpdKR, ↓dDictZipK, ↓dDictC, ↓gLstD, ↓dClear, ↓fStr, ↓dListItems, ↓dLenK, ↓dSortKI, ↓dInC, ↓fMinT, ↓fMaxT, ↓dListKT, ↓seq_parO, ↓sParO, ↓seq_par3, ↓sPar3, ↓unar, ↓dDisp, ↓dispF, ↓fJoin, ↓fIntS, ↓fInSg, ↓fSlS, ↓dSlS, ↓dSigns_w, ↓fMulS, ↓dIsNR, ↓nonQ, ↓sRaiseT, ↓sTryKeepN, ↓dExcAt, ↓fSIdx, ↓fMulN, ↓dGetC, ↓dInC, ↓dv0, ↓dw0, ↓dv1, ↓dw1, ↓dv2, ↓dw2, ↓dv3, ↓dw3, ↓dv4, ↓dw4, ↓dv5, ↓dw5, ↓dv6, ↓dw6, ↓dv7, ↓dw7, ↓dv8, ↓dw8, ↓dv9, ↓dw9, ↓dv10, ↓dw10, ↓dv11, ↓dw11, ↓dv12, ↓dw12, ↓dv13, ↓dw13, ↓dv14, ↓dw14, ↓dv15, ↓dw15, ↓dv16, ↓dw16, ↓dv17, ↓dw17, ↓dv18, ↓dw18, ↓dv19, ↓dw19])
theorem ms_nil : msS [] = 0 := rfl
theorem ms_cons (w : Str) (ws : List Str) : msS (w :: ws) = w.length + 1 + msS ws := by
  unfold msS
  rw [List.map_cons, List.sum_cons, List.length_cons]
  omega
theorem ms_app (a b : List Str) : msS (a ++ b) = msS a + msS b := by
  induction a with
  | nil => rw [List.nil_append, ms_nil, Nat.zero_add]
  | cons w a ih => rw [List.cons_append, ms_cons, ms_cons, ih]; omega
theorem ms_sub {a b : List Str} (h : a.Sublist b) : msS a ≤ msS b := by
  induction h with
  | slnil => exact Nat.le_refl _
  | cons w _ ih => rw [ms_cons]; omega
  | cons_cons w _ ih => rw [ms_cons, ms_cons]; omega
theorem ms_len (a : List Str) : a.length ≤ msS a := by unfold msS; omega
theorem ms_join (zs : List Str) : (Str.join (Str.ofString " ") zs).length ≤ msS zs := by
  rw [len_tl]
  show (TL.tl (Str.join _ _)).length ≤ _
  rw [TL.tl_join, show TL.tl (Str.ofString " ") = [32] by decide +kernel]
  refine Nat.le_trans (join_len _) ?_
  induction zs with
  | nil => exact Nat.zero_le _
  | cons z zs ih =>
    rw [List.map_cons, jt_cons, List.length_append, List.length_cons, ms_cons, len_tl]
    show (TL.tl z).length + 1 + _ ≤ (TL.tl z).length + 1 + _
    omega
def Wl (m : Nat) (ds : List D) : Prop := ∃ ws : List Str, ds = ws.map D.str ∧ msS ws ≤ m
theorem Wl.cut {m : Nat} {ds : List D} (h : Wl m ds) (lo hi : Option Int) : Wl m (cutD ds lo hi) := by
  obtain ⟨ws, rfl, hm⟩ := h
  refine ⟨(ws.drop (HT.sIx ws.length 0 lo)).take (HT.sIx ws.length ws.length hi - HT.sIx ws.length 0 lo), ?_, Nat.le_trans (ms_sub ((List.take_sublist _ _).trans (List.drop_sublist _ _))) hm⟩
  unfold cutD
  rw [List.length_map, List.map_take, List.map_drop]
theorem Wl.app {m n : Nat} {a b : List D} (h : Wl m a) (k : Wl n b) : Wl (m + n) (a ++ b) := by
  obtain ⟨ws, rfl, hm⟩ := h
  obtain ⟨vs, rfl, hn⟩ := k
  exact ⟨ws ++ vs, by rw [List.map_append], by rw [ms_app]; omega⟩
theorem Wl.one {k : Nat} {w : Str} (h : w.length ≤ k) : Wl (k + 1) [D.str w] := ⟨[w], rfl, by rw [ms_cons, ms_nil]; omega⟩
theorem Wl.len {m : Nat} {ds : List D} (h : Wl m ds) : ds.length ≤ m := by
  obtain ⟨ws, rfl, hm⟩ := h
  rw [List.length_map]
  exact Nat.le_trans (ms_len ws) hm
theorem Wl.mono {m n : Nat} {ds : List D} (h : Wl m ds) (k : m ≤ n) : Wl n ds := by
  obtain ⟨ws, e, hm⟩ := h
  exact ⟨ws, e, Nat.le_trans hm k⟩
def sp_law_bent_words : DSpec := fun args Q _ => ∃ (n : Nat) (a : Addr) (ds : List D) (dw : List D) (m : Nat), args = [.lst a ds, .ext (.lst dw)] ∧ JarOk n ds ∧ n + 10 < 4294967296 ∧ Wl m dw ∧ m ≤ 60000 ∧ 0 < dw.length ∧
  ∀ (dz : List D) b ds' fin, Wl (3 * m + 20) dz → JarOk (n + 3) ds' → Q (.lst b dz) (.lst a ds' :: fin)
def k1_law_bent_words : DTS :=
    (sRet (dOp fAdd (dOp fAdd (dSl (dVar 1) dNoPart (dPart (dVar 3))) (dLst (dCons (dVar 5) dNil))) (dSl (dVar 1) (dPart (dOp fAdd (dVar 3) (dC (.int 1)))) dNoPart)))
def k2_law_bent_words : DTS :=
    (sSeq (sIf (dTest (dOp fEq (dVar 2) (dC (.int 3)))) (sRet (dSl (dVar 1) dNoPart (dPart (dOp fAdd (dVar 3) (dC (.int 1)))))) sNext)
    k1_law_bent_words)
def k3_law_bent_words : DTS :=
    (sSeq (sIf (dTest (dOp fEq (dVar 2) (dC (.int 2)))) (sRet (dOp fAdd (dOp fAdd (dSl (dVar 1) dNoPart (dPart (dVar 3))) (dSl (dVar 1) (dPart (dVar 3)) (dPart (dOp fAdd (dVar 3) (dC (.int 1)))))) (dSl (dVar 1) (dPart (dVar 3)) dNoPart))) sNext)
    k2_law_bent_words)
def k4_law_bent_words : DTS :=
    (sSeq (sIf (dTest (dOp fEq (dVar 2) (dC (.int 1)))) (sRet (dOp fAdd (dOp fAdd (dSl (dVar 1) dNoPart (dPart (dVar 3))) (dLst (dCons (dVar 5) dNil))) (dSl (dVar 1) (dPart (dVar 3)) dNoPart))) sNext)
    k3_law_bent_words)
def k5_law_bent_words : DTS :=
    (sSeq (sIf (dTest (dOp fEq (dVar 2) (dC (.int 0)))) (sRet (dOp fAdd (dSl (dVar 1) dNoPart (dPart (dVar 3))) (dSl (dVar 1) (dPart (dOp fAdd (dVar 3) (dC (.int 1)))) dNoPart))) sNext)
    k4_law_bent_words)
def k6_law_bent_words : DTS :=
    (sSeq (sSetE 5 (dOp fIx (dVar 4) (dCallJ sp_law_dip 0 (dCons (dC (.int 27)) dNil))))
    k5_law_bent_words)
def k7_law_bent_words : DTS :=
    (sSeq (sSetE 4 (dOp fAdd (dVar 4) (dLst (dCons (dC (.str (Str.ofString "1000000000000"))) (dCons (dC (.str (Str.ofString "1000000000001"))) (dCons (dC (.str (Str.ofString "-1000000000000"))) (dCons (dC (.str (Str.ofString "-1000000000001"))) (dCons (dC (.str (Str.ofString "9999999999999"))) (dCons (dOp fMulN (dC (.str (Str.ofString "1"))) (dC (.int 14))) (dCons (dC (.str (Str.ofString "1\n"))) dNil))))))))))
    k6_law_bent_words)
def k8_law_bent_words : DTS :=
    (sSeq (sSetE 4 (dOp fAdd (dVar 4) (dLst (dCons (dC (.str (Str.ofString "\n"))) (dCons (dC (.str (Str.ofString "12"))) dNil)))))
    k7_law_bent_words)
def k9_law_bent_words : DTS :=
    (sSeq (sSetE 4 (dLst (dCons (dC (.str (Str.ofString "/"))) (dCons (dC (.str (Str.ofString ":"))) (dCons (dC (.str (Str.ofString "0"))) (dCons (dC (.str (Str.ofString "00"))) (dCons (dC (.str (Str.ofString "-0"))) (dCons (dC (.str (Str.ofString "01"))) (dCons (dC (.str (Str.ofString "5"))) (dCons (dC (.str (Str.ofString "4"))) (dCons (dC (.str (Str.ofString "-1"))) (dCons (dC (.str (Str.ofString "--1"))) (dCons (dC (.str (Str.ofString "-"))) (dCons (dC (.str (Str.ofString ""))) (dCons (dC (.str (Str.ofString "x"))) (dCons (dC (.str (Str.ofString "1_0"))) (dCons (dC (.str (Str.ofString "+1"))) (dCons (dC (.str (Str.ofString "1.0"))) (dCons (dC (.str (Str.ofString "//"))) (dCons (dC (.str (Str.ofString "::"))) dNil))))))))))))))))))))
    k8_law_bent_words)
def t_law_bent_words : DTS :=
    (sSeq (sPar 2 3 (dCons (dCallJ sp_law_dip 0 (dCons (dC (.int 7)) dNil)) (dCons (dCallJ sp_law_dip 0 (dCons (dCB fLen (dCons (dVar 1) dNil)) dNil)) dNil)))
    k9_law_bent_words)
theorem k6_bw {Ex : DX} {E : DEnds} {a : Addr} {ds dw : List D} {n m : Nat} {O : List D} {way : Int} {at' : Nat} (hj : JarOk n ds) (hn : n + 1 < 4294967296) (hw : Wl m dw) (hm : m ≤ 60000) (hO : O.length = 27) (hs : ∀ d ∈ O, ∃ w : Str, d = .str w ∧ w.length ≤ 14)
    (hQ : ∀ (dz : List D) b ds' u1 u2 u3 u4 u5, Wl (3 * m + 20) dz → JarOk (n + 1) ds' → E.rt (.lst b dz) [.lst a ds', u1, u2, u3, u4, u5]) : k6_law_bent_words Ex E [.lst a ds, .ext (.lst dw), dI way, dI (at' : Nat), .ext (.lst O), .un] := by
  have s1 : ∀ k, k ≤ 200000 → k ≤ sizeLine := fun k h => Nat.le_trans h (by decide)
  unfold k6_law_bent_words
  and_intros
  refine ⟨n, a, ds, 27, rfl, hj, by omega, by decide, by decide, fun r ds1 fin r0 r1 hj1 => ?_⟩
  and_intros
  obtain ⟨od, ho, hom⟩ := atI_mem (xs := O) r0 (by omega)
  obtain ⟨w, rfl, hwl⟩ := hs od hom
  refine ⟨_, ho, ?_⟩
  and_intros
  have h1 := Wl.one hwl
  unfold k5_law_bent_words
  and_intros
  by_cases h0 : way = 0
  · rw [if_pos (by simpa using h0)]
    have q := (hw.cut none (some ((at' : Nat) : Int))).app (hw.cut (some (((at' : Nat) : Int) + 1)) none)
    have := (hw.cut none (some ((at' : Nat) : Int))).len
    have := (hw.cut (some (((at' : Nat) : Int) + 1)) none).len
    exact ⟨s1 _ (by omega), fun b => hQ _ _ _ _ _ _ _ _ (q.mono (by omega)) hj1⟩
  rw [if_neg (by simpa using h0)]
  unfold k4_law_bent_words
  and_intros
  by_cases h0 : way = 1
  · rw [if_pos (by simpa using h0)]
    have q := ((hw.cut none (some ((at' : Nat) : Int))).app h1).app (hw.cut (some ((at' : Nat) : Int)) none)
    have := (hw.cut none (some ((at' : Nat) : Int))).len
    have := (hw.cut (some ((at' : Nat) : Int)) none).len
    exact ⟨by decide, s1 _ (by omega), s1 _ (by rw [List.length_append, List.length_singleton]; omega), fun b => hQ _ _ _ _ _ _ _ _ (q.mono (by omega)) hj1⟩
  rw [if_neg (by simpa using h0)]
  unfold k3_law_bent_words
  and_intros
  by_cases h0 : way = 2
  · rw [if_pos (by simpa using h0)]
    have q := ((hw.cut none (some ((at' : Nat) : Int))).app (hw.cut (some ((at' : Nat) : Int)) (some (((at' : Nat) : Int) + 1)))).app (hw.cut (some ((at' : Nat) : Int)) none)
    have := (hw.cut none (some ((at' : Nat) : Int))).len
    have := (hw.cut (some ((at' : Nat) : Int)) (some (((at' : Nat) : Int) + 1))).len
    have := (hw.cut (some ((at' : Nat) : Int)) none).len
    exact ⟨s1 _ (by omega), s1 _ (by rw [List.length_append]; omega), fun b => hQ _ _ _ _ _ _ _ _ (q.mono (by omega)) hj1⟩
  rw [if_neg (by simpa using h0)]
  unfold k2_law_bent_words
  and_intros
  by_cases h0 : way = 3
  · rw [if_pos (by simpa using h0)]
    exact fun b => hQ _ _ _ _ _ _ _ _ ((hw.cut none (some (((at' : Nat) : Int) + 1))).mono (by omega)) hj1
  rw [if_neg (by simpa using h0)]
  unfold k1_law_bent_words
  and_intros
  have q := ((hw.cut none (some ((at' : Nat) : Int))).app h1).app (hw.cut (some (((at' : Nat) : Int) + 1)) none)
  have := (hw.cut none (some ((at' : Nat) : Int))).len
  have := (hw.cut (some (((at' : Nat) : Int) + 1)) none).len
  exact ⟨by decide, s1 _ (by omega), s1 _ (by rw [List.length_append, List.length_singleton]; omega), fun b => hQ _ _ _ _ _ _ _ _ (q.mono (by omega)) hj1⟩
theorem fin_l {a : Addr} {ds ds' : List D} : fin1 (.lst a ds) (some (.lst a ds')) = .lst a ds' := by
  unfold fin1
  simp
def Os (k : Nat) (l : List D) : Prop := l.length = k ∧ ∀ d ∈ l, ∃ w : Str, d = .str w ∧ w.length ≤ 14
theorem Os.app {k j : Nat} {a b : List D} (h : Os k a) (g : Os j b) : Os (k + j) (a ++ b) := ⟨by rw [List.length_append, h.1, g.1], fun d hd => (List.mem_append.1 hd).elim (h.2 d) (g.2 d)⟩
theorem k8_bw {Ex : DX} {E : DEnds} {a : Addr} {ds dw : List D} {n m : Nat} {O : List D} {way : Int} {at' : Nat} (hj : JarOk n ds) (hn : n + 1 < 4294967296) (hw : Wl m dw) (hm : m ≤ 60000) (hO : Os 18 O)
    (hQ : ∀ (dz : List D) b ds' u1 u2 u3 u4 u5, Wl (3 * m + 20) dz → JarOk (n + 1) ds' → E.rt (.lst b dz) [.lst a ds', u1, u2, u3, u4, u5]) : k8_law_bent_words Ex E [.lst a ds, .ext (.lst dw), dI way, dI (at' : Nat), .ext (.lst O), .un] := by
  have s1 : ∀ k, k ≤ 200000 → k ≤ sizeLine := fun k h => Nat.le_trans h (by decide)
  unfold k8_law_bent_words
  and_intros
  have h2 : Os 2 [D.str (Str.ofString "\n"), D.str (Str.ofString "12")] := by
    refine ⟨rfl, ?_⟩
    simp only [List.forall_mem_cons]
    exact ⟨⟨_, rfl, by decide +kernel⟩, ⟨_, rfl, by decide +kernel⟩, fun _ h => nomatch h⟩
  have hO2 := hO.app h2
  refine ⟨by decide, by rw [hO.1]; decide, ?_⟩
  generalize O ++ [D.str (Str.ofString "\n"), D.str (Str.ofString "12")] = O2 at hO2 ⊢
  unfold k7_law_bent_words
  and_intros
  refine ⟨14, rfl, by decide, by decide +kernel, fun w hw14 => ?_⟩
  and_intros
  have h3 : Os 7 [D.str (Str.ofString "1000000000000"), D.str (Str.ofString "1000000000001"), D.str (Str.ofString "-1000000000000"), D.str (Str.ofString "-1000000000001"), D.str (Str.ofString "9999999999999"), D.str w, D.str (Str.ofString "1\n")] := by
    refine ⟨rfl, ?_⟩
    simp only [List.forall_mem_cons]
    exact ⟨⟨_, rfl, by decide +kernel⟩, ⟨_, rfl, by decide +kernel⟩, ⟨_, rfl, by decide +kernel⟩, ⟨_, rfl, by decide +kernel⟩, ⟨_, rfl, by decide +kernel⟩, ⟨_, rfl, by rw [hw14]; decide +kernel⟩, ⟨_, rfl, by decide +kernel⟩, fun _ h => nomatch h⟩
  have hO3 := hO2.app h3
  refine ⟨by decide, by rw [hO2.1]; decide, ?_⟩
  exact k6_bw hj hn hw hm hO3.1 hO3.2 hQ
theorem m_law_bent_words : Meets t_law_bent_words 2 4 sp_law_bent_words := by
  rintro args Qd Xd ⟨n, a, ds, dw, m, rfl, hj, hn, hw, hm, h0, hQ⟩
  have hwl := hw.len
  show t_law_bent_words _ _ [_, _, .un, .un, .un, .un]
  unfold t_law_bent_words
  simp -dsimp only [↓sSeq, ↓sIf, ↓sRet, ↓retD_ext, ↓retD_lst, ↓retD_al, ↓sSet, ↓sSetE, ↓sAsg, ↓sDrop, ↓sNext, ↓sFor, ↓sRetN, ↓sCont, ↓sBreak, ↓dTest, ↓dOp, ↓dVar_w, ↓dC, ↓dCons, ↓dNil, ↓dTup, ↓dLst, ↓frzDs, ↓frzD_ext, ↓frzD_lst, ↓frzD_al, ↓wd_ext, ↓wd_lst, ↓wd_al, ↓wds, ↓AtS_ext, ↓AtS_lst, ↓AtL, ↓fAdd, ↓fSub, ↓fMul, ↓fDiv, ↓fMod, ↓fPow, ↓fCmp, ↓fIn, ↓fEq_ii, ↓fEq_ss, ↓fEq_bb, ↓fEq_tt, ↓fEq_ll, ↓fNe_ii, ↓fNe_ss, ↓fNe_bb, ↓fNe_tt, ↓fNe_ll, ↓fIx_l, ↓fIx_t, ↓fIx_k, ↓fIx_f, ↓GetS_some, ↓NatS_some, ↓fSl, ↓fIsN, ↓fNotN, ↓D.knN, ↓dNot, ↓dAnd, ↓dOr, ↓dAndV_w, ↓dOrV_w, ↓dNotV, ↓dIf, ↓dNeg, ↓dChain_w, ↓BlS_bl, ↓dCall_w, ↓dCallJ_w, ↓anyAl, ↓frozs, ↓froz, ↓gSet, ↓gTupD, ↓gsCons, ↓gsNil, ↓dSeq, ↓seqD_tup, ↓seqD_elst, ↓seqD_lst, ↓seqD_al, ↓dRange1, ↓dRange2, ↓dZip, ↓dCB, ↓dLc, ↓dYes, ↓dNoPart, ↓dPart, ↓dSl, ↓fLen, ↓fMin, ↓fMax, ↓fSum, ↓fAll, ↓fAny, ↓fSorted, ↓fTuple, ↓fList, ↓dRg1, ↓dRg2, ↓dLstRg, ↓dTupRg, ↓dIndex, ↓fIdx, ↓dAppend_w, ↓dExtend_w, ↓extD_lst, ↓dPopAt_w, ↓popD_int, ↓dPop_w, ↓mutD_w, ↓sSetItem_w, ↓setD_int, ↓dSortSet, ↓dTable_w, ↓wipeE, finals1, finals2, finals3, finals4, finals5, finals6, fin1_ext, fin1_lst, List.getElem?_cons_zero, List.getElem?_cons_succ, List.getElem?_nil, List.set_cons_zero, List.set_cons_succ, List.cons_append, List.nil_append, List.append_nil, List.replicate_succ, List.replicate_zero, List.map_cons, List.map_nil, List.length_cons, List.length_nil, true_and, and_true, ite_true, ite_false, if_true, if_false, Bool.false_eq_true, decide_eq_true_eq, Sl.plain, D.isSq, eq_self_iff_true, forall_const, reduceIte, true_or, or_true, atI_0, atI_1, atI_2, atI_3, ixN_0, ixN_1, ixN_2, AtS_ext, AtS_lst, FzS_lst, FzS_ext, GetS_some, NatS_some, ↓fIsi1, ↓fIsi2, BoolS_some, HD.kb_non_tuple, HD.kb_non_list, HD.kb_non_bool, HD.kb_non_int, HD.kb_non_str, HD.kb_bl_tuple, HD.kb_bl_list, HD.kb_bl_bool, HD.kb_bl_int, HD.kb_bl_str, HD.kb_int_tuple, HD.kb_int_list, HD.kb_int_bool, HD.kb_int_int, HD.kb_int_str, HD.kb_str_tuple, HD.kb_str_list, HD.kb_str_bool, HD.kb_str_int, HD.kb_str_str, HD.kb_lst_tuple, HD.kb_lst_list, HD.kb_lst_bool, HD.kb_lst_int, HD.kb_lst_str, HD.kb_tup_tuple, HD.kb_tup_list, HD.kb_tup_bool, HD.kb_tup_int, HD.kb_tup_str, ↓sFz_w, ↓FzS_lst, ↓FzS_ext, ↓dSortSetL, ↓fAbs, ↓fInt, ↓fRepr, ↓fLtT, ↓sRaise, ↓sTryKeep, ↓dCallV_w, ↓dMeth, ↓fCount, ↓fSplit, ↓sPar]
  refine ⟨n, a, ds, 7, rfl, hj, by omega, by decide, by decide, fun way ds1 fin r0 r1 hj1 => ?_⟩
  simp -dsimp only [↓sSeq, ↓sIf, ↓sRet, ↓retD_ext, ↓retD_lst, ↓retD_al, ↓sSet, ↓sSetE, ↓sAsg, ↓sDrop, ↓sNext, ↓sFor, ↓sRetN, ↓sCont, ↓sBreak, ↓dTest, ↓dOp, ↓dVar_w, ↓dC, ↓dCons, ↓dNil, ↓dTup, ↓dLst, ↓frzDs, ↓frzD_ext, ↓frzD_lst, ↓frzD_al, ↓wd_ext, ↓wd_lst, ↓wd_al, ↓wds, ↓AtS_ext, ↓AtS_lst, ↓AtL, ↓fAdd, ↓fSub, ↓fMul, ↓fDiv, ↓fMod, ↓fPow, ↓fCmp, ↓fIn, ↓fEq_ii, ↓fEq_ss, ↓fEq_bb, ↓fEq_tt, ↓fEq_ll, ↓fNe_ii, ↓fNe_ss, ↓fNe_bb, ↓fNe_tt, ↓fNe_ll, ↓fIx_l, ↓fIx_t, ↓fIx_k, ↓fIx_f, ↓GetS_some, ↓NatS_some, ↓fSl, ↓fIsN, ↓fNotN, ↓D.knN, ↓dNot, ↓dAnd, ↓dOr, ↓dAndV_w, ↓dOrV_w, ↓dNotV, ↓dIf, ↓dNeg, ↓dChain_w, ↓BlS_bl, ↓dCall_w, ↓dCallJ_w, ↓anyAl, ↓frozs, ↓froz, ↓gSet, ↓gTupD, ↓gsCons, ↓gsNil, ↓dSeq, ↓seqD_tup, ↓seqD_elst, ↓seqD_lst, ↓seqD_al, ↓dRange1, ↓dRange2, ↓dZip, ↓dCB, ↓dLc, ↓dYes, ↓dNoPart, ↓dPart, ↓dSl, ↓fLen, ↓fMin, ↓fMax, ↓fSum, ↓fAll, ↓fAny, ↓fSorted, ↓fTuple, ↓fList, ↓dRg1, ↓dRg2, ↓dLstRg, ↓dTupRg, ↓dIndex, ↓fIdx, ↓dAppend_w, ↓dExtend_w, ↓extD_lst, ↓dPopAt_w, ↓popD_int, ↓dPop_w, ↓mutD_w, ↓sSetItem_w, ↓setD_int, ↓dSortSet, ↓dTable_w, ↓wipeE, finals1, finals2, finals3, finals4, finals5, finals6, fin1_ext, fin1_lst, List.getElem?_cons_zero, List.getElem?_cons_succ, List.getElem?_nil, List.set_cons_zero, List.set_cons_succ, List.cons_append, List.nil_append, List.append_nil, List.replicate_succ, List.replicate_zero, List.map_cons, List.map_nil, List.length_cons, List.length_nil, true_and, and_true, ite_true, ite_false, if_true, if_false, Bool.false_eq_true, decide_eq_true_eq, Sl.plain, D.isSq, eq_self_iff_true, forall_const, reduceIte, true_or, or_true, atI_0, atI_1, atI_2, atI_3, ixN_0, ixN_1, ixN_2, AtS_ext, AtS_lst, FzS_lst, FzS_ext, GetS_some, NatS_some, ↓fIsi1, ↓fIsi2, BoolS_some, HD.kb_non_tuple, HD.kb_non_list, HD.kb_non_bool, HD.kb_non_int, HD.kb_non_str, HD.kb_bl_tuple, HD.kb_bl_list, HD.kb_bl_bool, HD.kb_bl_int, HD.kb_bl_str, HD.kb_int_tuple, HD.kb_int_list, HD.kb_int_bool, HD.kb_int_int, HD.kb_int_str, HD.kb_str_tuple, HD.kb_str_list, HD.kb_str_bool, HD.kb_str_int, HD.kb_str_str, HD.kb_lst_tuple, HD.kb_lst_list, HD.kb_lst_bool, HD.kb_lst_int, HD.kb_lst_str, HD.kb_tup_tuple, HD.kb_tup_list, HD.kb_tup_bool, HD.kb_tup_int, HD.kb_tup_str, ↓sFz_w, ↓FzS_lst, ↓FzS_ext, ↓dSortSetL, ↓fAbs, ↓fInt, ↓fRepr, ↓fLtT, ↓sRaise, ↓sTryKeep, ↓dCallV_w, ↓dMeth, ↓fCount, ↓fSplit, ↓sPar]
  refine ⟨n + 1, a, ds1, (dw.length : Nat), rfl, hj1, by omega, by omega, by omega, fun at' ds2 fin w0 w1 hj2 => ?_⟩
  obtain ⟨at', rfl⟩ := Int.eq_ofNat_of_zero_le w0
  simp -dsimp only [↓sSeq, ↓sIf, ↓sRet, ↓retD_ext, ↓retD_lst, ↓retD_al, ↓sSet, ↓sSetE, ↓sAsg, ↓sDrop, ↓sNext, ↓sFor, ↓sRetN, ↓sCont, ↓sBreak, ↓dTest, ↓dOp, ↓dVar_w, ↓dC, ↓dCons, ↓dNil, ↓dTup, ↓dLst, ↓frzDs, ↓frzD_ext, ↓frzD_lst, ↓frzD_al, ↓wd_ext, ↓wd_lst, ↓wd_al, ↓wds, ↓AtS_ext, ↓AtS_lst, ↓AtL, ↓fAdd, ↓fSub, ↓fMul, ↓fDiv, ↓fMod, ↓fPow, ↓fCmp, ↓fIn, ↓fEq_ii, ↓fEq_ss, ↓fEq_bb, ↓fEq_tt, ↓fEq_ll, ↓fNe_ii, ↓fNe_ss, ↓fNe_bb, ↓fNe_tt, ↓fNe_ll, ↓fIx_l, ↓fIx_t, ↓fIx_k, ↓fIx_f, ↓GetS_some, ↓NatS_some, ↓fSl, ↓fIsN, ↓fNotN, ↓D.knN, ↓dNot, ↓dAnd, ↓dOr, ↓dAndV_w, ↓dOrV_w, ↓dNotV, ↓dIf, ↓dNeg, ↓dChain_w, ↓BlS_bl, ↓dCall_w, ↓dCallJ_w, ↓anyAl, ↓frozs, ↓froz, ↓gSet, ↓gTupD, ↓gsCons, ↓gsNil, ↓dSeq, ↓seqD_tup, ↓seqD_elst, ↓seqD_lst, ↓seqD_al, ↓dRange1, ↓dRange2, ↓dZip, ↓dCB, ↓dLc, ↓dYes, ↓dNoPart, ↓dPart, ↓dSl, ↓fLen, ↓fMin, ↓fMax, ↓fSum, ↓fAll, ↓fAny, ↓fSorted, ↓fTuple, ↓fList, ↓dRg1, ↓dRg2, ↓dLstRg, ↓dTupRg, ↓dIndex, ↓fIdx, ↓dAppend_w, ↓dExtend_w, ↓extD_lst, ↓dPopAt_w, ↓popD_int, ↓dPop_w, ↓mutD_w, ↓sSetItem_w, ↓setD_int, ↓dSortSet, ↓dTable_w, ↓wipeE, finals1, finals2, finals3, finals4, finals5, finals6, fin1_ext, fin1_lst, List.getElem?_cons_zero, List.getElem?_cons_succ, List.getElem?_nil, List.set_cons_zero, List.set_cons_succ, List.cons_append, List.nil_append, List.append_nil, List.replicate_succ, List.replicate_zero, List.map_cons, List.map_nil, List.length_cons, List.length_nil, true_and, and_true, ite_true, ite_false, if_true, if_false, Bool.false_eq_true, decide_eq_true_eq, Sl.plain, D.isSq, eq_self_iff_true, forall_const, reduceIte, true_or, or_true, atI_0, atI_1, atI_2, atI_3, ixN_0, ixN_1, ixN_2, AtS_ext, AtS_lst, FzS_lst, FzS_ext, GetS_some, NatS_some, ↓fIsi1, ↓fIsi2, BoolS_some, HD.kb_non_tuple, HD.kb_non_list, HD.kb_non_bool, HD.kb_non_int, HD.kb_non_str, HD.kb_bl_tuple, HD.kb_bl_list, HD.kb_bl_bool, HD.kb_bl_int, HD.kb_bl_str, HD.kb_int_tuple, HD.kb_int_list, HD.kb_int_bool, HD.kb_int_int, HD.kb_int_str, HD.kb_str_tuple, HD.kb_str_list, HD.kb_str_bool, HD.kb_str_int, HD.kb_str_str, HD.kb_lst_tuple, HD.kb_lst_list, HD.kb_lst_bool, HD.kb_lst_int, HD.kb_lst_str, HD.kb_tup_tuple, HD.kb_tup_list, HD.kb_tup_bool, HD.kb_tup_int, HD.kb_tup_str, ↓sFz_w, ↓FzS_lst, ↓FzS_ext, ↓dSortSetL, ↓fAbs, ↓fInt, ↓fRepr, ↓fLtT, ↓sRaise, ↓sTryKeep, ↓dCallV_w, ↓dMeth, ↓fCount, ↓fSplit, ↓sPar]
  unfold k9_law_bent_words
  and_intros
  have hO : Os 18 [D.str (Str.ofString "/"), D.str (Str.ofString ":"), D.str (Str.ofString "0"), D.str (Str.ofString "00"),
              D.str (Str.ofString "-0"), D.str (Str.ofString "01"), D.str (Str.ofString "5"), D.str (Str.ofString "4"),
              D.str (Str.ofString "-1"), D.str (Str.ofString "--1"), D.str (Str.ofString "-"), D.str (Str.ofString ""),
              D.str (Str.ofString "x"), D.str (Str.ofString "1_0"), D.str (Str.ofString "+1"),
              D.str (Str.ofString "1.0"), D.str (Str.ofString "//"), D.str (Str.ofString "::")] := by
    refine ⟨rfl, ?_⟩
    simp only [List.forall_mem_cons]
    exact ⟨⟨_, rfl, by decide +kernel⟩, ⟨_, rfl, by decide +kernel⟩, ⟨_, rfl, by decide +kernel⟩, ⟨_, rfl, by decide +kernel⟩, ⟨_, rfl, by decide +kernel⟩, ⟨_, rfl, by decide +kernel⟩, ⟨_, rfl, by decide +kernel⟩, ⟨_, rfl, by decide +kernel⟩, ⟨_, rfl, by decide +kernel⟩, ⟨_, rfl, by decide +kernel⟩, ⟨_, rfl, by decide +kernel⟩, ⟨_, rfl, by decide +kernel⟩, ⟨_, rfl, by decide +kernel⟩, ⟨_, rfl, by decide +kernel⟩, ⟨_, rfl, by decide +kernel⟩, ⟨_, rfl, by decide +kernel⟩, ⟨_, rfl, by decide +kernel⟩, ⟨_, rfl, by decide +kernel⟩, fun _ h => nomatch h⟩
  refine ⟨by decide, k8_bw hj2 (by omega) hw hm hO fun dz b ds' u1 u2 u3 u4 u5 h1 h2 => ?_⟩
  show Qd (.lst b dz) [fin1 (.lst a ds) (some (.lst a ds')), _]
  rw [fin_l]
  exact hQ _ _ _ _ h1 h2
abbrev sp_law_same : DSpec := sp_same 6
def sp_law_bent : DSpec := fun args Q _ => ∃ (n : Nat) (a : Addr) (ds : List D) (x : Str), args = [.lst a ds, .ext (.str x)] ∧ JarOk n ds ∧ n + 20 < 4294967296 ∧ x.length ≤ 9000 ∧
  ∀ (z : Str) ds' fin, z.length ≤ 90000 → JarOk (n + 12) ds' → Q (.ext (.str z)) (.lst a ds' :: fin)
def k1_law_bent : DTS :=
    (sRet (dOp fAdd (dOp fAdd (dSlS (dVar 1) dNoPart (dPart (dVar 3))) (dVar 6)) (dSlS (dVar 1) (dPart (dOp fAdd (dVar 3) (dCallJ sp_law_dip 0 (dCons (dC (.int 2)) dNil)))) dNoPart)))
def k2_law_bent : DTS :=
    (sRet (dOp fIx (dVar 7) (dOp fMod (dVar 4) (dC (.int 16)))))
def k3_law_bent : DTS :=
    (sSeq (sSetE 7 (dOp fAdd (dVar 7) (dLst (dCons (dC (.str (Str.ofString "2 / 0 0 : 1 2 3 4"))) (dCons (dOp fMulN (dC (.str (Str.ofString "9"))) (dC (.int 5000))) (dCons (dOp fAdd (dC (.str (Str.ofString "1 / "))) (dOp fMulN (dC (.str (Str.ofString "9"))) (dC (.int 5000)))) (dCons (dOp fAdd (dC (.str (Str.ofString "1 / : "))) (dOp fMulN (dC (.str (Str.ofString "9"))) (dC (.int 5000)))) dNil)))))))
    k2_law_bent)
def i4_law_bent : DTS :=
    (sSeq (sSetE 7 (dLst (dCons (dC (.str (Str.ofString ""))) (dCons (dC (.str (Str.ofString " "))) (dCons (dC (.str (Str.ofString "1"))) (dCons (dC (.str (Str.ofString "1 "))) (dCons (dC (.str (Str.ofString "1 /"))) (dCons (dC (.str (Str.ofString "1 / :"))) (dCons (dC (.str (Str.ofString "/"))) (dCons (dC (.str (Str.ofString ":"))) (dCons (dC (.str (Str.ofString "2 / 0 : 1"))) (dCons (dC (.str (Str.ofString "2 / 0"))) (dCons (dC (.str (Str.ofString "2 : 1"))) (dCons (dC (.str (Str.ofString "2 / : 1 / 0 : 1 2"))) dNil))))))))))))))
    k3_law_bent)
def k5_law_bent : DTS :=
    (sRet (dMeth D.isStr fJoin (dC (.str (Str.ofString " "))) (dVar 8)))
def k6_law_bent : DTS :=
    (sSeq (sIf (dAnd (dTest (dOp (fCmp fun i j => decide (i < j)) (dVar 2) (dC (.int 5)))) (dTest (dOp (fCmp fun i j => decide (j < i)) (dCB fLen (dCons (dVar 8) dNil)) (dC (.int 0))))) (sSetE 8 (dCallJ sp_law_bent_words 0 (dCons (dVar 8) dNil))) sNext)
    k5_law_bent)
def k7_law_bent : DTS :=
    (sSeq (sSetE 8 (dCallJ sp_law_bent_words 0 (dCons (dMeth D.isStr fSplit (dVar 1) (dC (.str (Str.ofString " ")))) dNil)))
    k6_law_bent)
def k8_law_bent : DTS :=
    (sSeq (sIf (dTest (dOp fEq (dVar 2) (dC (.int 2)))) i4_law_bent sNext)
    k7_law_bent)
def k9_law_bent : DTS :=
    (sSeq (sIf (dTest (dOp fEq (dVar 2) (dC (.int 1)))) (sRet (dOp fIx (dLst (dCons (dOp fAdd (dC (.str (Str.ofString " "))) (dVar 1)) (dCons (dOp fAdd (dVar 1) (dC (.str (Str.ofString " ")))) (dCons (dOp fAdd (dC (.str (Str.ofString "\n"))) (dVar 1)) (dCons (dOp fAdd (dVar 1) (dC (.str (Str.ofString "\n")))) (dCons (dOp fAdd (dVar 1) (dC (.str (Str.ofString " /")))) (dCons (dOp fAdd (dVar 1) (dC (.str (Str.ofString "/")))) (dCons (dOp fAdd (dC (.str (Str.ofString "\t"))) (dVar 1)) dNil)))))))) (dOp fMod (dVar 4) (dC (.int 7))))) sNext)
    k8_law_bent)
def k10_law_bent : DTS :=
    (sSeq (sIf (dTest (dOp fEq (dVar 2) (dC (.int 0)))) (sSeq (sSetE 6 (dOp fIx (dVar 5) (dCallJ sp_law_dip 0 (dCons (dCB fLen (dCons (dVar 5) dNil)) dNil))))
    k1_law_bent) sNext)
    k9_law_bent)
def k11_law_bent : DTS :=
    (sSeq (sSetE 5 (dC (.str (Str.ofString " !\"#$&'()*+,-./0123456789:;<=>?@AZ[\\]^_`az{|}~\t\n"))))
    k10_law_bent)
def t_law_bent : DTS :=
    (sSeq (sPar3 2 3 4 (dCons (dCallJ sp_law_dip 0 (dCons (dC (.int 10)) dNil)) (dCons (dCallJ sp_law_dip 0 (dCons (dOp fAdd (dCB fLen (dCons (dVar 1) dNil)) (dC (.int 1))) dNil)) (dCons (dCallJ sp_law_dip 0 (dCons (dC (.int 112)) dNil)) dNil))))
    k11_law_bent)
theorem cut_le (x : Str) (lo hi : Option Int) : (cutS x lo hi).length ≤ x.length := by
  rw [TL.len_tl]
  show (((tl _).drop (HT.sIx _ 0 lo)).take (HT.sIx _ _ hi - HT.sIx _ 0 lo)).length ≤ _
  rw [List.length_take, List.length_drop]
  have : (tl x).length = x.length := (TL.len_tl x).symm
  omega
theorem hal (x y : Str) : (x ++ y).length = x.length + y.length := by rw [TL.len_tl, TL.tl_append, List.length_append, ← TL.len_tl, ← TL.len_tl]
def Ls (k m : Nat) (l : List D) : Prop := l.length = k ∧ ∀ d ∈ l, ∃ w : Str, d = .str w ∧ w.length ≤ m
theorem Ls.nil (m : Nat) : Ls 0 m [] := ⟨rfl, fun _ h => nomatch h⟩
theorem Ls.cons {k m : Nat} {w : Str} {l : List D} (h : w.length ≤ m) (g : Ls k m l) : Ls (k + 1) m (.str w :: l) := ⟨by rw [List.length_cons, g.1], fun d hd => (List.mem_cons.1 hd).elim (fun e => ⟨w, e, h⟩) (g.2 d)⟩
theorem Ls.app {k j m : Nat} {a b : List D} (h : Ls k m a) (g : Ls j m b) : Ls (k + j) m (a ++ b) := ⟨by rw [List.length_append, h.1, g.1], fun d hd => (List.mem_append.1 hd).elim (h.2 d) (g.2 d)⟩
theorem Ls.at {k m : Nat} {l : List D} (h : Ls k m l) {r : Int} (r0 : 0 ≤ r) (r1 : r < (k : Nat)) : ∃ w : Str, atI l r = some (.str w) ∧ w.length ≤ m := by
  obtain ⟨d, h1, h2⟩ := atI_mem (xs := l) r0 (by rw [h.1]; exact r1)
  obtain ⟨w, rfl, hw⟩ := h.2 d h2
  exact ⟨w, h1, hw⟩
section
variable {Ex : DX} {E : DEnds} {a : Addr} {ds : List D} {x : Str} {n : Nat} {u2 u3 u4 u5 u6 u7 : Sl}
theorem k5_bt {m : Nat} {dz : List D} (hz : Wl m dz) (hm : m ≤ 90000) (hQ : ∀ z : Str, z.length ≤ 90000 → ∀ env, E.rt (.ext (.str z)) (.lst a ds :: env)) : k5_law_bent Ex E [.lst a ds, .ext (.str x), u2, u3, u4, u5, u6, u7, .ext (.lst dz)] := by
  obtain ⟨zs, rfl, hz⟩ := hz
  unfold k5_law_bent
  and_intros
  have hl := ms_join zs
  refine ⟨rfl, zs, rfl, ?_, hQ _ (by omega) _⟩
  have : (zs.map (·.length)).sum + zs.length ≤ m := hz
  have s1 : (Str.ofString " ").length = 1 := by decide +kernel
  rw [s1]
  omega
end
theorem m_law_bent : Meets t_law_bent 2 7 sp_law_bent := by
  rintro args Qd Xd ⟨n, a, ds, x, rfl, hj, hn, hx, hQ⟩
  show t_law_bent _ _ [_, _, .un, .un, .un, .un, .un, .un, .un]
  have s1 : ∀ k, k ≤ 200000 → k ≤ sizeLine := fun k h => Nat.le_trans h (by decide)
  unfold t_law_bent
  and_intros
  refine ⟨n, a, ds, 10, rfl, hj, by omega, by decide, by decide, fun way ds1 fin w0 w1 hj1 => ?_⟩
  and_intros
  refine ⟨s1 _ (by omega), n + 1, a, ds1, ((x.length + 1 : Nat) : Int), rfl, hj1, by omega, by omega, by omega, fun at' ds2 fin a0 a1 hj2 => ?_⟩
  obtain ⟨at', rfl⟩ := Int.eq_ofNat_of_zero_le a0
  and_intros
  refine ⟨n + 2, a, ds2, 112, rfl, hj2, by omega, by decide, by decide, fun turn ds3 fin t0 t1 hj3 => ?_⟩
  and_intros
  unfold k11_law_bent
  and_intros
  have hQ' : ∀ (z : Str), z.length ≤ 90000 → ∀ ds' k env, JarOk k ds' → k ≤ n + 12 → (endsOf [Sl.lst a ds, .ext (.str x)] Qd).rt (.ext (.str z)) (.lst a ds' :: env) := fun z hz ds' k env hj hk => by
    show Qd (.ext (.str z)) [fin1 (.lst a ds) (some (.lst a ds')), _]
    rw [fin_l]
    exact hQ z ds' _ hz (hj.up hk)
  have hsl : (Str.ofString " !\"#$&'()*+,-./0123456789:;<=>?@AZ[\\]^_`az{|}~\t\n").length = 48 := by decide +kernel
  generalize Str.ofString " !\"#$&'()*+,-./0123456789:;<=>?@AZ[\\]^_`az{|}~\t\n" = sg at hsl
  unfold k10_law_bent
  and_intros
  by_cases h0 : way = 0
  · rw [if_pos (by simpa using h0)]
    refine ⟨by rw [hsl]; decide, n + 3, a, ds3, ((sg.length : Nat) : Int), rfl, hj3, by omega, by omega, by omega, fun r ds4 fin r0 r1 hj4 => ?_⟩
    and_intros
    obtain ⟨c, hc, _⟩ := atI_mem (xs := sg.cps.toList) r0 r1
    refine ⟨by rw [hsl]; decide, c, hc, ?_⟩
    and_intros
    unfold k1_law_bent
    and_intros
    have l1 := cut_le x none (some ((at' : Nat) : Int))
    refine ⟨s1 _ (by omega), s1 _ (by show _ + 1 ≤ _; omega), n + 4, a, ds4, 2, rfl, hj4, by omega, by decide, by decide, fun r2 ds5 fin r20 r21 hj5 => ?_⟩
    and_intros
    have l2 := cut_le x (some ((at' : Nat) + r2 : Int)) none
    refine ⟨s1 _ (by omega), s1 _ (by rw [hal]; show _ + 1 + _ ≤ _; omega), ?_⟩
    refine hQ _ ds5 _ ?_ (hj5.up (by omega))
    rw [hal, hal]
    show _ + 1 + _ ≤ _
    omega
  rw [if_neg (by simpa using h0)]
  unfold k9_law_bent
  and_intros
  by_cases h1 : way = 1
  · rw [if_pos (by simpa using h1)]
    have sz : ∀ w : Str, w.length ≤ 2 → x.length + w.length ≤ sizeLine ∧ w.length + x.length ≤ sizeLine := fun w hw => ⟨s1 _ (by omega), s1 _ (by omega)⟩
    have l1 : (Str.ofString " ").length ≤ 2 := by decide +kernel
    have l2 : (Str.ofString "\n").length ≤ 2 := by decide +kernel
    have l3 : (Str.ofString " /").length ≤ 2 := by decide +kernel
    have l4 : (Str.ofString "/").length ≤ 2 := by decide +kernel
    have l5 : (Str.ofString "\t").length ≤ 2 := by decide +kernel
    have ap : ∀ w : Str, w.length ≤ 2 → (w ++ x).length ≤ 10010 ∧ (x ++ w).length ≤ 10010 := fun w hw => by rw [hal, hal]; omega
    have hL : Ls 7 10010 [D.str (Str.ofString " " ++ x), D.str (x ++ Str.ofString " "), D.str (Str.ofString "\n" ++ x),
                          D.str (x ++ Str.ofString "\n"), D.str (x ++ Str.ofString " /"), D.str (x ++ Str.ofString "/"),
                          D.str (Str.ofString "\t" ++ x)] := .cons (ap _ l1).1 (.cons (ap _ l1).2 (.cons (ap _ l2).1 (.cons (ap _ l2).2 (.cons (ap _ l3).2 (.cons (ap _ l4).2 (.cons (ap _ l5).1 (Ls.nil _)))))))
    obtain ⟨w, hw1, hw2⟩ := hL.at (r := turn % 7) (Int.emod_nonneg _ (by decide)) (Int.emod_lt_of_pos _ (by decide))
    refine ⟨(sz _ l1).2, (sz _ l1).1, (sz _ l2).2, (sz _ l2).1, (sz _ l3).1, (sz _ l4).1, (sz _ l5).2, by decide, by decide, _, hw1, ?_⟩
    and_intros
    exact hQ w ds3 _ (by omega) (hj3.up (by omega))
  rw [if_neg (by simpa using h1)]
  unfold k8_law_bent
  and_intros
  by_cases h2 : way = 2
  · rw [if_pos (by simpa using h2)]
    unfold i4_law_bent
    and_intros
    have hL : Ls 12 5010 [D.str (Str.ofString ""), D.str (Str.ofString " "), D.str (Str.ofString "1"), D.str (Str.ofString "1 "),
              D.str (Str.ofString "1 /"), D.str (Str.ofString "1 / :"), D.str (Str.ofString "/"),
              D.str (Str.ofString ":"), D.str (Str.ofString "2 / 0 : 1"), D.str (Str.ofString "2 / 0"),
              D.str (Str.ofString "2 : 1"), D.str (Str.ofString "2 / : 1 / 0 : 1 2")] := .cons (by decide +kernel) (.cons (by decide +kernel) (.cons (by decide +kernel) (.cons (by decide +kernel) (.cons (by decide +kernel) (.cons (by decide +kernel) (.cons (by decide +kernel) (.cons (by decide +kernel) (.cons (by decide +kernel) (.cons (by decide +kernel) (.cons (by decide +kernel) (.cons (by decide +kernel) (Ls.nil _))))))))))))
    refine ⟨by decide, ?_⟩
    generalize [D.str (Str.ofString ""), D.str (Str.ofString " "), D.str (Str.ofString "1"), D.str (Str.ofString "1 "),
              D.str (Str.ofString "1 /"), D.str (Str.ofString "1 / :"), D.str (Str.ofString "/"),
              D.str (Str.ofString ":"), D.str (Str.ofString "2 / 0 : 1"), D.str (Str.ofString "2 / 0"),
              D.str (Str.ofString "2 : 1"), D.str (Str.ofString "2 / : 1 / 0 : 1 2")] = L at hL
    unfold k3_law_bent
    and_intros
    have n9 : (Str.ofString "9").length = 1 := by decide +kernel
    have n1 : (Str.ofString "1 / ").length = 4 := by decide +kernel
    have n2 : (Str.ofString "1 / : ").length = 6 := by decide +kernel
    refine ⟨5000, rfl, by decide, by rw [n9]; decide, fun v0 e0 => ⟨5000, rfl, by decide, by rw [n9]; decide, fun v1 e1 => ⟨by rw [n1, e1, n9]; decide, 5000, rfl, by decide, by rw [n9]; decide, fun v2 e2 => ⟨by rw [n2, e2, n9]; decide, by decide, by rw [hL.1]; decide, ?_⟩⟩⟩⟩
    rw [n9] at e0 e1 e2
    have hL2 : Ls 4 5010 [D.str (Str.ofString "2 / 0 0 : 1 2 3 4"), D.str v0, D.str (Str.ofString "1 / " ++ v1), D.str (Str.ofString "1 / : " ++ v2)] := .cons (by decide +kernel) (.cons (by omega) (.cons (by rw [hal, n1]; omega) (.cons (by rw [hal, n2]; omega) (Ls.nil _))))
    obtain ⟨w, hw1, hw2⟩ := (hL.app hL2).at (r := turn % 16) (Int.emod_nonneg _ (by decide)) (Int.emod_lt_of_pos _ (by decide))
    unfold k2_law_bent
    and_intros
    refine ⟨by decide, _, hw1, ?_⟩
    and_intros
    exact hQ w ds3 _ (by omega) (hj3.up (by omega))
  rw [if_neg (by simpa using h2)]
  unfold k7_law_bent
  and_intros
  have hms := ms_split x
  have hwl : Wl (x.length + 1) ((Txt.split x (Str.ofString " ")).map D.str) := ⟨_, rfl, by rw [hms]; exact Nat.le_refl _⟩
  have hw0 : 0 < ((Txt.split x (Str.ofString " ")).map D.str).length := by
    rw [List.length_map, List.length_pos_iff]
    intro z
    rw [z] at hms
    have : 0 = x.length + 1 := hms
    omega
  refine ⟨rfl, by decide +kernel, s1 _ (by omega), n + 3, a, ds3, _, x.length + 1, rfl, hj3, by omega, hwl, by omega, hw0, fun dz b ds4 fin hz hj4 => ?_⟩
  and_intros
  unfold k6_law_bent
  and_intros
  have fin_ : ∀ (m : Nat) (dz : List D) ds' k, Wl m dz → m ≤ 90000 → JarOk k ds' → k ≤ n + 12 → ∀ u2 u3 u4 u5 u6 u7, k5_law_bent (exOf [Sl.lst a ds, Sl.ext (D.str x)] Xd) (endsOf [Sl.lst a ds, Sl.ext (D.str x)] Qd) [.lst a ds', .ext (.str x), u2, u3, u4, u5, u6, u7, .ext (.lst dz)] := fun m dz ds' k hz hm hj hk u2 u3 u4 u5 u6 u7 => k5_bt hz hm fun z hz env => hQ' z hz ds' k env hj hk
  by_cases hc : way < 5 ∧ 0 < dz.length
  · rw [if_pos hc.1, if_pos (by have := hc.2; omega)]
    refine ⟨n + 6, a, ds4, dz, 3 * (x.length + 1) + 20, rfl, hj4, by omega, hz, by omega, hc.2, fun dz2 b2 ds5 fin hz2 hj5 => ?_⟩
    and_intros
    exact fin_ _ _ _ _ (hz2.mono (by omega : _ ≤ 90000)) (Nat.le_refl _) hj5 (by omega) _ _ _ _ _ _
  · have g := fin_ _ _ _ _ (hz.mono (by omega : _ ≤ 90000)) (Nat.le_refl _) hj4 (by omega) (.ext (.int way)) (dI at') (dI turn) (.ext (.str sg)) .un .un
    split
    · rename_i h3
      rw [if_neg (fun z => hc ⟨h3, by omega⟩)]
      exact g
    · exact g
def sp_law_ends : DSpec := fun args Q _ => ∃ (n : Nat) (a : Addr) (ds : List D), args = [.lst a ds] ∧ JarOk n ds ∧ n + 20 < 4294967296 ∧
  ∀ (z : Str) ds' fin, z.length ≤ 90000 → JarOk (n + 12) ds' → Q (.ext (.str z)) (.lst a ds' :: fin)
def k1_law_ends : DTS :=
    (sRet (dOp fIx (dVar 2) (dVar 5)))
def k2_law_ends : DTS :=
    (sSeq (sIf (dTest (dOp (fCmp fun i j => decide (j < i)) (dVar 5) (dC (.int 5)))) (sRet (dMeth D.isStr fJoin (dC (.str (Str.ofString " "))) (dCallJ sp_law_bent_words 0 (dCons (dMeth D.isStr fSplit (dVar 3) (dC (.str (Str.ofString " ")))) dNil)))) sNext)
    k1_law_ends)
def k3_law_ends : DTS :=
    (sSeq (sSetE 5 (dCallJ sp_law_dip 0 (dCons (dC (.int 8)) dNil)))
    k2_law_ends)
def k4_law_ends : DTS :=
    (sSeq (sDrop (dAppend 2 (dOp fAdd (dVar 4) (dC (.str (Str.ofString " / 0 : 7 7 7 7"))))))
    k3_law_ends)
def k5_law_ends : DTS :=
    (sSeq (sSetE 4 (dOp fAdd (dOp fAdd (dSlS (dVar 3) dNoPart (dPart (dNeg (dC (.int 40))))) (dOp fMulN (dC (.str (Str.ofString " / 0 : 7 7 7 7"))) (dC (.int 3)))) (dOp fMulN (dC (.str (Str.ofString " / : 7"))) (dOp fAdd (dC (.int 1)) (dCallJ sp_law_dip 0 (dCons (dC (.int 3)) dNil))))))
    k4_law_ends)
def k6_law_ends : DTS :=
    (sSeq (sSet 2 (dOp fAdd (dVar 2) (dLst (dCons (dOp fAdd (dVar 3) (dOp fMulN (dC (.str (Str.ofString " / : 0"))) (dVar 1))) (dCons (dOp fAdd (dSlS (dVar 3) dNoPart (dPart (dNeg (dC (.int 40))))) (dOp fMulN (dC (.str (Str.ofString " / 0 1 4 : 1"))) (dVar 1))) dNil)))))
    k5_law_ends)
def k7_law_ends : DTS :=
    (sSeq (sSetE 3 (dOp fAdd (dOp fAdd (dOp fAdd (dVar 3) (dOp fMulN (dOp fAdd (dC (.str (Str.ofString " / 0 1 2 :"))) (dOp fMulN (dC (.str (Str.ofString " 7"))) (dC (.int 64)))) (dC (.int 3)))) (dC (.str (Str.ofString " / 0 1 :")))) (dOp fMulN (dC (.str (Str.ofString " 3"))) (dC (.int 16)))))
    k6_law_ends)
def k8_law_ends : DTS :=
    (sSeq (sSetE 3 (dOp fAdd (dOp fAdd (dC (.str (Str.ofString "4 4 4 4 4 / 0 1 2 3 4 :"))) (dOp fMulN (dC (.str (Str.ofString " 5"))) (dC (.int 1024)))) (dOp fMulN (dOp fAdd (dC (.str (Str.ofString " / 0 1 2 4 :"))) (dOp fMulN (dC (.str (Str.ofString " 6"))) (dC (.int 256)))) (dC (.int 3)))))
    k7_law_ends)
def k9_law_ends : DTS :=
    (sSeq (sSet 2 (dLst (dCons (dMeth D.isStr fJoin (dC (.str (Str.ofString " "))) (dOp fMul (dLst (dCons (dC (.str (Str.ofString "1"))) dNil)) (dOp fAdd (dC (.int 12)) (dVar 1)))) (dCons (dMeth D.isStr fJoin (dC (.str (Str.ofString " "))) (dOp fAdd (dOp fMul (dLst (dCons (dC (.str (Str.ofString "4"))) dNil)) (dC (.int 5))) (dLst (dCons (dCB fStr (dCons (dOp fAdd (dC (.int 3)) (dVar 1)) dNil)) dNil)))) (dCons (dOp fAdd (dC (.str (Str.ofString "1"))) (dOp fMulN (dC (.str (Str.ofString " / : 5"))) (dOp fAdd (dC (.int 24)) (dVar 1)))) dNil)))))
    k8_law_ends)
def t_law_ends : DTS :=
    (sSeq (sSetE 1 (dCallJ sp_law_dip 0 (dCons (dC (.int 2)) dNil)))
    k9_law_ends)
theorem repS (k : Nat) (w : Str) : (List.replicate k [D.str w]).flatten = (List.replicate k w).map D.str := by
  induction k with
  | zero => rfl
  | succ k ih => rw [List.replicate_succ, List.flatten_cons, ih, List.replicate_succ]; rfl
theorem jn_len {zs : List Str} {k m : Nat} (h : ∀ w ∈ zs, w.length ≤ k) (hl : zs.length ≤ m) : (Str.join (Str.ofString " ") zs).length ≤ m * (k + 1) := by
  refine Nat.le_trans (ms_join zs) (Nat.le_trans ?_ (Nat.mul_le_mul_right _ hl))
  clear hl
  induction zs with
  | nil => exact Nat.zero_le _
  | cons z zs ih =>
    have h1 := h z List.mem_cons_self
    have h2 := ih fun w hw => h w (List.mem_cons_of_mem _ hw)
    rw [ms_cons, List.length_cons, Nat.add_mul, Nat.one_mul]
    omega
theorem m_law_ends : Meets t_law_ends 1 5 sp_law_ends := by
  rintro args Qd Xd ⟨n, a, ds, rfl, hj, hn, hQ⟩
  show t_law_ends _ _ [_, .un, .un, .un, .un, .un]
  have s1 : ∀ k, k ≤ 200000 → k ≤ sizeLine := fun k h => Nat.le_trans h (by decide)
  have hQ' : ∀ (z : Str), z.length ≤ 90000 → ∀ ds' k env, JarOk k ds' → k ≤ n + 12 → (endsOf [Sl.lst a ds] Qd).rt (.ext (.str z)) (.lst a ds' :: env) := fun z hz ds' k env hj hk => by
    show Qd (.ext (.str z)) [fin1 (.lst a ds) (some (.lst a ds'))]
    rw [fin_l]
    exact hQ z ds' _ hz (hj.up hk)
  unfold t_law_ends
  and_intros
  refine ⟨n, a, ds, 2, rfl, hj, by omega, by decide, by decide, fun more ds1 fin m0 m1 hj1 => ?_⟩
  obtain ⟨more, rfl⟩ := Int.eq_ofNat_of_zero_le m0
  and_intros
  unfold k9_law_ends
  and_intros
  have hm : more ≤ 1 := by omega
  have n3 : (Str.ofString (toString ((3 : Int) + (more : Nat)))).length ≤ 1 := by
    have : more = 0 ∨ more = 1 := by omega
    rcases this with rfl | rfl <;> decide +kernel
  rw [show ((12 : Int) + (more : Nat)).toNat = 12 + more by omega, repS, repS]
  refine ⟨rfl, by decide, by omega, by omega, s1 _ (by omega), ?_⟩
  have sl : (Str.ofString " ").length = 1 := by decide +kernel
  have o1 : ∀ w ∈ List.replicate (12 + more) (Str.ofString "1"), w.length ≤ 1 := fun w hw => by rw [List.eq_of_mem_replicate hw]; decide +kernel
  refine fjoin (k := 1) o1 (by rw [List.length_replicate, sl]; omega) ?_
  have ev : ((3 : Int) + (more : Nat)).natAbs.log2 < 1920 := by
    have : more = 0 ∨ more = 1 := by omega
    rcases this with rfl | rfl <;> decide
  refine ⟨rfl, by decide, by decide, by decide, by decide, ev, by decide, by decide, ?_⟩
  have o2 : ∀ w ∈ List.replicate 5 (Str.ofString "4") ++ [Str.ofString (toString ((3 : Int) + (more : Nat)))], w.length ≤ 1 := fun w hw => by
    rcases List.mem_append.1 hw with h | h
    · rw [List.eq_of_mem_replicate h]; decide +kernel
    · rw [List.mem_singleton.1 h]; exact n3
  rw [show List.map D.str (List.replicate (Int.toNat 5) (Str.ofString "4")) ++ [D.str (Str.ofString (toString ((3 : Int) + (more : Nat))))] = (List.replicate 5 (Str.ofString "4") ++ [Str.ofString (toString ((3 : Int) + (more : Nat)))]).map D.str by rw [List.map_append]; rfl]
  refine fjoin (k := 1) o2 (by rw [List.length_append, List.length_replicate, sl]; show (5 + 1) * (1 + 1) ≤ _; decide) ?_
  have n6 : (Str.ofString " / : 5").length = 6 := by decide +kernel
  have n7 : (Str.ofString "1").length = 1 := by decide +kernel
  refine ⟨24 + more, by omega, by omega, by rw [n6]; omega, fun v ev => ⟨s1 _ (by rw [n7, ev, n6]; omega), by decide, fun a2 => ?_⟩⟩
  have l1 := jn_len o1 (m := 13) (by rw [List.length_replicate]; omega)
  have l2 := jn_len o2 (m := 6) (by rw [List.length_append, List.length_replicate]; exact Nat.le_refl 6)
  have hL : Ls 3 90000 [D.str (Str.join (Str.ofString " ") (List.replicate (12 + more) (Str.ofString "1"))), D.str (Str.join (Str.ofString " ") (List.replicate 5 (Str.ofString "4") ++ [Str.ofString (toString ((3 : Int) + (more : Nat)))])), D.str (Str.ofString "1" ++ v)] := .cons (by omega) (.cons (by omega) (.cons (by rw [hal, n7, ev, n6]; omega) (Ls.nil _)))
  generalize [D.str (Str.join (Str.ofString " ") (List.replicate (12 + more) (Str.ofString "1"))), D.str (Str.join (Str.ofString " ") (List.replicate 5 (Str.ofString "4") ++ [Str.ofString (toString ((3 : Int) + (more : Nat)))])), D.str (Str.ofString "1" ++ v)] = L at hL
  unfold k8_law_ends
  and_intros
  have b0 : (Str.ofString "4 4 4 4 4 / 0 1 2 3 4 :").length = 23 := by decide +kernel
  have b1 : (Str.ofString " 5").length = 2 := by decide +kernel
  have b2 : (Str.ofString " 6").length = 2 := by decide +kernel
  have b3 : (Str.ofString " / 0 1 2 4 :").length = 12 := by decide +kernel
  refine ⟨1024, rfl, by decide, by rw [b1]; decide, fun v1 e1 => ⟨s1 _ (by rw [b0, e1, b1]; decide), 256, rfl, by decide, by rw [b2]; decide, fun v2 e2 => ⟨s1 _ (by rw [b3, e2, b2]; decide), 3, rfl, by decide, by rw [hal, b3, e2, b2]; decide, fun v3 e3 => ⟨s1 _ (by rw [hal, e3, hal, b0, e1, b1, b3, e2, b2]; decide), ?_⟩⟩⟩⟩
  have w1 : (Str.ofString "4 4 4 4 4 / 0 1 2 3 4 :" ++ v1 ++ v3).length = 3643 := by rw [hal, e3, hal, hal, b0, e1, b1, b3, e2, b2]
  generalize Str.ofString "4 4 4 4 4 / 0 1 2 3 4 :" ++ v1 ++ v3 = v4 at w1
  unfold k7_law_ends
  and_intros
  have b4 : (Str.ofString " 7").length = 2 := by decide +kernel
  have b5 : (Str.ofString " / 0 1 2 :").length = 10 := by decide +kernel
  have b6 : (Str.ofString " / 0 1 :").length = 8 := by decide +kernel
  have b7 : (Str.ofString " 3").length = 2 := by decide +kernel
  refine ⟨64, rfl, by decide, by rw [b4]; decide, fun v5 e5 => ⟨s1 _ (by rw [b5, e5, b4]; decide), 3, rfl, by decide, by rw [hal, b5, e5, b4]; decide, fun v6 e6 => ?_⟩⟩
  rw [hal, b5, e5, b4] at e6
  have w2 : (v4 ++ v6).length = 4057 := by rw [hal, w1, e6]
  generalize v4 ++ v6 = v7 at w2
  refine ⟨s1 _ (by rw [w1, e6]; decide), s1 _ (by rw [w2, b6]; decide), 16, rfl, by decide, by rw [b7]; decide, fun v8 e8 => ⟨s1 _ (by rw [hal, w2, b6, e8, b7]; decide), ?_⟩⟩
  have w3 : (v7 ++ Str.ofString " / 0 1 :" ++ v8).length = 4097 := by rw [hal, hal, w2, b6, e8, b7]
  generalize v7 ++ Str.ofString " / 0 1 :" ++ v8 = base at w3
  unfold k6_law_ends
  and_intros
  have b8 : (Str.ofString " / : 0").length = 6 := by decide +kernel
  have b9 : (Str.ofString " / 0 1 4 : 1").length = 12 := by decide +kernel
  have c1 := cut_le base none (some (-40))
  refine ⟨more, rfl, by omega, by rw [b8]; omega, fun x1 f1 => ?_⟩
  rw [b8] at f1
  refine ⟨s1 _ (by omega), s1 _ (by omega), more, rfl, by omega, by rw [b9]; omega, fun x2 f2 => ?_⟩
  rw [b9] at f2
  refine ⟨s1 _ (by omega), by decide, by rw [hL.1]; decide, fun a3 => ?_⟩
  have hL2 := hL.app (Ls.cons (m := 90000) (w := base ++ x1) (by rw [hal]; omega) (.cons (w := cutS base none (some (-40)) ++ x2) (by rw [hal]; omega) (Ls.nil _)))
  generalize L ++ [D.str (base ++ x1), D.str (cutS base none (some (-40)) ++ x2)] = L2 at hL2
  unfold k5_law_ends
  and_intros
  have c2 : (Str.ofString " / 0 : 7 7 7 7").length = 14 := by decide +kernel
  have c3 : (Str.ofString " / : 7").length = 6 := by decide +kernel
  refine ⟨s1 _ (by omega), 3, rfl, by decide, by rw [c2]; decide, fun x3 f3 => ?_⟩
  rw [c2] at f3
  refine ⟨s1 _ (by omega), n + 1, a, ds1, 3, rfl, hj1, by omega, by decide, by decide, fun r ds2 fin r0 r1 hj2 => ?_⟩
  obtain ⟨r, rfl⟩ := Int.eq_ofNat_of_zero_le r0
  and_intros
  refine ⟨1 + r, by omega, by omega, by rw [c3]; omega, fun x4 f4 => ?_⟩
  rw [c3] at f4
  have w4 : (cutS base none (some (-40)) ++ x3 ++ x4).length ≤ 5000 := by rw [hal, hal]; omega
  refine ⟨s1 _ (by rw [hal]; omega), ?_⟩
  generalize cutS base none (some (-40)) ++ x3 ++ x4 = less at w4
  unfold k4_law_ends
  and_intros
  have hL3 := hL2.app (Ls.cons (m := 90000) (w := less ++ Str.ofString " / 0 : 7 7 7 7") (by rw [hal, c2]; omega) (Ls.nil _))
  refine ⟨s1 _ (by rw [c2]; omega), by rw [hL2.1]; decide, ?_⟩
  generalize L2 ++ [D.str (less ++ Str.ofString " / 0 : 7 7 7 7")] = L3 at hL3
  unfold k3_law_ends
  and_intros
  refine ⟨n + 2, a, ds2, 8, rfl, hj2, by omega, by decide, by decide, fun way ds3 fin y0 y1 hj3 => ?_⟩
  and_intros
  unfold k2_law_ends
  and_intros
  split
  · have hms := ms_split base
    have hwl : Wl (base.length + 1) ((Txt.split base (Str.ofString " ")).map D.str) := ⟨_, rfl, by rw [hms]; exact Nat.le_refl _⟩
    have hw0 : 0 < ((Txt.split base (Str.ofString " ")).map D.str).length := by
      rw [List.length_map, List.length_pos_iff]
      intro z
      rw [z] at hms
      have : 0 = base.length + 1 := hms
      omega
    refine ⟨rfl, rfl, by decide +kernel, s1 _ (by omega), n + 3, a, ds3, _, base.length + 1, rfl, hj3, by omega, hwl, by omega, hw0, fun dz b ds4 fin hz hj4 => ?_⟩
    obtain ⟨zs, rfl, hz⟩ := hz
    and_intros
    have hl := ms_join zs
    refine ⟨zs, rfl, ?_, hQ _ ds4 _ (by omega) (hj4.up (by omega))⟩
    have : (zs.map (·.length)).sum + zs.length ≤ _ := hz
    rw [sl]
    omega
  · rename_i hw
    unfold k1_law_ends
    and_intros
    obtain ⟨w, hw1, hw2⟩ := hL3.at (r := way) y0 (by omega)
    refine ⟨_, hw1, ?_⟩
    and_intros
    exact hQ w ds3 _ hw2 (hj3.up (by omega))
def sp_law_text : DSpec := WD.sp_sheet_text
def e1_law_text : DT :=
    (dCB fStr (dCons (dVar 2) dNil))
def e2_law_text : DT :=
    (dCB fStr (dCons (dVar 5) dNil))
def e3_law_text : DT :=
    (dCB fStr (dCons (dVar 6) dNil))
def b4_law_text : DTS :=
    (sDrop (dAppend 1 (dMeth D.isStr fJoin (dC (.str (Str.ofString " "))) (dOp fAdd (dOp fAdd (dLc (dSeq (dVar 3)) (gSet 5) dYes e2_law_text [5]) (dLst (dCons (dC (.str (Str.ofString ":"))) dNil))) (dLc (dSeq (dVar 4)) (gSet 6) dYes e3_law_text [6])))))
def k5_law_text : DTS :=
    (sRet (dMeth D.isStr fJoin (dC (.str (Str.ofString " / "))) (dVar 1)))
def t_law_text : DTS :=
    (sSeq (sSet 1 (dLst (dCons (dMeth D.isStr fJoin (dC (.str (Str.ofString " "))) (dLc (dSeq (dOp fIx (dVar 0) (dC (.int 0)))) (gSet 2) dYes e1_law_text [2])) dNil)))
    (sSeq (sFor (dSeq (dOp fIx (dVar 0) (dC (.int 1)))) (gTupD 2 (gsCons (gSet 3) (gsCons (gSet 4) gsNil))) b4_law_text)
    k5_law_text))
theorem m_law_text : Meets t_law_text 1 6 sp_law_text := WD.m_sheet_text
def k1_law : DTS :=
    (sIf (dNot (dTest (dCall sp_law_same (dCons (dCall sp_law_told (dCons (dVar 5) dNil)) (dCons (dCall sp_law_due (dCons (dVar 5) dNil)) dNil))))) (sRet (dC (.bl false))) sNext)
def b2_law : DTS :=
    (sSeq (sSetE 5 (dCallJ sp_law_bent 1 (dCons (dVar 3) dNil)))
    k1_law)
def k3_law : DTS :=
    (sFor (dRange1 (dCons (dC (.int 25)) dNil)) (gSet 4) b2_law)
def b4_law : DTS :=
    (sSeq (sSetE 3 (dCall sp_law_text (dCons (dCallJ sp_law_sheet 1 (dCons (dC (.str (Str.ofString "sum"))) (dCons (dOp fIx (dLst (dCons (dC (.int 5)) (dCons (dC (.int 5)) (dCons (dC (.int 12)) dNil)))) (dVar 2)) (dCons (dC (.int 60)) (dCons (dC (.int 3)) dNil))))) dNil)))
    k3_law)
def k5_law : DTS :=
    (sRet (dCall sp_law_same (dCons (dCall sp_law_told (dCons (dVar 3) dNil)) (dCons (dCall sp_law_due (dCons (dVar 3) dNil)) dNil))))
def k6_law : DTS :=
    (sSeq (sSetE 3 (dCallJ sp_law_ends 1 dNil))
    k5_law)
def k7_law : DTS :=
    (sSeq (sFor (dRange1 (dCons (dC (.int 3)) dNil)) (gSet 2) b4_law)
    k6_law)
def t_law : DTS :=
    (sSeq (sSet 1 (dCall sp_law_jar (dCons (dVar 0) dNil)))
    k7_law)
theorem readR_ok : ∀ {l : List (List Nat)} {W W' : WS} {k : Nat}, WOk W → readR W k l = .inl W' → WOk W'
  | [], W, W', k, h, e => by
    have e : (if isDone W = true then Sum.inl W else Sum.inr k) = (.inl W' : WS ⊕ Nat) := e
    split at e
    · cases e; exact h
    · cases e
  | w :: l, W, W', k, h, e => by
    have e : (match tkW W w with | some W2 => readR W2 (k + 1) l | none => .inr k) = (.inl W' : WS ⊕ Nat) := e
    cases ht : tkW W w with
    | none => rw [ht] at e; cases e
    | some W2 => rw [ht] at e; exact readR_ok (tk_ok h ht) e
theorem plT {k : Nat} {ds : List D} (h1 : ds.length ≤ 100000) (h2 : ∀ d ∈ ds, D.pl k d = true) : D.pl (k + 1) (.tup ds) = true := by
  rw [D.pl, Bool.and_eq_true, List.all_eq_true, decide_eq_true_eq]
  exact ⟨h1, h2⟩
theorem plL {k : Nat} {ds : List D} (h1 : ds.length ≤ 100000) (h2 : ∀ d ∈ ds, D.pl k d = true) : D.pl (k + 1) (.lst ds) = true := by
  rw [D.pl, Bool.and_eq_true, List.all_eq_true, decide_eq_true_eq]
  exact ⟨h1, h2⟩
theorem pl_p {p : Part} (h1 : p.ns.length ≤ 100) (h2 : p.ws.length ≤ 5000) : D.pl 2 (dP p) = true := by
  refine plT (by show 2 ≤ 100000; decide) fun d hd => ?_
  simp only [List.mem_cons, List.not_mem_nil, or_false] at hd
  rcases hd with rfl | rfl
  · refine plT (by rw [nD_len]; omega) fun d hd => ?_
    obtain ⟨n, _, rfl⟩ := List.mem_map.1 hd
    rfl
  · refine plT (by rw [iD_len]; omega) fun d hd => ?_
    obtain ⟨n, _, rfl⟩ := List.mem_map.1 hd
    rfl
theorem pl_cl {W : WS} (h : WOk W) : D.pl 4 (dSh (closeW W).sz (closeW W).ps) = true := by
  have h1 := h.few
  have h2 := h.many
  have hp : ∀ p ∈ (closeW W).ps, D.pl 2 (dP p) = true := fun p hp => by
    have old : ∀ p ∈ W.ps, D.pl 2 (dP p) = true := fun p hp => by
      have h4 : p.ws.length ≤ (W.ps.map fun p => p.ws.length).sum := by
        obtain ⟨l1, l2, e⟩ := List.append_of_mem hp
        rw [e, List.map_append, List.sum_append, List.map_cons, List.sum_cons]
        omega
      have h5 := h.all
      have h6 := rising_len (h.parts p hp).1.rise (h.parts p hp).1.lt
      exact pl_p (by omega) (by omega)
    unfold closeW at hp
    split at hp
    · rcases List.mem_append.1 hp with hp | hp
      · exact old p hp
      · rw [List.mem_singleton.1 hp]
        have h5 := h.wl
        have h6 := h.due
        have h7 := rising_len h.rise h.lt
        exact pl_p (by show W.ns.length ≤ 100; omega) (by show W.ws.length ≤ 5000; omega)
    · exact old p hp
  have hl : (closeW W).ps.length ≤ 25 := by
    unfold closeW
    split
    · show (W.ps ++ _).length ≤ _
      rw [List.length_append, List.length_singleton]
      omega
    · omega
  refine plT (by show 2 ≤ 100000; decide) fun d hd => ?_
  simp only [List.mem_cons, List.not_mem_nil, or_false] at hd
  rcases hd with rfl | rfl
  · refine plT (by rw [nD_len, close_sz]; omega) fun d hd => ?_
    obtain ⟨n, _, rfl⟩ := List.mem_map.1 hd
    rfl
  · refine plT (by rw [List.length_map]; omega) fun d hd => ?_
    obtain ⟨p, hp', rfl⟩ := List.mem_map.1 hd
    exact hp p hp'
theorem pl_rD {r : WS ⊕ Nat} (h : ∀ W, r = .inl W → WOk W) : D.pl 6 (.lst (rD r)) = true := by
  cases r with
  | inl W =>
    refine plL (by show 2 ≤ 100000; decide) fun d hd => ?_
    simp only [rD, List.mem_cons, List.not_mem_nil, or_false] at hd
    rcases hd with rfl | rfl
    · rfl
    · have := pl_cl (h W rfl)
      exact LS.pl_up _ _ this
  | inr k =>
    refine plL (by show 2 ≤ 100000; decide) fun d hd => ?_
    simp only [rD, List.mem_cons, List.not_mem_nil, or_false] at hd
    rcases hd with rfl | rfl <;> rfl
theorem ShR.few {w : Wd} {S : List Nat} {ps : List Part} (h : SzOk S) (h0 : 0 < S.length) (h12 : S.length ≤ 12) (hp : prodN S ≤ 60) (ok : PsOk w S ps) (hl : ps.length ≤ 3) : ShR S ps := by
  refine ⟨h0, h12, fun s hs => ⟨h.pos s hs, h.small s hs⟩, by omega, by omega, fun p hp => ⟨(ok p hp).1, fun x hx => ?_⟩, ?_⟩
  · have := (ok p hp).2 x hx
    have h1 := this.1
    have h2 := this.2.1
    omega
  · have hb : ∀ p ∈ ps, p.ws.length ≤ 60 := fun p hq => by
      rw [(ok p hq).1.len]
      exact Nat.le_trans (LS.psz_le h.pos (ok p hq).1.rise (ok p hq).1.lt) hp
    have : allW ps ≤ ps.length * 60 := by
      clear hl ok
      induction ps with
      | nil => exact Nat.zero_le _
      | cons p ps ih =>
        have h1 := hb p List.mem_cons_self
        have h2 := ih fun q hq => hb q (List.mem_cons_of_mem _ hq)
        show p.ws.length + allW ps ≤ _
        rw [List.length_cons, Nat.add_mul, Nat.one_mul]
        omega
    omega
theorem fm_le {α β : Type} {f : α → List β} {k : Nat} : ∀ {l : List α}, (∀ x ∈ l, (f x).length ≤ k) → (l.flatMap f).length ≤ l.length * k
  | [], _ => Nat.zero_le _
  | x :: l, h => by
    have h1 := h x List.mem_cons_self
    have h2 := fm_le fun y hy => h y (List.mem_cons_of_mem _ hy)
    rw [List.flatMap_cons, List.length_append, List.length_cons, Nat.add_mul, Nat.one_mul]
    omega
theorem stx_few {w : Wd} {S : List Nat} {ps : List Part} (h : ShR S ps) (hp : prodN S ≤ 60) (ok : PsOk w S ps) (hl : ps.length ≤ 3) (h3 : ∀ p ∈ ps, p.ns.length ≤ 3) : (stx S ps).length ≤ 9000 := by
  obtain ⟨h1, h2⟩ := wdS_len h
  have g3 := sum_le fun w hw => (h1 w hw).1
  have g4 := join_len (wdS S ps)
  have g5 : (wdS S ps).length ≤ 12 + 3 * 70 := by
    unfold wdS
    rw [List.length_append, List.length_map]
    have g6 : (ps.flatMap fun p => [47] :: wdP p).length ≤ ps.length * 70 := fm_le fun p hq => by
      have q1 := h3 p hq
      have q2 : p.ws.length ≤ 60 := by
        rw [(ok p hq).1.len]
        exact Nat.le_trans (LS.psz_le (fun s hs => (h.siz s hs).1) (ok p hq).1.rise (ok p hq).1.lt) hp
      unfold wdP
      simp only [List.length_cons, List.length_append, List.length_map, List.length_nil]
      omega
    have := h.few
    omega
  rw [len_tl, tl_stx]
  omega
theorem m_law : Meets t_law 1 5 (lawSpec 63) := by
  rintro args Qd Xd ⟨ns, rfl, hl, hQ⟩
  show t_law _ _ [_, .un, .un, .un, .un, .un]
  unfold t_law
  and_intros
  refine ⟨ns, rfl, hl, fun a ds fin hj => ?_⟩
  and_intros
  unfold k7_law
  and_intros
  rw [show rgD 0 3 = nD (List.range 3) from rgD_nat 3]
  refine ⟨by show small62 3; unfold small62; decide, ?_⟩
  refine for_ind (fun i : Nat => D.int (i : Nat)) (fun is env => ∃ (m : Nat) (ds2 : List D) (u2 u3 u4 u5 : Sl), env = [.ext (.fz (ns.map D.int)), .lst a ds2, u2, u3, u4, u5] ∧ JarOk m ds2 ∧ m + is.length * 800000 ≤ 2400000 ∧ ∀ i ∈ is, i < 3) ?_ ?_ (List.range 3) _ ⟨0, ds, _, _, _, _, rfl, hj, by decide, fun i hi => List.mem_range.1 hi⟩
  · rintro env ⟨m, ds2, u2, u3, u4, u5, rfl, hj2, hm, _⟩
    refine ⟨True.intro, ?_⟩
    unfold k6_law
    and_intros
    refine ⟨m, a, ds2, rfl, hj2, by omega, fun z ds3 fin hz hj3 => ?_⟩
    and_intros
    unfold k5_law
    and_intros
    refine ⟨z, rfl, hz, fun b1 fin => ⟨.inl rfl, True.intro, ?_⟩⟩
    and_intros
    refine ⟨z, rfl, hz, fun b2 fin => ⟨.inl rfl, True.intro, ?_⟩⟩
    and_intros
    refine ⟨_, rfl, pl_rD fun W e => readR_ok W0_ok e, fun fin => ⟨.inr rfl, True.intro, ?_⟩⟩
    and_intros
    exact hQ _
  · rintro i is env N ⟨m, ds2, u2, u3, u4, u5, rfl, hj2, hm, hi⟩ hN
    refine ⟨True.intro, ?_⟩
    unfold b4_law
    and_intros
    have h3 := hi i List.mem_cons_self
    rw [List.length_cons] at hm
    obtain ⟨most, hat, hmo⟩ : ∃ most : Nat, atI [D.int 5, D.int 5, D.int 12] (i : Nat) = some (.int (most : Nat)) ∧ 0 < most ∧ most ≤ 12 := by
      have : i = 0 ∨ i = 1 ∨ i = 2 := by omega
      rcases this with rfl | rfl | rfl
      · exact ⟨5, rfl, by decide, by decide⟩
      · exact ⟨5, rfl, by decide, by decide⟩
      · exact ⟨12, rfl, by decide, by decide⟩
    refine ⟨by decide, _, hat, ?_⟩
    and_intros
    refine ⟨m, a, ds2, .sum, most, 60, 3, rfl, hj2, by omega, hmo.1, by omega, by decide, by decide, by decide, fun S ps ds3 fin hS h0 hSl hpr hps hpl h3n hj3 => ?_⟩
    and_intros
    have hR := ShR.few hS h0 (by omega) hpr hps hpl
    have hsl := stx_few hR hpr hps hpl h3n
    refine ⟨S, ps, rfl, hR, fun fin => ⟨.inl rfl, True.intro, ?_⟩⟩
    and_intros
    generalize stx S ps = x at hsl
    unfold k3_law
    and_intros
    rw [show rgD 0 25 = nD (List.range 25) from rgD_nat 25]
    refine ⟨by show small62 25; unfold small62; decide, ?_⟩
    refine for_ind (fun i : Nat => D.int (i : Nat)) (fun js env => ∃ (m2 : Nat) (ds2 : List D) (u4 u5 : Sl), env = [.ext (.fz (ns.map D.int)), .lst a ds2, .ext (.int (i : Nat)), .ext (.str x), u4, u5] ∧ JarOk m2 ds2 ∧ m2 + 100 * js.length ≤ m + 710000) ?_ ?_ (List.range 25) _ ⟨m + 700000, ds3, _, _, rfl, hj3, by rw [List.length_range]; omega⟩
    · rintro env ⟨m2, ds4, u4, u5, rfl, hj4, hm2⟩
      exact ⟨True.intro, hN _ ⟨m + 710000, ds4, _, _, _, _, rfl, hj4.up (by rw [List.length_nil] at hm2; omega), by omega, fun j hj => hi j (List.mem_cons_of_mem _ hj)⟩⟩
    · rintro j js env N2 ⟨m2, ds4, u4, u5, rfl, hj4, hm2⟩ hN2
      rw [List.length_cons] at hm2
      refine ⟨True.intro, ?_⟩
      unfold b2_law
      and_intros
      refine ⟨m2, a, ds4, x, rfl, hj4, by omega, hsl, fun z ds5 fin hz hj5 => ?_⟩
      and_intros
      unfold k1_law
      and_intros
      refine ⟨z, rfl, hz, fun b1 fin => ⟨.inl rfl, True.intro, ?_⟩⟩
      and_intros
      refine ⟨z, rfl, hz, fun b2 fin => ⟨.inl rfl, True.intro, ?_⟩⟩
      and_intros
      refine ⟨_, rfl, pl_rD fun W e => readR_ok W0_ok e, fun fin => ⟨.inr rfl, True.intro, ?_⟩⟩
      and_intros
      rw [if_neg (by decide)]
      exact hN2 _ ⟨_, _, _, _, rfl, hj5, by omega⟩
end RF
end WD
end LS
namespace LS.WD.RF.K56.E
open PySem L2 HD PM
open K02 (t_law_sheet m_law_sheet sp_law_sheet)
open K01 (t_product m_product sp_product)
abbrev N_product : List Str := ["numbers", "found", "number"]
abbrev P_product : List Str := ["numbers"]
theorem sc_product : FnScope N_product P_product (defScope s_product) := ⟨rfl, rfl, rfl, by decide +kernel, rfl, by decide +kernel, by decide +kernel⟩
theorem d_product {G : GG} (B : Blt G) : DSs G N_product (fnS (defScope s_product)) 0 (defBody s_product) t_product :=
    (dss_cons (ds_setE 1 de_int)
    (dss_cons (ds_for (di_seq (de_var 0)) (dg_name 2) (dss_one (ds_setE 1 (de_mul (de_var 1) (de_var 2)))))
    (dss_one (ds_ret (de_var 1)))))
abbrev N_number_of : List Str := ["word", "most", "figures", "figure"]
abbrev P_number_of : List Str := ["word", "most"]
theorem sc_number_of : FnScope N_number_of P_number_of (defScope s_number_of) := ⟨rfl, rfl, rfl, by decide +kernel, rfl, by decide +kernel, by decide +kernel⟩
theorem d_number_of {G : GG} (B : Blt G) (z_FIGURES : ∃ t, G.mg "FIGURES" = some (.str "0123456789" t)) : DSs G N_number_of (fnS (defScope s_number_of)) 0 (defBody s_number_of) t_number_of :=
    (dss_cons (ds_setE 2 (de_if (dt_cmp c_eq (de_sliceS (de_var 0) do_none (do_some de_int)) de_str) (de_sliceS (de_var 0) (do_some de_int) do_none) (de_var 0)))
    (dss_cons (ds_if (DWe.te (dw_or (dt_not (dt_chain c_le c_le de_int (de_cb b_len B.len (da_cons (de_var 2) da_nil)) (de_var 1))) (dw_or1 (dt_not (dt_val (de_cb b_all B.all (da_cons (de_lc [(Str.ofString "figure", 3)] (di_signs (de_var 2)) (by decide +kernel) (dg_name 3) dtl_nil (de_cmp c_inSg (de_var 3) (de_gstr z_FIGURES))) da_nil))))))) (dss_one (ds_ret de_non)) dss_nil)
    (dss_cons (ds_if (DWe.te (dw_and (dt_cmp c_eq (de_ix (de_var 2) de_int) de_str) (dw_and1 (dt_cmp c_ne (de_var 0) de_str)))) (dss_one (ds_ret de_non)) dss_nil)
    (dss_one (ds_ret (de_ct t_intS B.int (da_cons (de_var 0) da_nil)))))))
abbrev N_Words_init : List Str := ["self"]
abbrev P_Words_init : List Str := ["self"]
theorem sc_Words_init : FnScope N_Words_init P_Words_init (defScope s_Words_init) := ⟨rfl, rfl, rfl, by decide +kernel, rfl, by decide +kernel, by decide +kernel⟩
theorem d_Words_init {G : GG} (B : Blt G) (c_Words_names : ClsF G "Words" "names") (c_Words_parts : ClsF G "Words" "parts") (c_Words_place : ClsF G "Words" "place") (c_Words_sizes : ClsF G "Words" "sizes") (c_Words_worths : ClsF G "Words" "worths") : DSs G N_Words_init (fnS (defScope s_Words_init)) 0 (defBody s_Words_init) t_Words_init :=
    (dss_cons (ds_attr (c0 := "Words") (f := "sizes") (de_varR 0) (de_lst da_nil) c_Words_sizes)
    (dss_cons (ds_attr (c0 := "Words") (f := "parts") (de_varR 0) (de_lst da_nil) c_Words_parts)
    (dss_cons (ds_attr (c0 := "Words") (f := "names") (de_varR 0) (de_lst da_nil) c_Words_names)
    (dss_cons (ds_attr (c0 := "Words") (f := "worths") (de_varR 0) (de_lst da_nil) c_Words_worths)
    (dss_one (ds_attr (c0 := "Words") (f := "place") (de_varR 0) de_str c_Words_place))))))
abbrev N_Words_left : List Str := ["self", "part"]
abbrev P_Words_left : List Str := ["self"]
theorem sc_Words_left : FnScope N_Words_left P_Words_left (defScope s_Words_left) := ⟨rfl, rfl, rfl, by decide +kernel, rfl, by decide +kernel, by decide +kernel⟩
theorem d_Words_left {G : GG} (B : Blt G) (c_Words_parts : ClsF G "Words" "parts") (k_MOST_WORTHS : ∃ t, G.mg "MOST_WORTHS" = some (.int 2000 t)) : DSs G N_Words_left (fnS (defScope s_Words_left)) 0 (defBody s_Words_left) t_Words_left :=
    (dss_one (ds_ret (de_sub (de_gint k_MOST_WORTHS) (de_cb b_sum B.sum (da_cons (de_lc [(Str.ofString "part", 1)] (di_seq (de_attr (c0 := "Words") (f := "parts") (de_varR 0) c_Words_parts)) (by decide +kernel) (dg_name 1) dtl_nil (de_cb b_len B.len (da_cons (de_ix (de_var 1) de_int) da_nil))) da_nil)))))
abbrev N_Words_close : List Str := ["self"]
abbrev P_Words_close : List Str := ["self"]
theorem sc_Words_close : FnScope N_Words_close P_Words_close (defScope s_Words_close) := ⟨rfl, rfl, rfl, by decide +kernel, rfl, by decide +kernel, by decide +kernel⟩
theorem d_Words_close {G : GG} (B : Blt G) (c_Words_names : ClsF G "Words" "names") (c_Words_parts : ClsF G "Words" "parts") (c_Words_place : ClsF G "Words" "place") (c_Words_worths : ClsF G "Words" "worths") : DSs G N_Words_close (fnS (defScope s_Words_close)) 0 (defBody s_Words_close) t_Words_close :=
    (dss_one (ds_if (dt_cmp c_eq (de_attr (c0 := "Words") (f := "place") (de_varR 0) c_Words_place) de_str) (dss_one (ds_expr (de_appR (de_attr (c0 := "Words") (f := "parts") (de_varR 0) c_Words_parts) (de_tup (da_cons (de_ct t_tuple B.tuple (da_cons (de_attr (c0 := "Words") (f := "names") (de_varR 0) c_Words_names) da_nil)) (da_cons (de_ct t_tuple B.tuple (da_cons (de_attr (c0 := "Words") (f := "worths") (de_varR 0) c_Words_worths) da_nil)) da_nil)))))) dss_nil))
abbrev N_law_jar : List Str := ["script"]
abbrev P_law_jar : List Str := ["script"]
theorem sc_law_jar : FnScope N_law_jar P_law_jar (defScope s_law_jar) := ⟨rfl, rfl, rfl, by decide +kernel, rfl, by decide +kernel, by decide +kernel⟩
theorem d_law_jar {G : GG} (B : Blt G) : DSs G N_law_jar (fnS (defScope s_law_jar)) 0 (defBody s_law_jar) t_law_jar :=
    (dss_one (ds_ret (de_lst (da_cons (de_ct t_list B.list (da_cons (de_slice (de_var 0) do_none (do_some de_int)) da_nil)) (da_cons de_int (da_cons de_int da_nil))))))
abbrev N_law_prime : List Str := ["at", "some"]
abbrev P_law_prime : List Str := ["at"]
theorem sc_law_prime : FnScope N_law_prime P_law_prime (defScope s_law_prime) := ⟨rfl, rfl, rfl, by decide +kernel, rfl, by decide +kernel, by decide +kernel⟩
theorem d_law_prime {G : GG} (B : Blt G) : DSs G N_law_prime (fnS (defScope s_law_prime)) 0 (defBody s_law_prime) t_law_prime :=
    (dss_cons (ds_setE 1 (de_lst (da_cons de_int (da_cons de_int (da_cons de_int (da_cons de_int (da_cons de_int (da_cons de_int (da_cons de_int (da_cons de_int da_nil))))))))))
    (dss_one (ds_ret (de_ix (de_add (de_var 1) (de_lst (da_cons de_int (da_cons de_int (da_cons de_int da_nil))))) (de_mod (de_var 0) de_int)))))
abbrev N_law_times : List Str := ["numbers", "found", "number"]
abbrev P_law_times : List Str := ["numbers"]
theorem sc_law_times : FnScope N_law_times P_law_times (defScope s_law_times) := ⟨rfl, rfl, rfl, by decide +kernel, rfl, by decide +kernel, by decide +kernel⟩
theorem d_law_times {G : GG} (B : Blt G) : DSs G N_law_times (fnS (defScope s_law_times)) 0 (defBody s_law_times) t_law_times :=
    (dss_cons (ds_setE 1 de_int)
    (dss_cons (ds_for (di_seq (de_var 0)) (dg_name 2) (dss_one (ds_setE 1 (de_mul (de_var 1) (de_var 2)))))
    (dss_one (ds_ret (de_var 1)))))
abbrev N_law_class : List Str := ["caught", "kinds", "some"]
abbrev P_law_class : List Str := ["caught"]
theorem sc_law_class : FnScope N_law_class P_law_class (defScope s_law_class) := ⟨rfl, rfl, rfl, by decide +kernel, rfl, by decide +kernel, by decide +kernel⟩
theorem d_law_class {G : GG} (B : Blt G) {cs : List Str} (g_NoBack : G.mg "NoBack" = some (clsV G.K "NoBack")) (g_NoBag : G.mg "NoBag" = some (clsV G.K "NoBag")) (g_NoDeeds : G.mg "NoDeeds" = some (clsV G.K "NoDeeds")) (g_NoFilling : G.mg "NoFilling" = some (clsV G.K "NoFilling")) (g_NoName : G.mg "NoName" = some (clsV G.K "NoName")) (g_NoNumber : G.mg "NoNumber" = some (clsV G.K "NoNumber")) (g_NoOffers : G.mg "NoOffers" = some (clsV G.K "NoOffers")) (g_NoPart : G.mg "NoPart" = some (clsV G.K "NoPart")) (g_NoRow : G.mg "NoRow" = some (clsV G.K "NoRow")) (g_NoText : G.mg "NoText" = some (clsV G.K "NoText")) (g_NoTree : G.mg "NoTree" = some (clsV G.K "NoTree")) (g_NoWeights : G.mg "NoWeights" = some (clsV G.K "NoWeights")) (g_NoWorths : G.mg "NoWorths" = some (clsV G.K "NoWorths")) (g_TooMany : G.mg "TooMany" = some (clsV G.K "TooMany")) (b_ValueError : G.mg "ValueError" = none) (hXI : XIs G.K (xtabN cs)) : DSs G N_law_class (fnS (defScope s_law_class)) 0 (defBody s_law_class) (t_law_class cs) :=
    (dss_cons (ds_setE 1 (de_lst (da_cons (de_isX hXI B.isinstance (da_cons (de_var 0) (da_cons (de_glo g_NoFilling) da_nil))) (da_cons (de_isX hXI B.isinstance (da_cons (de_var 0) (da_cons (de_glo g_NoName) da_nil))) (da_cons (de_isX hXI B.isinstance (da_cons (de_var 0) (da_cons (de_glo g_TooMany) da_nil))) da_nil)))))
    (dss_cons (ds_setE 1 (de_add (de_var 1) (de_lst (da_cons (de_isX hXI B.isinstance (da_cons (de_var 0) (da_cons (de_glo g_NoDeeds) da_nil))) (da_cons (de_isX hXI B.isinstance (da_cons (de_var 0) (da_cons (de_glo g_NoOffers) da_nil))) (da_cons (de_isX hXI B.isinstance (da_cons (de_var 0) (da_cons (de_glo g_NoTree) da_nil))) da_nil))))))
    (dss_cons (ds_setE 1 (de_add (de_var 1) (de_lst (da_cons (de_isX hXI B.isinstance (da_cons (de_var 0) (da_cons (de_glo g_NoBag) da_nil))) (da_cons (de_isX hXI B.isinstance (da_cons (de_var 0) (da_cons (de_glo g_NoPart) da_nil))) (da_cons (de_isX hXI B.isinstance (da_cons (de_var 0) (da_cons (de_glo g_NoWorths) da_nil))) da_nil))))))
    (dss_cons (ds_setE 1 (de_add (de_var 1) (de_lst (da_cons (de_isX hXI B.isinstance (da_cons (de_var 0) (da_cons (de_glo g_NoBack) da_nil))) (da_cons (de_isX hXI B.isinstance (da_cons (de_var 0) (da_cons (de_glo g_NoWeights) da_nil))) (da_cons (de_isX hXI B.isinstance (da_cons (de_var 0) (da_cons (de_glo g_NoNumber) da_nil))) da_nil))))))
    (dss_cons (ds_setE 1 (de_add (de_var 1) (de_lst (da_cons (de_isX hXI B.isinstance (da_cons (de_var 0) (da_cons (de_glo g_NoRow) da_nil))) (da_cons (de_isX hXI B.isinstance (da_cons (de_var 0) (da_cons (de_glo g_NoText) da_nil))) da_nil)))))
    (dss_cons (ds_if (DWe.te (dw_or (dt_cmp c_ne (de_count (de_var 1) de_bl) de_int) (dw_or1 (dt_not (dt_val (de_isX hXI B.isinstance (da_cons (de_var 0) (da_cons (de_bltn (v := .ty "ValueError") rfl b_ValueError (by decide +kernel) rfl) da_nil)))))))) (dss_one (ds_ret de_str)) dss_nil)
    (dss_cons (ds_setE 2 de_str)
    (dss_one (ds_ret (de_ix (de_split (de_var 2) de_str) (de_index (de_var 1) de_bl)))))))))))
abbrev N_law_figures : List Str := ["word", "least", "most", "figures", "sign", "number"]
abbrev P_law_figures : List Str := ["word", "least", "most"]
theorem sc_law_figures : FnScope N_law_figures P_law_figures (defScope s_law_figures) := ⟨rfl, rfl, rfl, by decide +kernel, rfl, by decide +kernel, by decide +kernel⟩
theorem d_law_figures {G : GG} (B : Blt G) : DSs G N_law_figures (fnS (defScope s_law_figures)) 0 (defBody s_law_figures) t_law_figures :=
    (dss_cons (ds_setE 3 (de_if (dt_cmp c_eq (de_sliceS (de_var 0) do_none (do_some de_int)) de_str) (de_sliceS (de_var 0) (do_some de_int) do_none) (de_var 0)))
    (dss_cons (ds_if (DWe.te (dw_or (dt_cmp c_eq (de_var 3) de_str) (dw_or1 (dt_cmp c_gt (de_cb b_len B.len (da_cons (de_var 3) da_nil)) de_int)))) (dss_one (ds_ret de_non)) dss_nil)
    (dss_cons (ds_if (dt_cmp c_gt (de_cb b_len B.len (da_cons (de_lc [(Str.ofString "sign", 4)] (di_signs (de_var 3)) (by decide +kernel) (dg_name 4) (dtl_one (dt_cmp c_notinSg (de_var 4) de_str)) (de_var 4)) da_nil)) de_int) (dss_one (ds_ret de_non)) dss_nil)
    (dss_cons (ds_if (DWe.te (dw_and (dt_cmp c_eq (de_ix (de_var 3) de_int) de_str) (dw_and1 (dt_cmp c_ne (de_var 0) de_str)))) (dss_one (ds_ret de_non)) dss_nil)
    (dss_cons (ds_setE 5 de_int)
    (dss_cons (ds_for (di_signs (de_var 3)) (dg_name 4) (dss_one (ds_setE 5 (de_add (de_mul de_int (de_var 5)) (de_sindex de_str (de_var 4))))))
    (dss_cons (ds_setE 5 (de_if (dt_cmp c_eq (de_sliceS (de_var 0) do_none (do_some de_int)) de_str) (de_sub de_int (de_var 5)) (de_var 5)))
    (dss_one (ds_ret (de_if (dt_chain c_le c_le (de_var 1) (de_var 5) (de_var 2)) (de_var 5) de_non))))))))))
abbrev N_law_text : List Str := ["sheet", "found", "size", "names", "worths", "name", "worth"]
abbrev P_law_text : List Str := ["sheet"]
theorem sc_law_text : FnScope N_law_text P_law_text (defScope s_law_text) := ⟨rfl, rfl, rfl, by decide +kernel, rfl, by decide +kernel, by decide +kernel⟩
theorem d_law_text {G : GG} (B : Blt G) : DSs G N_law_text (fnS (defScope s_law_text)) 0 (defBody s_law_text) t_law_text :=
    (dss_cons (ds_set 1 (de_lst (da_cons (de_join de_str (de_lc [(Str.ofString "size", 2)] (di_seq (de_ix (de_var 0) de_int)) (by decide +kernel) (dg_name 2) dtl_nil (de_ct t_str B.str (da_cons (de_var 2) da_nil)))) da_nil)))
    (dss_cons (ds_for (di_seq (de_ix (de_var 0) de_int)) (dg_tup (dgs_cons (dg_name 3) (dgs_cons (dg_name 4) dgs_nil))) (dss_one (ds_expr (de_append 1 (de_join de_str (de_add (de_add (de_lc [(Str.ofString "name", 5)] (di_seq (de_var 3)) (by decide +kernel) (dg_name 5) dtl_nil (de_ct t_str B.str (da_cons (de_var 5) da_nil))) (de_lst (da_cons de_str da_nil))) (de_lc [(Str.ofString "worth", 6)] (di_seq (de_var 4)) (by decide +kernel) (dg_name 6) dtl_nil (de_ct t_str B.str (da_cons (de_var 6) da_nil)))))))))
    (dss_one (ds_ret (de_join de_str (de_var 1))))))
abbrev N_Words_due : List Str := ["self", "name"]
abbrev P_Words_due : List Str := ["self"]
theorem sc_Words_due : FnScope N_Words_due P_Words_due (defScope s_Words_due) := ⟨rfl, rfl, rfl, by decide +kernel, rfl, by decide +kernel, by decide +kernel⟩
theorem d_Words_due {G : GG} (B : Blt G) (h_product : Def G 1 "product" 1 sp_product) (c_Words_names : ClsF G "Words" "names") (c_Words_sizes : ClsF G "Words" "sizes") : DSs G N_Words_due (fnS (defScope s_Words_due)) 1 (defBody s_Words_due) t_Words_due :=
    (dss_one (ds_ret (de_call h_product (da_cons (de_lc [(Str.ofString "name", 1)] (di_seq (de_attr (c0 := "Words") (f := "names") (de_varR 0) c_Words_names)) (by decide +kernel) (dg_name 1) dtl_nil (de_ixR (de_attr (c0 := "Words") (f := "sizes") (de_varR 0) c_Words_sizes) (de_var 1))) da_nil))))
abbrev N_Words_take_size : List Str := ["self", "number"]
abbrev P_Words_take_size : List Str := ["self", "number"]
theorem sc_Words_take_size : FnScope N_Words_take_size P_Words_take_size (defScope s_Words_take_size) := ⟨rfl, rfl, rfl, by decide +kernel, rfl, by decide +kernel, by decide +kernel⟩
theorem d_Words_take_size {G : GG} (B : Blt G) (h_product : Def G 1 "product" 1 sp_product) (c_Words_sizes : ClsF G "Words" "sizes") (k_MOST_FILLINGS : ∃ t, G.mg "MOST_FILLINGS" = some (.int 4000 t)) (k_MOST_NAMES : ∃ t, G.mg "MOST_NAMES" = some (.int 12 t)) (k_MOST_SIZE : ∃ t, G.mg "MOST_SIZE" = some (.int 4 t)) : DSs G N_Words_take_size (fnS (defScope s_Words_take_size)) 1 (defBody s_Words_take_size) t_Words_take_size :=
    (dss_cons (ds_if (DWe.te (dw_or (dt_cmp c_is (de_var 1) de_non) (dw_or (dt_not (dt_chain c_le c_le de_int (de_var 1) (de_gint k_MOST_SIZE))) (dw_or1 (dt_cmp c_eq (de_cb b_len B.len (da_cons (de_attr (c0 := "Words") (f := "sizes") (de_varR 0) c_Words_sizes) da_nil)) (de_gint k_MOST_NAMES)))))) (dss_one (ds_ret de_bl)) dss_nil)
    (dss_cons (ds_if (dt_cmp c_gt (de_mul (de_call h_product (da_cons (de_attr (c0 := "Words") (f := "sizes") (de_varR 0) c_Words_sizes) da_nil)) (de_var 1)) (de_gint k_MOST_FILLINGS)) (dss_one (ds_ret de_bl)) dss_nil)
    (dss_cons (ds_expr (de_appR (de_attr (c0 := "Words") (f := "sizes") (de_varR 0) c_Words_sizes) (de_var 1)))
    (dss_one (ds_ret de_bl)))))
abbrev N_law_dip : List Str := ["jar", "many", "at", "cell", "one", "two", "three", "found"]
abbrev P_law_dip : List Str := ["jar", "many"]
theorem sc_law_dip : FnScope N_law_dip P_law_dip (defScope s_law_dip) := ⟨rfl, rfl, rfl, by decide +kernel, rfl, by decide +kernel, by decide +kernel⟩
theorem d_law_dip {G : GG} (B : Blt G) (h_law_prime : Def G 1 "_law_prime" 1 sp_law_prime) : DSs G N_law_dip (fnS (defScope s_law_dip)) 1 (defBody s_law_dip) t_law_dip :=
    (dss_cons (ds_if (dt_cmp c_lt (de_ix (de_var 0) de_int) (de_var 1)) (dss_cons (ds_setE 2 (de_ix (de_var 0) de_int))
    (dss_cons (ds_setitem 0 de_int (de_add (de_var 2) de_int))
    (dss_cons (ds_setE 3 (de_add (de_mul de_int (de_var 2)) de_int))
    (dss_cons (ds_if (dt_cmp c_gt (de_cb b_len B.len (da_cons (de_ix (de_var 0) de_int) da_nil)) de_int) (dss_one (ds_setE 3 (de_ix (de_ix (de_var 0) de_int) (de_mod (de_var 2) (de_cb b_len B.len (da_cons (de_ix (de_var 0) de_int) da_nil)))))) dss_nil)
    (dss_cons (ds_setitem 0 de_int (de_var 3))
    (dss_one (ds_if (DWe.te (dw_or (dt_cmp c_lt (de_var 3) (de_pow de_int de_int)) (dw_or1 (dt_cmp c_ge (de_var 2) (de_cb b_len B.len (da_cons (de_ix (de_var 0) de_int) da_nil)))))) (dss_cons (ds_setE 4 (de_mod (de_pow (de_add (de_add (de_mul (de_mod (de_var 3) de_int) (de_add (de_var 2) de_int)) (de_mul de_int (de_var 2))) de_int) de_int) (de_call h_law_prime (da_cons (de_var 2) da_nil))))
    (dss_cons (ds_setE 5 (de_mod (de_pow (de_add (de_add (de_mul (de_var 4) (de_add (de_var 2) de_int)) (de_mod (de_var 3) de_int)) de_int) de_int) (de_call h_law_prime (da_cons (de_add (de_var 2) de_int) da_nil))))
    (dss_cons (ds_setE 6 (de_mod (de_add (de_mul (de_var 5) (de_var 5)) (de_var 4)) (de_call h_law_prime (da_cons (de_add (de_var 2) de_int) da_nil))))
    (dss_one (ds_setitem 0 de_int (de_add (de_mul (de_add (de_mul (de_var 6) de_int) (de_var 5)) de_int) (de_var 4))))))) dss_nil))))))) dss_nil)
    (dss_cons (ds_setE 7 (de_mod (de_ix (de_var 0) de_int) (de_var 1)))
    (dss_cons (ds_setitem 0 de_int (de_div (de_ix (de_var 0) de_int) (de_var 1)))
    (dss_one (ds_ret (de_var 7))))))
abbrev N_law_step : List Str := ["seen", "word", "sizes", "parts", "names", "worths", "due", "name", "made", "full", "part", "number", "left", "least"]
abbrev P_law_step : List Str := ["seen", "word"]
theorem sc_law_step : FnScope N_law_step P_law_step (defScope s_law_step) := ⟨rfl, rfl, rfl, by decide +kernel, rfl, by decide +kernel, by decide +kernel⟩
theorem d_law_step {G : GG} (B : Blt G) (h_law_figures : Def G 1 "_law_figures" 3 sp_law_figures) (h_law_times : Def G 1 "_law_times" 1 sp_law_times) : DSs G N_law_step (fnS (defScope s_law_step)) 1 (defBody s_law_step) t_law_step :=
    (dss_cons (ds_asg (de_var 0) (dg_tup (dgs_cons (dg_name 2) (dgs_cons (dg_name 3) (dgs_cons (dg_name 4) (dgs_cons (dg_name 5) dgs_nil))))))
    (dss_cons (ds_setE 6 (de_if (dt_cmp c_is (de_var 4) de_non) de_int (de_call h_law_times (da_cons (de_lc [(Str.ofString "name", 7)] (di_seq (de_var 4)) (by decide +kernel) (dg_name 7) dtl_nil (de_ix (de_var 2) (de_var 7))) da_nil))))
    (dss_cons (ds_if (DWe.te (dw_or (dt_cmp c_is (de_var 4) de_non) (dw_or1 (DWe.te (dw_and (dt_cmp c_isnot (de_var 5) de_non) (dw_and1 (dt_cmp c_eq (de_cb b_len B.len (da_cons (de_var 5) da_nil)) (de_var 6)))))))) (dss_cons (ds_if (dt_cmp c_eq (de_var 1) de_str) (dss_cons (ds_setE 8 (de_var 3))
    (dss_cons (ds_if (dt_cmp c_isnot (de_var 4) de_non) (dss_one (ds_setE 8 (de_add (de_var 3) (de_lst (da_cons (de_tup (da_cons (de_ct t_tuple B.tuple (da_cons (de_var 4) da_nil)) (da_cons (de_ct t_tuple B.tuple (da_cons (de_var 5) da_nil)) da_nil))) da_nil))))) dss_nil)
    (dss_cons (ds_setE 9 (de_cmp c_eq (de_cb b_sum B.sum (da_cons (de_lc [(Str.ofString "part", 10)] (di_seq (de_var 8)) (by decide +kernel) (dg_name 10) dtl_nil (de_cb b_len B.len (da_cons (de_ix (de_var 10) de_int) da_nil))) da_nil)) de_int))
    (dss_cons (ds_setE 9 (de_or (de_var 9) (de_or (de_cmp c_eq (de_cb b_len B.len (da_cons (de_var 8) da_nil)) de_int) (de_one (de_cmp c_eq (de_cb b_len B.len (da_cons (de_var 2) da_nil)) de_int)))))
    (dss_one (ds_ret (de_if (dt_val (de_var 9)) de_non (de_tup (da_cons (de_var 2) (da_cons (de_var 8) (da_cons (de_lst da_nil) (da_cons de_non da_nil)))))))))))) dss_nil)
    (dss_cons (ds_setE 11 (de_if (dt_cmp c_is (de_var 4) de_non) (de_call h_law_figures (da_cons (de_var 1) (da_cons de_int (da_cons de_int da_nil)))) de_non))
    (dss_cons (ds_if (DWe.te (dw_or (dt_cmp c_is (de_var 11) de_non) (dw_or (dt_cmp c_eq (de_cb b_len B.len (da_cons (de_var 2) da_nil)) de_int) (dw_or1 (dt_cmp c_gt (de_mul (de_call h_law_times (da_cons (de_var 2) da_nil)) (de_var 11)) de_int))))) (dss_one (ds_ret de_non)) dss_nil)
    (dss_one (ds_ret (de_tup (da_cons (de_add (de_var 2) (de_lst (da_cons (de_var 11) da_nil))) (da_cons (de_var 3) (da_cons de_non (da_cons de_non da_nil)))))))))) dss_nil)
    (dss_cons (ds_setE 12 (de_sub de_int (de_cb b_sum B.sum (da_cons (de_lc [(Str.ofString "part", 10)] (di_seq (de_var 3)) (by decide +kernel) (dg_name 10) dtl_nil (de_cb b_len B.len (da_cons (de_ix (de_var 10) de_int) da_nil))) da_nil))))
    (dss_cons (ds_if (dt_cmp c_is (de_var 5) de_non) (dss_cons (ds_if (dt_cmp c_eq (de_var 1) de_str) (dss_one (ds_ret (de_tup (da_cons (de_var 2) (da_cons (de_var 3) (da_cons (de_var 4) (da_cons (de_lst da_nil) da_nil))))))) dss_nil)
    (dss_cons (ds_setE 13 (de_if (dt_cmp c_gt (de_cb b_len B.len (da_cons (de_var 4) da_nil)) de_int) (de_add (de_ix (de_var 4) (de_neg de_int)) de_int) de_int))
    (dss_cons (ds_setE 11 (de_call h_law_figures (da_cons (de_var 1) (da_cons (de_var 13) (da_cons (de_sub (de_cb b_len B.len (da_cons (de_var 2) da_nil)) de_int) da_nil)))))
    (dss_cons (ds_if (DWe.te (dw_or (dt_cmp c_is (de_var 11) de_non) (dw_or1 (dt_cmp c_gt (de_mul (de_var 6) (de_ix (de_var 2) (de_var 11))) (de_var 12))))) (dss_one (ds_ret de_non)) dss_nil)
    (dss_one (ds_ret (de_tup (da_cons (de_var 2) (da_cons (de_var 3) (da_cons (de_add (de_var 4) (de_lst (da_cons (de_var 11) da_nil))) (da_cons de_non da_nil))))))))))) dss_nil)
    (dss_cons (ds_setE 11 (de_call h_law_figures (da_cons (de_var 1) (da_cons (de_sub de_int (de_pow de_int de_int)) (da_cons (de_pow de_int de_int) da_nil)))))
    (dss_cons (ds_if (dt_cmp c_is (de_var 11) de_non) (dss_one (ds_ret de_non)) dss_nil)
    (dss_one (ds_ret (de_tup (da_cons (de_var 2) (da_cons (de_var 3) (da_cons (de_var 4) (da_cons (de_add (de_var 5) (de_lst (da_cons (de_var 11) da_nil))) da_nil))))))))))))))
abbrev N_Words_is_done : List Str := ["self"]
abbrev P_Words_is_done : List Str := ["self"]
theorem sc_Words_is_done : FnScope N_Words_is_done P_Words_is_done (defScope s_Words_is_done) := ⟨rfl, rfl, rfl, by decide +kernel, rfl, by decide +kernel, by decide +kernel⟩
theorem d_Words_is_done {G : GG} (B : Blt G) (h_Words_due : MDef G 2 "Words" "due" 1 sp_Words_due) (c_Words_place : ClsF G "Words" "place") (c_Words_sizes : ClsF G "Words" "sizes") (c_Words_worths : ClsF G "Words" "worths") : DSs G N_Words_is_done (fnS (defScope s_Words_is_done)) 2 (defBody s_Words_is_done) t_Words_is_done :=
    (dss_cons (ds_if (dt_cmp c_eq (de_attr (c0 := "Words") (f := "place") (de_varR 0) c_Words_place) de_str) (dss_one (ds_ret (de_cmp c_gt (de_cb b_len B.len (da_cons (de_attr (c0 := "Words") (f := "sizes") (de_varR 0) c_Words_sizes) da_nil)) de_int))) dss_nil)
    (dss_one (ds_ret (de_and (de_cmp c_eq (de_attr (c0 := "Words") (f := "place") (de_varR 0) c_Words_place) de_str) (de_one (de_cmp c_eq (de_cb b_len B.len (da_cons (de_attr (c0 := "Words") (f := "worths") (de_varR 0) c_Words_worths) da_nil)) (de_methX0 (c := "Words") (m := "due") [1] h_Words_due (de_varR 0))))))))
abbrev N_Words_take_name : List Str := ["self", "word", "number", "least"]
abbrev P_Words_take_name : List Str := ["self", "word", "number"]
theorem sc_Words_take_name : FnScope N_Words_take_name P_Words_take_name (defScope s_Words_take_name) := ⟨rfl, rfl, rfl, by decide +kernel, rfl, by decide +kernel, by decide +kernel⟩
theorem d_Words_take_name {G : GG} (B : Blt G) (h_Words_due : MDef G 2 "Words" "due" 1 sp_Words_due) (h_Words_left : MDef G 1 "Words" "left" 1 sp_Words_left) (c_Words_names : ClsF G "Words" "names") (c_Words_place : ClsF G "Words" "place") (c_Words_sizes : ClsF G "Words" "sizes") : DSs G N_Words_take_name (fnS (defScope s_Words_take_name)) 2 (defBody s_Words_take_name) t_Words_take_name :=
    (dss_cons (ds_if (dt_cmp c_eq (de_var 1) de_str) (dss_cons (ds_attr (c0 := "Words") (f := "place") (de_varR 0) de_str c_Words_place)
    (dss_one (ds_ret de_bl))) dss_nil)
    (dss_cons (ds_setE 3 (de_if (dt_cmp c_ne (de_attr (c0 := "Words") (f := "names") (de_varR 0) c_Words_names) (de_lst da_nil)) (de_add (de_ixR (de_attr (c0 := "Words") (f := "names") (de_varR 0) c_Words_names) (de_neg de_int)) de_int) de_int))
    (dss_cons (ds_if (DWe.te (dw_or (dt_cmp c_is (de_var 2) de_non) (dw_or (dt_not (dt_chain c_le c_lt (de_var 3) (de_var 2) (de_cb b_len B.len (da_cons (de_attr (c0 := "Words") (f := "sizes") (de_varR 0) c_Words_sizes) da_nil)))) (dw_or1 (dt_cmp c_gt (de_mul (de_methX0 (c := "Words") (m := "due") [1] h_Words_due (de_varR 0)) (de_ixR (de_attr (c0 := "Words") (f := "sizes") (de_varR 0) c_Words_sizes) (de_var 2))) (de_methX0 (c := "Words") (m := "left") [1] h_Words_left (de_varR 0))))))) (dss_one (ds_ret de_bl)) dss_nil)
    (dss_cons (ds_expr (de_appR (de_attr (c0 := "Words") (f := "names") (de_varR 0) c_Words_names) (de_var 2)))
    (dss_one (ds_ret de_bl))))))
abbrev N_Words_take_worth : List Str := ["self", "number"]
abbrev P_Words_take_worth : List Str := ["self", "number"]
theorem sc_Words_take_worth : FnScope N_Words_take_worth P_Words_take_worth (defScope s_Words_take_worth) := ⟨rfl, rfl, rfl, by decide +kernel, rfl, by decide +kernel, by decide +kernel⟩
theorem d_Words_take_worth {G : GG} (B : Blt G) (h_Words_due : MDef G 2 "Words" "due" 1 sp_Words_due) (c_Words_worths : ClsF G "Words" "worths") (k_MOST_WORTH : ∃ t, G.mg "MOST_WORTH" = some (.int 1000000000000 t)) : DSs G N_Words_take_worth (fnS (defScope s_Words_take_worth)) 2 (defBody s_Words_take_worth) t_Words_take_worth :=
    (dss_cons (ds_if (DWe.te (dw_or (dt_cmp c_is (de_var 1) de_non) (dw_or (dt_cmp c_eq (de_cb b_len B.len (da_cons (de_attr (c0 := "Words") (f := "worths") (de_varR 0) c_Words_worths) da_nil)) (de_methX0 (c := "Words") (m := "due") [1] h_Words_due (de_varR 0))) (dw_or1 (dt_not (dt_chain c_le c_le (de_sub de_int (de_gint k_MOST_WORTH)) (de_var 1) (de_gint k_MOST_WORTH))))))) (dss_one (ds_ret de_bl)) dss_nil)
    (dss_cons (ds_expr (de_appR (de_attr (c0 := "Words") (f := "worths") (de_varR 0) c_Words_worths) (de_var 1)))
    (dss_one (ds_ret de_bl))))
abbrev N_law_number : List Str := ["jar", "word", "way"]
abbrev P_law_number : List Str := ["jar", "word"]
theorem sc_law_number : FnScope N_law_number P_law_number (defScope s_law_number) := ⟨rfl, rfl, rfl, by decide +kernel, rfl, by decide +kernel, by decide +kernel⟩
theorem d_law_number {G : GG} (B : Blt G) (h_law_dip : Def G 2 "_law_dip" 2 sp_law_dip) : DSs G N_law_number (fnS (defScope s_law_number)) 2 (defBody s_law_number) t_law_number :=
    (dss_cons (ds_if (dt_cmp c_eq (de_var 1) de_str) (dss_one (ds_ret (de_callJ 0 h_law_dip (da_cons de_int da_nil)))) dss_nil)
    (dss_cons (ds_setE 2 (de_callJ 0 h_law_dip (da_cons de_int da_nil)))
    (dss_cons (ds_if (dt_cmp c_eq (de_var 2) de_int) (dss_one (ds_ret (de_ix (de_lst (da_cons (de_pow de_int de_int) (da_cons (de_sub de_int (de_pow de_int de_int)) (da_cons (de_sub (de_pow de_int de_int) de_int) (da_cons de_int da_nil))))) (de_callJ 0 h_law_dip (da_cons de_int da_nil))))) dss_nil)
    (dss_cons (ds_if (dt_cmp c_lt (de_var 2) de_int) (dss_one (ds_ret (de_sub (de_callJ 0 h_law_dip (da_cons de_int da_nil)) de_int))) dss_nil)
    (dss_one (ds_ret (de_sub (de_callJ 0 h_law_dip (da_cons de_int da_nil)) de_int)))))))
abbrev N_law_sizes : List Str := ["jar", "most", "roof", "found", "k", "size"]
abbrev P_law_sizes : List Str := ["jar", "most", "roof"]
theorem sc_law_sizes : FnScope N_law_sizes P_law_sizes (defScope s_law_sizes) := ⟨rfl, rfl, rfl, by decide +kernel, rfl, by decide +kernel, by decide +kernel⟩
theorem d_law_sizes {G : GG} (B : Blt G) (h_law_dip : Def G 2 "_law_dip" 2 sp_law_dip) (h_law_times : Def G 1 "_law_times" 1 sp_law_times) : DSs G N_law_sizes (fnS (defScope s_law_sizes)) 2 (defBody s_law_sizes) t_law_sizes :=
    (dss_cons (ds_set 3 (de_lst da_nil))
    (dss_cons (ds_for (di_range1 (da_cons (de_add de_int (de_callJ 0 h_law_dip (da_cons (de_var 1) da_nil))) da_nil) B.range) (dg_name 4) (dss_cons (ds_setE 5 (de_ix (de_lst (da_cons de_int (da_cons de_int (da_cons de_int (da_cons de_int (da_cons de_int da_nil)))))) (de_callJ 0 h_law_dip (da_cons de_int da_nil))))
    (dss_one (ds_expr (de_append 3 (de_if (dt_cmp c_le (de_mul (de_call h_law_times (da_cons (de_var 3) da_nil)) (de_var 5)) (de_var 2)) (de_var 5) de_int))))))
    (dss_one (ds_ret (de_ct t_tuple B.tuple (da_cons (de_var 3) da_nil))))))
abbrev N_law_some : List Str := ["jar", "many", "most", "left", "found", "k"]
abbrev P_law_some : List Str := ["jar", "many", "most"]
theorem sc_law_some : FnScope N_law_some P_law_some (defScope s_law_some) := ⟨rfl, rfl, rfl, by decide +kernel, rfl, by decide +kernel, by decide +kernel⟩
theorem d_law_some {G : GG} (B : Blt G) (h_law_dip : Def G 2 "_law_dip" 2 sp_law_dip) : DSs G N_law_some (fnS (defScope s_law_some)) 2 (defBody s_law_some) t_law_some :=
    (dss_cons (ds_set 3 (de_listRg (drg_1 (de_var 1) B.range) B.list))
    (dss_cons (ds_set 4 (de_lst da_nil))
    (dss_cons (ds_for (di_range1 (da_cons (de_callJ 0 h_law_dip (da_cons (de_add (de_var 2) de_int) da_nil)) da_nil) B.range) (dg_name 5) (dss_one (ds_if (dt_cmp c_gt (de_cb b_len B.len (da_cons (de_var 3) da_nil)) de_int) (dss_one (ds_expr (de_append 4 (de_popAt 3 (de_callJ 0 h_law_dip (da_cons (de_cb b_len B.len (da_cons (de_var 3) da_nil)) da_nil)))))) dss_nil)))
    (dss_one (ds_ret (de_ct t_tuple B.tuple (da_cons (de_cb b_sorted B.sorted (da_cons (de_var 4) da_nil)) da_nil)))))))
abbrev N_law_due : List Str := ["text", "words", "seen", "at", "sizes", "parts", "names", "worths", "due", "name"]
abbrev P_law_due : List Str := ["text"]
theorem sc_law_due : FnScope N_law_due P_law_due (defScope s_law_due) := ⟨rfl, rfl, rfl, by decide +kernel, rfl, by decide +kernel, by decide +kernel⟩
theorem d_law_due {G : GG} (B : Blt G) (h_law_step : Def G 2 "_law_step" 2 sp_law_step) (h_law_times : Def G 1 "_law_times" 1 sp_law_times) : DSs G N_law_due (fnS (defScope s_law_due)) 2 (defBody s_law_due) t_law_due :=
    (dss_cons (ds_setE 1 (de_split (de_var 0) de_str))
    (dss_cons (ds_setE 2 (de_tup (da_cons (de_lst da_nil) (da_cons (de_lst da_nil) (da_cons de_non (da_cons de_non da_nil))))))
    (dss_cons (ds_for (di_range1 (da_cons (de_cb b_len B.len (da_cons (de_var 1) da_nil)) da_nil) B.range) (dg_name 3) (dss_cons (ds_setE 2 (de_call h_law_step (da_cons (de_var 2) (da_cons (de_ix (de_var 1) (de_var 3)) da_nil))))
    (dss_one (ds_if (dt_cmp c_is (de_var 2) de_non) (dss_one (ds_ret (de_lst (da_cons de_str (da_cons (de_var 3) da_nil))))) dss_nil))))
    (dss_cons (ds_asg (de_var 2) (dg_tup (dgs_cons (dg_name 4) (dgs_cons (dg_name 5) (dgs_cons (dg_name 6) (dgs_cons (dg_name 7) dgs_nil))))))
    (dss_cons (ds_if (dt_cmp c_is (de_var 6) de_non) (dss_one (ds_ret (de_lst (da_cons de_str (da_cons (de_tup (da_cons (de_ct t_tuple B.tuple (da_cons (de_var 4) da_nil)) (da_cons (de_ct t_tuple B.tuple (da_cons (de_var 5) da_nil)) da_nil))) da_nil))))) dss_nil)
    (dss_cons (ds_setE 8 (de_call h_law_times (da_cons (de_lc [(Str.ofString "name", 9)] (di_seq (de_var 6)) (by decide +kernel) (dg_name 9) dtl_nil (de_ix (de_var 4) (de_var 9))) da_nil)))
    (dss_cons (ds_if (DWe.te (dw_or (dt_cmp c_is (de_var 7) de_non) (dw_or1 (dt_cmp c_lt (de_cb b_len B.len (da_cons (de_var 7) da_nil)) (de_var 8))))) (dss_one (ds_ret (de_lst (da_cons de_str (da_cons (de_cb b_len B.len (da_cons (de_var 1) da_nil)) da_nil))))) dss_nil)
    (dss_cons (ds_setE 5 (de_add (de_var 5) (de_lst (da_cons (de_tup (da_cons (de_ct t_tuple B.tuple (da_cons (de_var 6) da_nil)) (da_cons (de_ct t_tuple B.tuple (da_cons (de_var 7) da_nil)) da_nil))) da_nil))))
    (dss_one (ds_ret (de_lst (da_cons de_str (da_cons (de_tup (da_cons (de_ct t_tuple B.tuple (da_cons (de_var 4) da_nil)) (da_cons (de_ct t_tuple B.tuple (da_cons (de_var 5) da_nil)) da_nil))) da_nil)))))))))))))
abbrev N_law_bent_words : List Str := ["jar", "words", "way", "at", "odd", "other"]
abbrev P_law_bent_words : List Str := ["jar", "words"]
theorem sc_law_bent_words : FnScope N_law_bent_words P_law_bent_words (defScope s_law_bent_words) := ⟨rfl, rfl, rfl, by decide +kernel, rfl, by decide +kernel, by decide +kernel⟩
theorem d_law_bent_words {G : GG} (B : Blt G) (h_law_dip : Def G 2 "_law_dip" 2 sp_law_dip) : DSs G N_law_bent_words (fnS (defScope s_law_bent_words)) 2 (defBody s_law_bent_words) t_law_bent_words :=
    (dss_cons (ds_par 2 3 (da_cons (de_callJ 0 h_law_dip (da_cons de_int da_nil)) (da_cons (de_callJ 0 h_law_dip (da_cons (de_cb b_len B.len (da_cons (de_var 1) da_nil)) da_nil)) da_nil)))
    (dss_cons (ds_setE 4 (de_lst (da_cons de_str (da_cons de_str (da_cons de_str (da_cons de_str (da_cons de_str (da_cons de_str (da_cons de_str (da_cons de_str (da_cons de_str (da_cons de_str (da_cons de_str (da_cons de_str (da_cons de_str (da_cons de_str (da_cons de_str (da_cons de_str (da_cons de_str (da_cons de_str da_nil))))))))))))))))))))
    (dss_cons (ds_setE 4 (de_add (de_var 4) (de_lst (da_cons de_str (da_cons de_str da_nil)))))
    (dss_cons (ds_setE 4 (de_add (de_var 4) (de_lst (da_cons de_str (da_cons de_str (da_cons de_str (da_cons de_str (da_cons de_str (da_cons (de_mulN de_str de_int) (da_cons de_str da_nil))))))))))
    (dss_cons (ds_setE 5 (de_ix (de_var 4) (de_callJ 0 h_law_dip (da_cons de_int da_nil))))
    (dss_cons (ds_if (dt_cmp c_eq (de_var 2) de_int) (dss_one (ds_ret (de_add (de_slice (de_var 1) do_none (do_some (de_var 3))) (de_slice (de_var 1) (do_some (de_add (de_var 3) de_int)) do_none)))) dss_nil)
    (dss_cons (ds_if (dt_cmp c_eq (de_var 2) de_int) (dss_one (ds_ret (de_add (de_add (de_slice (de_var 1) do_none (do_some (de_var 3))) (de_lst (da_cons (de_var 5) da_nil))) (de_slice (de_var 1) (do_some (de_var 3)) do_none)))) dss_nil)
    (dss_cons (ds_if (dt_cmp c_eq (de_var 2) de_int) (dss_one (ds_ret (de_add (de_add (de_slice (de_var 1) do_none (do_some (de_var 3))) (de_slice (de_var 1) (do_some (de_var 3)) (do_some (de_add (de_var 3) de_int)))) (de_slice (de_var 1) (do_some (de_var 3)) do_none)))) dss_nil)
    (dss_cons (ds_if (dt_cmp c_eq (de_var 2) de_int) (dss_one (ds_ret (de_slice (de_var 1) do_none (do_some (de_add (de_var 3) de_int))))) dss_nil)
    (dss_one (ds_ret (de_add (de_add (de_slice (de_var 1) do_none (do_some (de_var 3))) (de_lst (da_cons (de_var 5) da_nil))) (de_slice (de_var 1) (do_some (de_add (de_var 3) de_int)) do_none)))))))))))))
abbrev N_Words_take_stroke : List Str := ["self"]
abbrev P_Words_take_stroke : List Str := ["self"]
theorem sc_Words_take_stroke : FnScope N_Words_take_stroke P_Words_take_stroke (defScope s_Words_take_stroke) := ⟨rfl, rfl, rfl, by decide +kernel, rfl, by decide +kernel, by decide +kernel⟩
theorem d_Words_take_stroke {G : GG} (B : Blt G) (h_Words_close : MDef G 1 "Words" "close" 1 sp_Words_close) (h_Words_is_done : MDef G 3 "Words" "is_done" 1 sp_Words_is_done) (h_Words_left : MDef G 1 "Words" "left" 1 sp_Words_left) (c_Words_names : ClsF G "Words" "names") (c_Words_parts : ClsF G "Words" "parts") (c_Words_place : ClsF G "Words" "place") (c_Words_worths : ClsF G "Words" "worths") (k_MOST_PARTS : ∃ t, G.mg "MOST_PARTS" = some (.int 24 t)) : DSs G N_Words_take_stroke (fnS (defScope s_Words_take_stroke)) 3 (defBody s_Words_take_stroke) t_Words_take_stroke :=
    (dss_cons (ds_if (DWe.te (dw_or (dt_not (dt_val (de_methX0 (c := "Words") (m := "is_done") [1] h_Words_is_done (de_varR 0)))) (dw_or1 (dt_cmp c_eq (de_add (de_cb b_len B.len (da_cons (de_attr (c0 := "Words") (f := "parts") (de_varR 0) c_Words_parts) da_nil)) (de_ct t_int B.int (da_cons (de_cmp c_eq (de_attr (c0 := "Words") (f := "place") (de_varR 0) c_Words_place) de_str) da_nil))) (de_gint k_MOST_PARTS))))) (dss_one (ds_ret de_bl)) dss_nil)
    (dss_cons (ds_expr (de_methX0 (c := "Words") (m := "close") [1] h_Words_close (de_varR 0)))
    (dss_cons (ds_if (dt_cmp c_eq (de_methX0 (c := "Words") (m := "left") [1] h_Words_left (de_varR 0)) de_int) (dss_one (ds_ret de_bl)) dss_nil)
    (dss_cons (ds_attr (c0 := "Words") (f := "names") (de_varR 0) (de_lst da_nil) c_Words_names)
    (dss_cons (ds_attr (c0 := "Words") (f := "worths") (de_varR 0) (de_lst da_nil) c_Words_worths)
    (dss_cons (ds_attr (c0 := "Words") (f := "place") (de_varR 0) de_str c_Words_place)
    (dss_one (ds_ret de_bl))))))))
abbrev N_law_part : List Str := ["jar", "word", "sizes", "most", "names", "many", "name", "k"]
abbrev P_law_part : List Str := ["jar", "word", "sizes", "most"]
theorem sc_law_part : FnScope N_law_part P_law_part (defScope s_law_part) := ⟨rfl, rfl, rfl, by decide +kernel, rfl, by decide +kernel, by decide +kernel⟩
theorem d_law_part {G : GG} (B : Blt G) (h_law_number : Def G 3 "_law_number" 2 sp_law_number) (h_law_some : Def G 3 "_law_some" 3 sp_law_some) (h_law_times : Def G 1 "_law_times" 1 sp_law_times) : DSs G N_law_part (fnS (defScope s_law_part)) 3 (defBody s_law_part) t_law_part :=
    (dss_cons (ds_setE 4 (de_callJ 0 h_law_some (da_cons (de_cb b_len B.len (da_cons (de_var 2) da_nil)) (da_cons (de_var 3) da_nil))))
    (dss_cons (ds_setE 5 (de_call h_law_times (da_cons (de_lc [(Str.ofString "name", 6)] (di_seq (de_var 4)) (by decide +kernel) (dg_name 6) dtl_nil (de_ix (de_var 2) (de_var 6))) da_nil)))
    (dss_one (ds_ret (de_tup (da_cons (de_var 4) (da_cons (de_ct t_tuple B.tuple (da_cons (de_lc [(Str.ofString "k", 7)] (di_range1 (da_cons (de_var 5) da_nil) B.range) (by decide +kernel) (dg_name 7) dtl_nil (de_callJ 0 h_law_number (da_cons (de_var 1) da_nil))) da_nil)) da_nil)))))))
abbrev N_law_bent : List Str := ["jar", "text", "way", "at", "turn", "signs", "sign", "few", "words"]
abbrev P_law_bent : List Str := ["jar", "text"]
theorem sc_law_bent : FnScope N_law_bent P_law_bent (defScope s_law_bent) := ⟨rfl, rfl, rfl, by decide +kernel, rfl, by decide +kernel, by decide +kernel⟩
theorem d_law_bent {G : GG} (B : Blt G) (h_law_bent_words : Def G 3 "_law_bent_words" 2 sp_law_bent_words) (h_law_dip : Def G 2 "_law_dip" 2 sp_law_dip) : DSs G N_law_bent (fnS (defScope s_law_bent)) 3 (defBody s_law_bent) t_law_bent :=
    (dss_cons (ds_par3 2 3 4 (da_cons (de_callJ 0 h_law_dip (da_cons de_int da_nil)) (da_cons (de_callJ 0 h_law_dip (da_cons (de_add (de_cb b_len B.len (da_cons (de_var 1) da_nil)) de_int) da_nil)) (da_cons (de_callJ 0 h_law_dip (da_cons de_int da_nil)) da_nil))))
    (dss_cons (ds_setE 5 de_str)
    (dss_cons (ds_if (dt_cmp c_eq (de_var 2) de_int) (dss_cons (ds_setE 6 (de_ix (de_var 5) (de_callJ 0 h_law_dip (da_cons (de_cb b_len B.len (da_cons (de_var 5) da_nil)) da_nil))))
    (dss_one (ds_ret (de_add (de_add (de_sliceS (de_var 1) do_none (do_some (de_var 3))) (de_var 6)) (de_sliceS (de_var 1) (do_some (de_add (de_var 3) (de_callJ 0 h_law_dip (da_cons de_int da_nil)))) do_none))))) dss_nil)
    (dss_cons (ds_if (dt_cmp c_eq (de_var 2) de_int) (dss_one (ds_ret (de_ix (de_lst (da_cons (de_add de_str (de_var 1)) (da_cons (de_add (de_var 1) de_str) (da_cons (de_add de_str (de_var 1)) (da_cons (de_add (de_var 1) de_str) (da_cons (de_add (de_var 1) de_str) (da_cons (de_add (de_var 1) de_str) (da_cons (de_add de_str (de_var 1)) da_nil)))))))) (de_mod (de_var 4) de_int)))) dss_nil)
    (dss_cons (ds_if (dt_cmp c_eq (de_var 2) de_int) (dss_cons (ds_setE 7 (de_lst (da_cons de_str (da_cons de_str (da_cons de_str (da_cons de_str (da_cons de_str (da_cons de_str (da_cons de_str (da_cons de_str (da_cons de_str (da_cons de_str (da_cons de_str (da_cons de_str da_nil))))))))))))))
    (dss_cons (ds_setE 7 (de_add (de_var 7) (de_lst (da_cons de_str (da_cons (de_mulN de_str de_int) (da_cons (de_add de_str (de_mulN de_str de_int)) (da_cons (de_add de_str (de_mulN de_str de_int)) da_nil)))))))
    (dss_one (ds_ret (de_ix (de_var 7) (de_mod (de_var 4) de_int)))))) dss_nil)
    (dss_cons (ds_setE 8 (de_callJ 0 h_law_bent_words (da_cons (de_split (de_var 1) de_str) da_nil)))
    (dss_cons (ds_if (DWe.te (dw_and (dt_cmp c_lt (de_var 2) de_int) (dw_and1 (dt_cmp c_gt (de_cb b_len B.len (da_cons (de_var 8) da_nil)) de_int)))) (dss_one (ds_setE 8 (de_callJ 0 h_law_bent_words (da_cons (de_var 8) da_nil)))) dss_nil)
    (dss_one (ds_ret (de_join de_str (de_var 8)))))))))))
abbrev N_law_ends : List Str := ["jar", "more", "some", "base", "less", "way"]
abbrev P_law_ends : List Str := ["jar"]
theorem sc_law_ends : FnScope N_law_ends P_law_ends (defScope s_law_ends) := ⟨rfl, rfl, rfl, by decide +kernel, rfl, by decide +kernel, by decide +kernel⟩
theorem d_law_ends {G : GG} (B : Blt G) (h_law_bent_words : Def G 3 "_law_bent_words" 2 sp_law_bent_words) (h_law_dip : Def G 2 "_law_dip" 2 sp_law_dip) : DSs G N_law_ends (fnS (defScope s_law_ends)) 3 (defBody s_law_ends) t_law_ends :=
    (dss_cons (ds_setE 1 (de_callJ 0 h_law_dip (da_cons de_int da_nil)))
    (dss_cons (ds_set 2 (de_lst (da_cons (de_join de_str (de_mul (de_lst (da_cons de_str da_nil)) (de_add de_int (de_var 1)))) (da_cons (de_join de_str (de_add (de_mul (de_lst (da_cons de_str da_nil)) de_int) (de_lst (da_cons (de_ct t_str B.str (da_cons (de_add de_int (de_var 1)) da_nil)) da_nil)))) (da_cons (de_add de_str (de_mulN de_str (de_add de_int (de_var 1)))) da_nil)))))
    (dss_cons (ds_setE 3 (de_add (de_add de_str (de_mulN de_str de_int)) (de_mulN (de_add de_str (de_mulN de_str de_int)) de_int)))
    (dss_cons (ds_setE 3 (de_add (de_add (de_add (de_var 3) (de_mulN (de_add de_str (de_mulN de_str de_int)) de_int)) de_str) (de_mulN de_str de_int)))
    (dss_cons (ds_set 2 (de_add (de_var 2) (de_lst (da_cons (de_add (de_var 3) (de_mulN de_str (de_var 1))) (da_cons (de_add (de_sliceS (de_var 3) do_none (do_some (de_neg de_int))) (de_mulN de_str (de_var 1))) da_nil)))))
    (dss_cons (ds_setE 4 (de_add (de_add (de_sliceS (de_var 3) do_none (do_some (de_neg de_int))) (de_mulN de_str de_int)) (de_mulN de_str (de_add de_int (de_callJ 0 h_law_dip (da_cons de_int da_nil))))))
    (dss_cons (ds_expr (de_append 2 (de_add (de_var 4) de_str)))
    (dss_cons (ds_setE 5 (de_callJ 0 h_law_dip (da_cons de_int da_nil)))
    (dss_cons (ds_if (dt_cmp c_gt (de_var 5) de_int) (dss_one (ds_ret (de_join de_str (de_callJ 0 h_law_bent_words (da_cons (de_split (de_var 3) de_str) da_nil))))) dss_nil)
    (dss_one (ds_ret (de_ix (de_var 2) (de_var 5)))))))))))))
abbrev N_Words_take : List Str := ["self", "word"]
abbrev P_Words_take : List Str := ["self", "word"]
theorem sc_Words_take : FnScope N_Words_take P_Words_take (defScope s_Words_take) := ⟨rfl, rfl, rfl, by decide +kernel, rfl, by decide +kernel, by decide +kernel⟩
theorem d_Words_take {G : GG} (B : Blt G) (h_Words_take_name : MDef G 3 "Words" "take_name" 3 sp_Words_take_name) (h_Words_take_size : MDef G 2 "Words" "take_size" 2 sp_Words_take_size) (h_Words_take_stroke : MDef G 4 "Words" "take_stroke" 1 sp_Words_take_stroke) (h_Words_take_worth : MDef G 3 "Words" "take_worth" 2 sp_Words_take_worth) (h_number_of : Def G 1 "number_of" 2 sp_number_of) (c_Words_place : ClsF G "Words" "place") : DSs G N_Words_take (fnS (defScope s_Words_take)) 4 (defBody s_Words_take) t_Words_take :=
    (dss_cons (ds_if (dt_cmp c_eq (de_var 1) de_str) (dss_one (ds_ret (de_methX0 (c := "Words") (m := "take_stroke") [1] h_Words_take_stroke (de_varR 0)))) dss_nil)
    (dss_cons (ds_if (dt_cmp c_eq (de_attr (c0 := "Words") (f := "place") (de_varR 0) c_Words_place) de_str) (dss_one (ds_ret (de_methX (c := "Words") (m := "take_size") [1, 0] h_Words_take_size (de_varR 0) (da_cons (de_call h_number_of (da_cons (de_var 1) (da_cons de_int da_nil))) da_nil)))) dss_nil)
    (dss_cons (ds_if (dt_cmp c_eq (de_attr (c0 := "Words") (f := "place") (de_varR 0) c_Words_place) de_str) (dss_one (ds_ret (de_methX (c := "Words") (m := "take_name") [1, 0, 0] h_Words_take_name (de_varR 0) (da_cons (de_var 1) (da_cons (de_call h_number_of (da_cons (de_var 1) (da_cons de_int da_nil))) da_nil))))) dss_nil)
    (dss_one (ds_ret (de_methX (c := "Words") (m := "take_worth") [1, 0] h_Words_take_worth (de_varR 0) (da_cons (de_call h_number_of (da_cons (de_var 1) (da_cons de_int da_nil))) da_nil)))))))
abbrev N_law_sheet : List Str := ["jar", "word", "most", "roof", "parts", "sizes", "many", "wide", "k"]
abbrev P_law_sheet : List Str := ["jar", "word", "most", "roof", "parts"]
theorem sc_law_sheet : FnScope N_law_sheet P_law_sheet (defScope s_law_sheet) := ⟨rfl, rfl, rfl, by decide +kernel, rfl, by decide +kernel, by decide +kernel⟩
theorem d_law_sheet {G : GG} (B : Blt G) (h_law_dip : Def G 2 "_law_dip" 2 sp_law_dip) (h_law_part : Def G 4 "_law_part" 4 sp_law_part) (h_law_sizes : Def G 3 "_law_sizes" 3 sp_law_sizes) : DSs G N_law_sheet (fnS (defScope s_law_sheet)) 4 (defBody s_law_sheet) t_law_sheet :=
    (dss_cons (ds_setE 5 (de_callJ 0 h_law_sizes (da_cons (de_var 2) (da_cons (de_var 3) da_nil))))
    (dss_cons (ds_setE 6 (de_callJ 0 h_law_dip (da_cons (de_add (de_var 4) de_int) da_nil)))
    (dss_cons (ds_setE 7 (de_add de_int (de_callJ 0 h_law_dip (da_cons de_int da_nil))))
    (dss_one (ds_ret (de_tup (da_cons (de_var 5) (da_cons (de_ct t_tuple B.tuple (da_cons (de_lc [(Str.ofString "k", 8)] (di_range1 (da_cons (de_var 6) da_nil) B.range) (by decide +kernel) (dg_name 8) dtl_nil (de_callJ 0 h_law_part (da_cons (de_var 1) (da_cons (de_var 5) (da_cons (de_var 7) da_nil))))) da_nil)) da_nil))))))))
abbrev N_read_sheet : List Str := ["text", "words", "found", "at", "word"]
abbrev P_read_sheet : List Str := ["text"]
theorem sc_read_sheet : FnScope N_read_sheet P_read_sheet (defScope s_read_sheet) := ⟨rfl, rfl, rfl, by decide +kernel, rfl, by decide +kernel, by decide +kernel⟩
theorem d_read_sheet {G : GG} (B : Blt G) (h_Words_init : KDef G 1 "Words" 1 sp_Words_init) (h_Words_close : MDef G 1 "Words" "close" 1 sp_Words_close) (h_Words_is_done : MDef G 3 "Words" "is_done" 1 sp_Words_is_done) (h_Words_take : MDef G 5 "Words" "take" 2 sp_Words_take) (c_Words_parts : ClsF G "Words" "parts") (c_Words_sizes : ClsF G "Words" "sizes") (nt : NtDef G 1) : DSs G N_read_sheet (fnS (defScope s_read_sheet)) 5 (defBody s_read_sheet) t_read_sheet :=
    (dss_cons (ds_setE 1 (de_split (de_var 0) de_str))
    (dss_cons (ds_set 2 (de_make0 (c := "Words") [] h_Words_init))
    (dss_cons (ds_for (di_enum (de_var 1) B.enumerate) (dg_tup (dgs_cons (dg_name 3) (dgs_cons (dg_name 4) dgs_nil))) (dss_one (ds_if (dt_not (dt_val (de_methX (c := "Words") (m := "take") [1, 0] h_Words_take (de_varR 2) (da_cons (de_var 4) da_nil)))) (dss_one (ds_raiseT nt (de_var 3))) dss_nil)))
    (dss_cons (ds_if (dt_not (dt_val (de_methX0 (c := "Words") (m := "is_done") [1] h_Words_is_done (de_varR 2)))) (dss_one (ds_raiseT nt (de_cb b_len B.len (da_cons (de_var 1) da_nil)))) dss_nil)
    (dss_cons (ds_expr (de_methX0 (c := "Words") (m := "close") [1] h_Words_close (de_varR 2)))
    (dss_one (ds_ret (de_tup (da_cons (de_ct t_tuple B.tuple (da_cons (de_attr (c0 := "Words") (f := "sizes") (de_varR 2) c_Words_sizes) da_nil)) (da_cons (de_ct t_tuple B.tuple (da_cons (de_attr (c0 := "Words") (f := "parts") (de_varR 2) c_Words_parts) da_nil)) da_nil))))))))))
abbrev N_law_same : List Str := ["found", "due", "one", "other"]
abbrev P_law_same : List Str := ["found", "due"]
theorem sc_law_same : FnScope N_law_same P_law_same (defScope s_law_same) := ⟨rfl, rfl, rfl, by decide +kernel, rfl, by decide +kernel, by decide +kernel⟩
theorem d_law_same {G : GG} (B : Blt G) {sp_law_same : DSpec} {kr k0 : Nat} (hk0 : 0 ≤ k0) (hk : kr ≤ k0) (h_law_same : Def G kr "_law_same" 2 sp_law_same) : DSs G N_law_same (fnS (defScope s_law_same)) k0 (defBody s_law_same) (t_law_same sp_law_same) :=
    (dss_cons (ds_if (dt_val (de_cb b_isi B.isinstance (da_cons (de_var 1) (da_cons (de_tup (da_cons (de_bltn (v := .ty "tuple") rfl B.tuple (by decide +kernel) rfl) (da_cons (de_bltn (v := .ty "list") rfl B.list (by decide +kernel) rfl) da_nil))) da_nil)))) (dss_cons (ds_if (DWe.te (dw_or (dt_cmp c_ne (de_cb b_isi B.isinstance (da_cons (de_var 1) (da_cons (de_bltn (v := .ty "tuple") rfl B.tuple (by decide +kernel) rfl) da_nil))) (de_cb b_isi B.isinstance (da_cons (de_var 0) (da_cons (de_bltn (v := .ty "tuple") rfl B.tuple (by decide +kernel) rfl) da_nil)))) (dw_or1 (dt_cmp c_ne (de_cb b_isi B.isinstance (da_cons (de_var 1) (da_cons (de_bltn (v := .ty "list") rfl B.list (by decide +kernel) rfl) da_nil))) (de_cb b_isi B.isinstance (da_cons (de_var 0) (da_cons (de_bltn (v := .ty "list") rfl B.list (by decide +kernel) rfl) da_nil))))))) (dss_one (ds_ret de_bl)) dss_nil)
    (dss_one (ds_ret (de_and (de_cmp c_eq (de_cb b_len B.len (da_cons (de_var 0) da_nil)) (de_cb b_len B.len (da_cons (de_var 1) da_nil))) (de_one (de_cb b_all B.all (da_cons (de_lc [(Str.ofString "one", 2), (Str.ofString "other", 3)] (di_zip (de_var 0) (de_var 1) B.zip) (by decide +kernel) (dg_tup (dgs_cons (dg_name 2) (dgs_cons (dg_name 3) dgs_nil))) dtl_nil (de_call h_law_same (da_cons (de_var 2) (da_cons (de_var 3) da_nil)) hk)) da_nil))))))) dss_nil)
    (dss_cons (ds_if (DWe.te (dw_or (dt_val (de_cb b_isi B.isinstance (da_cons (de_var 1) (da_cons (de_bltn (v := .ty "bool") rfl B.bool (by decide +kernel) rfl) da_nil)))) (dw_or1 (dt_val (de_cb b_isi B.isinstance (da_cons (de_var 0) (da_cons (de_bltn (v := .ty "bool") rfl B.bool (by decide +kernel) rfl) da_nil))))))) (dss_one (ds_ret (de_and (de_cb b_isi B.isinstance (da_cons (de_var 1) (da_cons (de_bltn (v := .ty "bool") rfl B.bool (by decide +kernel) rfl) da_nil))) (de_and (de_cb b_isi B.isinstance (da_cons (de_var 0) (da_cons (de_bltn (v := .ty "bool") rfl B.bool (by decide +kernel) rfl) da_nil))) (de_one (de_cmp c_eq (de_var 0) (de_var 1))))))) dss_nil)
    (dss_cons (ds_if (dt_val (de_cb b_isi B.isinstance (da_cons (de_var 1) (da_cons (de_bltn (v := .ty "int") rfl B.int (by decide +kernel) rfl) da_nil)))) (dss_one (ds_ret (de_and (de_cb b_isi B.isinstance (da_cons (de_var 0) (da_cons (de_bltn (v := .ty "int") rfl B.int (by decide +kernel) rfl) da_nil))) (de_one (de_cmp c_eq (de_var 0) (de_var 1)))))) dss_nil)
    (dss_cons (ds_if (dt_cmp c_is (de_var 1) de_non) (dss_one (ds_ret (de_cmp c_is (de_var 0) de_non))) dss_nil)
    (dss_one (ds_ret (de_and (de_cb b_isi B.isinstance (da_cons (de_var 0) (da_cons (de_bltn (v := .ty "str") rfl B.str (by decide +kernel) rfl) da_nil))) (de_one (de_cmp c_eq (de_var 0) (de_var 1))))))))))
abbrev N_law_told : List Str := ["text", "caught", "told", "e"]
abbrev P_law_told : List Str := ["text"]
theorem sc_law_told : FnScope N_law_told P_law_told (defScope s_law_told) := ⟨rfl, rfl, rfl, by decide +kernel, rfl, by decide +kernel, by decide +kernel⟩
theorem d_law_told {G : GG} (B : Blt G) (h_law_class : Def G 1 "_law_class" 1 (sp_law_class cs56)) (h_read_sheet : Def G 6 "read_sheet" 1 sp_read_sheet) (g_NoText : G.mg "NoText" = some (clsV G.K "NoText")) (hXC : XCat G "SumError" cs56) (hXI : XIs G.K (xtabN cs56)) (nt : NtDef G 1) : DSs G N_law_told (fnS (defScope s_law_told)) 6 (defBody s_law_told) t_law_told :=
    (dss_cons (ds_setE 1 de_non)
    (dss_cons (ds_setE 2 de_non)
    (dss_cons (ds_tryKeepN 3 1 hXC (dss_one (ds_setE 2 (de_call h_read_sheet (da_cons (de_var 0) da_nil)))))
    (dss_cons (ds_if (dt_cmp c_is (de_var 1) de_non) (dss_one (ds_ret (de_lst (da_cons de_str (da_cons (de_var 2) da_nil))))) dss_nil)
    (dss_one (ds_ret (de_lst (da_cons (de_call h_law_class (da_cons (de_var 1) da_nil)) (da_cons (de_if (dt_val (de_isX hXI B.isinstance (da_cons (de_var 1) (da_cons (de_glo g_NoText) da_nil)))) (de_excAt nt.nt (de_var 1)) de_non) da_nil)))))))))
abbrev N_law : List Str := ["script", "jar", "turn", "text", "k", "thing"]
abbrev P_law : List Str := ["script"]
theorem sc_law : FnScope N_law P_law (defScope s_law) := ⟨rfl, rfl, rfl, by decide +kernel, rfl, by decide +kernel, by decide +kernel⟩
theorem d_law {G : GG} (B : Blt G) (h_law_bent : Def G 4 "_law_bent" 2 sp_law_bent) (h_law_due : Def G 3 "_law_due" 1 sp_law_due) (h_law_ends : Def G 4 "_law_ends" 1 sp_law_ends) (h_law_jar : Def G 1 "_law_jar" 1 sp_law_jar) (h_law_same : Def G 7 "_law_same" 2 sp_law_same) (h_law_sheet : Def G 5 "_law_sheet" 5 sp_law_sheet) (h_law_text : Def G 1 "_law_text" 1 sp_law_text) (h_law_told : Def G 7 "_law_told" 1 sp_law_told) : DSs G N_law (fnS (defScope s_law)) 7 (defBody s_law) t_law :=
    (dss_cons (ds_set 1 (de_call h_law_jar (da_cons (de_var 0) da_nil)))
    (dss_cons (ds_for (di_range1 (da_cons de_int da_nil) B.range) (dg_name 2) (dss_cons (ds_setE 3 (de_call h_law_text (da_cons (de_callJ 1 h_law_sheet (da_cons de_str (da_cons (de_ix (de_lst (da_cons de_int (da_cons de_int (da_cons de_int da_nil)))) (de_var 2)) (da_cons de_int (da_cons de_int da_nil))))) da_nil)))
    (dss_one (ds_for (di_range1 (da_cons de_int da_nil) B.range) (dg_name 4) (dss_cons (ds_setE 5 (de_callJ 1 h_law_bent (da_cons (de_var 3) da_nil)))
    (dss_one (ds_if (dt_not (dt_val (de_call h_law_same (da_cons (de_call h_law_told (da_cons (de_var 5) da_nil)) (da_cons (de_call h_law_due (da_cons (de_var 5) da_nil)) da_nil))))) (dss_one (ds_ret de_bl)) dss_nil)))))))
    (dss_cons (ds_setE 3 (de_callJ 1 h_law_ends da_nil))
    (dss_one (ds_ret (de_call h_law_same (da_cons (de_call h_law_told (da_cons (de_var 3) da_nil)) (da_cons (de_call h_law_due (da_cons (de_var 3) da_nil)) da_nil))))))))
theorem facts {w : World} {K : PySem.W.Frag} {h : Heap} {mg : Str → Option Value} {f : Addr} (X : K.In h) (N : h.Ns mainGlobals mg) (hf : mg ("law" : Str) = some (.ref f)) (c : He.SaysD fa fn K) (cx : ex K = true) :
    ∃ fd : FuncData, (∀ (s : Shared) (v : Value), BindsTo s fd ⟨[v], []⟩ [("script", v)]) ∧ ∀ base : Heap, K.In base → base.Ns mainGlobals mg → FnG PySem.Challenge.pw_sumorder_k56_texts_refused w K mg base (L2.CX PySem.Challenge.pw_sumorder_k56_texts_refused w) 8 f fd ["script"] (toSp K 1 (lawSpec 63)) := by
  obtain ⟨f_product, F_product⟩ := c.def_ 0 (d := y_product) rfl
  have g_product := He.glo_ok X N (c.fact 0 (f := .glo "product") rfl)
  obtain ⟨f_number_of, F_number_of⟩ := c.def_ 1 (d := y_number_of) rfl
  have g_number_of := He.glo_ok X N (c.fact 1 (f := .glo "number_of") rfl)
  obtain ⟨f_Words_init, F_Words_init⟩ := c.def_ 2 (d := y_Words_init) rfl
  have M_Words_init : Mk K (He.ga K "Words") (He.fAd K ("Words", some "__init__")) := He.mkr_ok (c.fact 2 (f := .mkr "Words") rfl)
  obtain ⟨f_Words_left, F_Words_left⟩ := c.def_ 3 (d := y_Words_left) rfl
  have M_Words_left : Meth K (He.ga K "Words") "left" (He.fAd K ("Words", some "left")) := He.meth_ok (c.fact 3 (f := .meth "Words" "left") rfl)
  obtain ⟨f_Words_close, F_Words_close⟩ := c.def_ 4 (d := y_Words_close) rfl
  have M_Words_close : Meth K (He.ga K "Words") "close" (He.fAd K ("Words", some "close")) := He.meth_ok (c.fact 4 (f := .meth "Words" "close") rfl)
  obtain ⟨f_law_jar, F_law_jar⟩ := c.def_ 5 (d := y_law_jar) rfl
  have g_law_jar := He.glo_ok X N (c.fact 5 (f := .glo "_law_jar") rfl)
  obtain ⟨f_law_prime, F_law_prime⟩ := c.def_ 6 (d := y_law_prime) rfl
  have g_law_prime := He.glo_ok X N (c.fact 6 (f := .glo "_law_prime") rfl)
  obtain ⟨f_law_times, F_law_times⟩ := c.def_ 7 (d := y_law_times) rfl
  have g_law_times := He.glo_ok X N (c.fact 7 (f := .glo "_law_times") rfl)
  obtain ⟨f_law_class, F_law_class⟩ := c.def_ 8 (d := y_law_class) rfl
  have g_law_class := He.glo_ok X N (c.fact 8 (f := .glo "_law_class") rfl)
  obtain ⟨f_law_figures, F_law_figures⟩ := c.def_ 9 (d := y_law_figures) rfl
  have g_law_figures := He.glo_ok X N (c.fact 9 (f := .glo "_law_figures") rfl)
  obtain ⟨f_law_text, F_law_text⟩ := c.def_ 10 (d := y_law_text) rfl
  have g_law_text := He.glo_ok X N (c.fact 10 (f := .glo "_law_text") rfl)
  obtain ⟨f_Words_due, F_Words_due⟩ := c.def_ 11 (d := y_Words_due) rfl
  have M_Words_due : Meth K (He.ga K "Words") "due" (He.fAd K ("Words", some "due")) := He.meth_ok (c.fact 11 (f := .meth "Words" "due") rfl)
  obtain ⟨f_Words_take_size, F_Words_take_size⟩ := c.def_ 12 (d := y_Words_take_size) rfl
  have M_Words_take_size : Meth K (He.ga K "Words") "take_size" (He.fAd K ("Words", some "take_size")) := He.meth_ok (c.fact 12 (f := .meth "Words" "take_size") rfl)
  obtain ⟨f_law_dip, F_law_dip⟩ := c.def_ 13 (d := y_law_dip) rfl
  have g_law_dip := He.glo_ok X N (c.fact 13 (f := .glo "_law_dip") rfl)
  obtain ⟨f_law_step, F_law_step⟩ := c.def_ 14 (d := y_law_step) rfl
  have g_law_step := He.glo_ok X N (c.fact 14 (f := .glo "_law_step") rfl)
  obtain ⟨f_Words_is_done, F_Words_is_done⟩ := c.def_ 15 (d := y_Words_is_done) rfl
  have M_Words_is_done : Meth K (He.ga K "Words") "is_done" (He.fAd K ("Words", some "is_done")) := He.meth_ok (c.fact 15 (f := .meth "Words" "is_done") rfl)
  obtain ⟨f_Words_take_name, F_Words_take_name⟩ := c.def_ 16 (d := y_Words_take_name) rfl
  have M_Words_take_name : Meth K (He.ga K "Words") "take_name" (He.fAd K ("Words", some "take_name")) := He.meth_ok (c.fact 16 (f := .meth "Words" "take_name") rfl)
  obtain ⟨f_Words_take_worth, F_Words_take_worth⟩ := c.def_ 17 (d := y_Words_take_worth) rfl
  have M_Words_take_worth : Meth K (He.ga K "Words") "take_worth" (He.fAd K ("Words", some "take_worth")) := He.meth_ok (c.fact 17 (f := .meth "Words" "take_worth") rfl)
  obtain ⟨f_law_number, F_law_number⟩ := c.def_ 18 (d := y_law_number) rfl
  have g_law_number := He.glo_ok X N (c.fact 18 (f := .glo "_law_number") rfl)
  obtain ⟨f_law_sizes, F_law_sizes⟩ := c.def_ 19 (d := y_law_sizes) rfl
  have g_law_sizes := He.glo_ok X N (c.fact 19 (f := .glo "_law_sizes") rfl)
  obtain ⟨f_law_some, F_law_some⟩ := c.def_ 20 (d := y_law_some) rfl
  have g_law_some := He.glo_ok X N (c.fact 20 (f := .glo "_law_some") rfl)
  obtain ⟨f_law_due, F_law_due⟩ := c.def_ 21 (d := y_law_due) rfl
  have g_law_due := He.glo_ok X N (c.fact 21 (f := .glo "_law_due") rfl)
  obtain ⟨f_law_bent_words, F_law_bent_words⟩ := c.def_ 22 (d := y_law_bent_words) rfl
  have g_law_bent_words := He.glo_ok X N (c.fact 22 (f := .glo "_law_bent_words") rfl)
  obtain ⟨f_Words_take_stroke, F_Words_take_stroke⟩ := c.def_ 23 (d := y_Words_take_stroke) rfl
  have M_Words_take_stroke : Meth K (He.ga K "Words") "take_stroke" (He.fAd K ("Words", some "take_stroke")) := He.meth_ok (c.fact 23 (f := .meth "Words" "take_stroke") rfl)
  obtain ⟨f_law_part, F_law_part⟩ := c.def_ 24 (d := y_law_part) rfl
  have g_law_part := He.glo_ok X N (c.fact 24 (f := .glo "_law_part") rfl)
  obtain ⟨f_law_bent, F_law_bent⟩ := c.def_ 25 (d := y_law_bent) rfl
  have g_law_bent := He.glo_ok X N (c.fact 25 (f := .glo "_law_bent") rfl)
  obtain ⟨f_law_ends, F_law_ends⟩ := c.def_ 26 (d := y_law_ends) rfl
  have g_law_ends := He.glo_ok X N (c.fact 26 (f := .glo "_law_ends") rfl)
  obtain ⟨f_Words_take, F_Words_take⟩ := c.def_ 27 (d := y_Words_take) rfl
  have M_Words_take : Meth K (He.ga K "Words") "take" (He.fAd K ("Words", some "take")) := He.meth_ok (c.fact 27 (f := .meth "Words" "take") rfl)
  obtain ⟨f_law_sheet, F_law_sheet⟩ := c.def_ 28 (d := y_law_sheet) rfl
  have g_law_sheet := He.glo_ok X N (c.fact 28 (f := .glo "_law_sheet") rfl)
  obtain ⟨f_read_sheet, F_read_sheet⟩ := c.def_ 29 (d := y_read_sheet) rfl
  have g_read_sheet := He.glo_ok X N (c.fact 29 (f := .glo "read_sheet") rfl)
  obtain ⟨f_law_same, F_law_same⟩ := c.def_ 30 (d := y_law_same) rfl
  have g_law_same := He.glo_ok X N (c.fact 30 (f := .glo "_law_same") rfl)
  obtain ⟨f_law_told, F_law_told⟩ := c.def_ 31 (d := y_law_told) rfl
  have g_law_told := He.glo_ok X N (c.fact 31 (f := .glo "_law_told") rfl)
  obtain ⟨f_law, F_law⟩ := c.def_ 32 (d := y_law) rfl
  have e := hf.symm.trans (He.glo_ok X N (c.fact 32 (f := .glo "law") rfl))
  cases e
  have b := FunD.bindsA (ps := ["script"]) F_law fun _ _ _ _ _ _ us hl => match us, hl with | [_], _ => rfl
  refine ⟨f_law, fun s v => b s [v] rfl, fun base _ _ => ?_⟩
  let G : GG := ⟨PySem.Challenge.pw_sumorder_k56_texts_refused, w, K, mg, base⟩
  have B : Blt G := ⟨He.free_ok X N (c.fact 33 (f := .free "len") rfl), He.free_ok X N (c.fact 34 (f := .free "range") rfl), He.free_ok X N (c.fact 35 (f := .free "sorted") rfl), He.free_ok X N (c.fact 36 (f := .free "set") rfl), He.free_ok X N (c.fact 37 (f := .free "tuple") rfl), He.free_ok X N (c.fact 38 (f := .free "list") rfl), He.free_ok X N (c.fact 39 (f := .free "dict") rfl), He.free_ok X N (c.fact 40 (f := .free "zip") rfl), He.free_ok X N (c.fact 41 (f := .free "enumerate") rfl), He.free_ok X N (c.fact 42 (f := .free "all") rfl), He.free_ok X N (c.fact 43 (f := .free "any") rfl), He.free_ok X N (c.fact 44 (f := .free "sum") rfl), He.free_ok X N (c.fact 45 (f := .free "min") rfl), He.free_ok X N (c.fact 46 (f := .free "max") rfl), He.free_ok X N (c.fact 47 (f := .free "isinstance") rfl), He.free_ok X N (c.fact 48 (f := .free "str") rfl), He.free_ok X N (c.fact 49 (f := .free "int") rfl), He.free_ok X N (c.fact 50 (f := .free "repr") rfl), He.free_ok X N (c.fact 51 (f := .free "bool") rfl)⟩
  have C_Words : Cls K (He.ga K "Words") := He.cls_ok (c.fact 53 (f := .cls "Words") rfl)
  have k_Words := He.glo_ok X N (c.fact 52 (f := .glo "Words") rfl)
  have c_Words_names : ClsF G "Words" "names" := ⟨C_Words, He.noat_ok (c.fact 54 (f := .noat "Words" "names") rfl)⟩
  have c_Words_parts : ClsF G "Words" "parts" := ⟨C_Words, He.noat_ok (c.fact 55 (f := .noat "Words" "parts") rfl)⟩
  have c_Words_place : ClsF G "Words" "place" := ⟨C_Words, He.noat_ok (c.fact 56 (f := .noat "Words" "place") rfl)⟩
  have c_Words_sizes : ClsF G "Words" "sizes" := ⟨C_Words, He.noat_ok (c.fact 57 (f := .noat "Words" "sizes") rfl)⟩
  have c_Words_worths : ClsF G "Words" "worths" := ⟨C_Words, He.noat_ok (c.fact 58 (f := .noat "Words" "worths") rfl)⟩
  have g_NoBack : G.mg "NoBack" = some (clsV G.K "NoBack") := He.glo_ok X N (c.fact 59 (f := .glo "NoBack") rfl)
  have g_NoBag : G.mg "NoBag" = some (clsV G.K "NoBag") := He.glo_ok X N (c.fact 60 (f := .glo "NoBag") rfl)
  have g_NoDeeds : G.mg "NoDeeds" = some (clsV G.K "NoDeeds") := He.glo_ok X N (c.fact 61 (f := .glo "NoDeeds") rfl)
  have g_NoFilling : G.mg "NoFilling" = some (clsV G.K "NoFilling") := He.glo_ok X N (c.fact 62 (f := .glo "NoFilling") rfl)
  have g_NoName : G.mg "NoName" = some (clsV G.K "NoName") := He.glo_ok X N (c.fact 63 (f := .glo "NoName") rfl)
  have g_NoNumber : G.mg "NoNumber" = some (clsV G.K "NoNumber") := He.glo_ok X N (c.fact 64 (f := .glo "NoNumber") rfl)
  have g_NoOffers : G.mg "NoOffers" = some (clsV G.K "NoOffers") := He.glo_ok X N (c.fact 65 (f := .glo "NoOffers") rfl)
  have g_NoPart : G.mg "NoPart" = some (clsV G.K "NoPart") := He.glo_ok X N (c.fact 66 (f := .glo "NoPart") rfl)
  have g_NoRow : G.mg "NoRow" = some (clsV G.K "NoRow") := He.glo_ok X N (c.fact 67 (f := .glo "NoRow") rfl)
  have g_NoText : G.mg "NoText" = some (clsV G.K "NoText") := He.glo_ok X N (c.fact 68 (f := .glo "NoText") rfl)
  have g_NoTree : G.mg "NoTree" = some (clsV G.K "NoTree") := He.glo_ok X N (c.fact 69 (f := .glo "NoTree") rfl)
  have g_NoWeights : G.mg "NoWeights" = some (clsV G.K "NoWeights") := He.glo_ok X N (c.fact 70 (f := .glo "NoWeights") rfl)
  have g_NoWorths : G.mg "NoWorths" = some (clsV G.K "NoWorths") := He.glo_ok X N (c.fact 71 (f := .glo "NoWorths") rfl)
  have g_SumError : G.mg "SumError" = some (clsV G.K "SumError") := He.glo_ok X N (c.fact 72 (f := .glo "SumError") rfl)
  have g_TooMany : G.mg "TooMany" = some (clsV G.K "TooMany") := He.glo_ok X N (c.fact 73 (f := .glo "TooMany") rfl)
  have b_ValueError : G.mg "ValueError" = none := He.free_ok X N (c.fact 74 (f := .free "ValueError") rfl)
  have k_MOST_FILLINGS := He.int_ok X N (c.fact 75 (f := .int "MOST_FILLINGS" 4000) rfl)
  have k_MOST_NAMES := He.int_ok X N (c.fact 76 (f := .int "MOST_NAMES" 12) rfl)
  have k_MOST_PARTS := He.int_ok X N (c.fact 77 (f := .int "MOST_PARTS" 24) rfl)
  have k_MOST_SIZE := He.int_ok X N (c.fact 78 (f := .int "MOST_SIZE" 4) rfl)
  have k_MOST_WORTH := He.int_ok X N (c.fact 79 (f := .int "MOST_WORTH" 1000000000000) rfl)
  have k_MOST_WORTHS := He.int_ok X N (c.fact 80 (f := .int "MOST_WORTHS" 2000) rfl)
  have z_FIGURES := He.str_ok X N (c.fact 81 (f := .str "FIGURES" "0123456789") rfl)
  have cx1 := Bool.and_eq_true_iff.1 cx
  have cx := cx1.1
  have cn := ntDB_ok cx1.2
  obtain ⟨f_NoText_init, F_NoText_init⟩ := c.def_ 33 (d := y_NoText_init) rfl
  have sc_NoText_init : FnScope ["self", "at"] ["self", "at"] (defScope s_NoText_init) := ⟨rfl, rfl, rfl, by decide +kernel, rfl, by decide +kernel, by decide +kernel⟩
  have nt : NtDef G 1 := ⟨cn.1, g_NoText, _, f_NoText_init, nt_fn (G := G) (k := 0) (st := s_NoText_init) cn.1 F_NoText_init sc_NoText_init g_SumError rfl (fun _ => rfl) rfl (by first | exact Or.inl rfl | exact Or.inr (Or.inl rfl) | exact Or.inr (Or.inr rfl)) (by first | exact Or.inl rfl | exact Or.inr (Or.inl rfl) | exact Or.inr (Or.inr rfl)), cn.2.1, cn.2.2, (FunD.bindsN (ps := ["self", "at"]) F_NoText_init fun _ _ _ _ _ _ us hl => match us, hl with | [_, _], _ => rfl)⟩
  have hXI : XIs G.K (xtabN cs56) := xisN_of cx
  have hXC : XCat G "SumError" cs56 := xcat_of cx g_SumError
  have h_product : Def G 1 "product" 1 sp_product := Def.of (st := s_product) (m := 2) F_product g_product sc_product (d_product B ) m_product rfl rfl (fun ds Q X h => by repeat (first | (refine Or.elim h (fun h => ?_) (fun h => ?_)) | (obtain ⟨rfl, _⟩ := h; rfl) | (obtain ⟨rfl | rfl, _⟩ := h <;> rfl) | (obtain ⟨⟨_, _, rfl, _⟩, _⟩ := h; rfl) | (obtain ⟨_, h⟩ := h))) (FunD.bindsN (ps := P_product) F_product fun _ _ _ _ _ _ us hl => match us, hl with | [_], _ => rfl)
  have h_number_of : Def G 1 "number_of" 2 sp_number_of := Def.of (st := s_number_of) (m := 2) F_number_of g_number_of sc_number_of (d_number_of B z_FIGURES) m_number_of rfl rfl (fun ds Q X h => by repeat (first | (refine Or.elim h (fun h => ?_) (fun h => ?_)) | (obtain ⟨rfl, _⟩ := h; rfl) | (obtain ⟨rfl | rfl, _⟩ := h <;> rfl) | (obtain ⟨⟨_, _, rfl, _⟩, _⟩ := h; rfl) | (obtain ⟨_, h⟩ := h))) (FunD.bindsN (ps := P_number_of) F_number_of fun _ _ _ _ _ _ us hl => match us, hl with | [_, _], _ => rfl)
  have h_Words_init : KDef G 1 "Words" 1 sp_Words_init := KDef.of (st := s_Words_init) (m := 0) F_Words_init M_Words_init k_Words sc_Words_init (d_Words_init B c_Words_names c_Words_parts c_Words_place c_Words_sizes c_Words_worths) m_Words_init rfl rfl (fun ds Q X h => by repeat (first | (refine Or.elim h (fun h => ?_) (fun h => ?_)) | (obtain ⟨rfl, _⟩ := h; rfl) | (obtain ⟨rfl | rfl, _⟩ := h <;> rfl) | (obtain ⟨⟨_, _, rfl, _⟩, _⟩ := h; rfl) | (obtain ⟨_, h⟩ := h))) (FunD.bindsN (ps := P_Words_init) F_Words_init fun _ _ _ _ _ _ us hl => match us, hl with | [_], _ => rfl)
  have h_Words_left : MDef G 1 "Words" "left" 1 sp_Words_left := MDef.of (st := s_Words_left) (m := 1) F_Words_left M_Words_left C_Words sc_Words_left (d_Words_left B c_Words_parts k_MOST_WORTHS) m_Words_left rfl rfl (fun ds Q X h => by repeat (first | (refine Or.elim h (fun h => ?_) (fun h => ?_)) | (obtain ⟨rfl, _⟩ := h; rfl) | (obtain ⟨rfl | rfl, _⟩ := h <;> rfl) | (obtain ⟨⟨_, _, rfl, _⟩, _⟩ := h; rfl) | (obtain ⟨_, h⟩ := h))) (FunD.bindsN (ps := P_Words_left) F_Words_left fun _ _ _ _ _ _ us hl => match us, hl with | [_], _ => rfl)
  have h_Words_close : MDef G 1 "Words" "close" 1 sp_Words_close := MDef.of (st := s_Words_close) (m := 0) F_Words_close M_Words_close C_Words sc_Words_close (d_Words_close B c_Words_names c_Words_parts c_Words_place c_Words_worths) m_Words_close rfl rfl (fun ds Q X h => by repeat (first | (refine Or.elim h (fun h => ?_) (fun h => ?_)) | (obtain ⟨rfl, _⟩ := h; rfl) | (obtain ⟨rfl | rfl, _⟩ := h <;> rfl) | (obtain ⟨⟨_, _, rfl, _⟩, _⟩ := h; rfl) | (obtain ⟨_, h⟩ := h))) (FunD.bindsN (ps := P_Words_close) F_Words_close fun _ _ _ _ _ _ us hl => match us, hl with | [_], _ => rfl)
  have h_law_jar : Def G 1 "_law_jar" 1 sp_law_jar := Def.of (st := s_law_jar) (m := 0) F_law_jar g_law_jar sc_law_jar (d_law_jar B ) m_law_jar rfl rfl (fun ds Q X h => by repeat (first | (refine Or.elim h (fun h => ?_) (fun h => ?_)) | (obtain ⟨rfl, _⟩ := h; rfl) | (obtain ⟨rfl | rfl, _⟩ := h <;> rfl) | (obtain ⟨⟨_, _, rfl, _⟩, _⟩ := h; rfl) | (obtain ⟨_, h⟩ := h))) (FunD.bindsN (ps := P_law_jar) F_law_jar fun _ _ _ _ _ _ us hl => match us, hl with | [_], _ => rfl)
  have h_law_prime : Def G 1 "_law_prime" 1 sp_law_prime := Def.of (st := s_law_prime) (m := 1) F_law_prime g_law_prime sc_law_prime (d_law_prime B ) m_law_prime rfl rfl (fun ds Q X h => by repeat (first | (refine Or.elim h (fun h => ?_) (fun h => ?_)) | (obtain ⟨rfl, _⟩ := h; rfl) | (obtain ⟨rfl | rfl, _⟩ := h <;> rfl) | (obtain ⟨⟨_, _, rfl, _⟩, _⟩ := h; rfl) | (obtain ⟨_, h⟩ := h))) (FunD.bindsN (ps := P_law_prime) F_law_prime fun _ _ _ _ _ _ us hl => match us, hl with | [_], _ => rfl)
  have h_law_times : Def G 1 "_law_times" 1 sp_law_times := Def.of (st := s_law_times) (m := 2) F_law_times g_law_times sc_law_times (d_law_times B ) m_law_times rfl rfl (fun ds Q X h => by repeat (first | (refine Or.elim h (fun h => ?_) (fun h => ?_)) | (obtain ⟨rfl, _⟩ := h; rfl) | (obtain ⟨rfl | rfl, _⟩ := h <;> rfl) | (obtain ⟨⟨_, _, rfl, _⟩, _⟩ := h; rfl) | (obtain ⟨_, h⟩ := h))) (FunD.bindsN (ps := P_law_times) F_law_times fun _ _ _ _ _ _ us hl => match us, hl with | [_], _ => rfl)
  have h_law_class : Def G 1 "_law_class" 1 (sp_law_class cs56) := Def.of (st := s_law_class) (m := 2) F_law_class g_law_class sc_law_class (d_law_class B g_NoBack g_NoBag g_NoDeeds g_NoFilling g_NoName g_NoNumber g_NoOffers g_NoPart g_NoRow g_NoText g_NoTree g_NoWeights g_NoWorths g_TooMany b_ValueError hXI) (m_law_class cs56) rfl rfl (fun ds Q X h => by repeat (first | (refine Or.elim h (fun h => ?_) (fun h => ?_)) | (obtain ⟨rfl, _⟩ := h; rfl) | (obtain ⟨rfl | rfl, _⟩ := h <;> rfl) | (obtain ⟨⟨_, _, rfl, _⟩, _⟩ := h; rfl) | (obtain ⟨_, h⟩ := h))) (FunD.bindsN (ps := P_law_class) F_law_class fun _ _ _ _ _ _ us hl => match us, hl with | [_], _ => rfl)
  have h_law_figures : Def G 1 "_law_figures" 3 sp_law_figures := Def.of (st := s_law_figures) (m := 3) F_law_figures g_law_figures sc_law_figures (d_law_figures B ) m_law_figures rfl rfl (fun ds Q X h => by repeat (first | (refine Or.elim h (fun h => ?_) (fun h => ?_)) | (obtain ⟨rfl, _⟩ := h; rfl) | (obtain ⟨rfl | rfl, _⟩ := h <;> rfl) | (obtain ⟨⟨_, _, rfl, _⟩, _⟩ := h; rfl) | (obtain ⟨_, h⟩ := h))) (FunD.bindsN (ps := P_law_figures) F_law_figures fun _ _ _ _ _ _ us hl => match us, hl with | [_, _, _], _ => rfl)
  have h_law_text : Def G 1 "_law_text" 1 sp_law_text := Def.of (st := s_law_text) (m := 6) F_law_text g_law_text sc_law_text (d_law_text B ) m_law_text rfl rfl (fun ds Q X h => by repeat (first | (refine Or.elim h (fun h => ?_) (fun h => ?_)) | (obtain ⟨rfl, _⟩ := h; rfl) | (obtain ⟨rfl | rfl, _⟩ := h <;> rfl) | (obtain ⟨⟨_, _, rfl, _⟩, _⟩ := h; rfl) | (obtain ⟨_, h⟩ := h))) (FunD.bindsN (ps := P_law_text) F_law_text fun _ _ _ _ _ _ us hl => match us, hl with | [_], _ => rfl)
  have h_Words_due : MDef G 2 "Words" "due" 1 sp_Words_due := MDef.of (st := s_Words_due) (m := 1) F_Words_due M_Words_due C_Words sc_Words_due (d_Words_due B h_product c_Words_names c_Words_sizes) m_Words_due rfl rfl (fun ds Q X h => by repeat (first | (refine Or.elim h (fun h => ?_) (fun h => ?_)) | (obtain ⟨rfl, _⟩ := h; rfl) | (obtain ⟨rfl | rfl, _⟩ := h <;> rfl) | (obtain ⟨⟨_, _, rfl, _⟩, _⟩ := h; rfl) | (obtain ⟨_, h⟩ := h))) (FunD.bindsN (ps := P_Words_due) F_Words_due fun _ _ _ _ _ _ us hl => match us, hl with | [_], _ => rfl)
  have h_Words_take_size : MDef G 2 "Words" "take_size" 2 sp_Words_take_size := MDef.of (st := s_Words_take_size) (m := 0) F_Words_take_size M_Words_take_size C_Words sc_Words_take_size (d_Words_take_size B h_product c_Words_sizes k_MOST_FILLINGS k_MOST_NAMES k_MOST_SIZE) m_Words_take_size rfl rfl (fun ds Q X h => by repeat (first | (refine Or.elim h (fun h => ?_) (fun h => ?_)) | (obtain ⟨rfl, _⟩ := h; rfl) | (obtain ⟨rfl | rfl, _⟩ := h <;> rfl) | (obtain ⟨⟨_, _, rfl, _⟩, _⟩ := h; rfl) | (obtain ⟨_, h⟩ := h))) (FunD.bindsN (ps := P_Words_take_size) F_Words_take_size fun _ _ _ _ _ _ us hl => match us, hl with | [_, _], _ => rfl)
  have h_law_dip : Def G 2 "_law_dip" 2 sp_law_dip := Def.of (st := s_law_dip) (m := 6) F_law_dip g_law_dip sc_law_dip (d_law_dip B h_law_prime) m_law_dip rfl rfl (fun ds Q X h => by repeat (first | (refine Or.elim h (fun h => ?_) (fun h => ?_)) | (obtain ⟨rfl, _⟩ := h; rfl) | (obtain ⟨rfl | rfl, _⟩ := h <;> rfl) | (obtain ⟨⟨_, _, rfl, _⟩, _⟩ := h; rfl) | (obtain ⟨_, h⟩ := h))) (FunD.bindsN (ps := P_law_dip) F_law_dip fun _ _ _ _ _ _ us hl => match us, hl with | [_, _], _ => rfl)
  have h_law_step : Def G 2 "_law_step" 2 sp_law_step := Def.of (st := s_law_step) (m := 12) F_law_step g_law_step sc_law_step (d_law_step B h_law_figures h_law_times) m_law_step rfl rfl (fun ds Q X h => by repeat (first | (refine Or.elim h (fun h => ?_) (fun h => ?_)) | (obtain ⟨rfl, _⟩ := h; rfl) | (obtain ⟨rfl | rfl, _⟩ := h <;> rfl) | (obtain ⟨⟨_, _, rfl, _⟩, _⟩ := h; rfl) | (obtain ⟨_, h⟩ := h))) (FunD.bindsN (ps := P_law_step) F_law_step fun _ _ _ _ _ _ us hl => match us, hl with | [_, _], _ => rfl)
  have h_Words_is_done : MDef G 3 "Words" "is_done" 1 sp_Words_is_done := MDef.of (st := s_Words_is_done) (m := 0) F_Words_is_done M_Words_is_done C_Words sc_Words_is_done (d_Words_is_done B h_Words_due c_Words_place c_Words_sizes c_Words_worths) m_Words_is_done rfl rfl (fun ds Q X h => by repeat (first | (refine Or.elim h (fun h => ?_) (fun h => ?_)) | (obtain ⟨rfl, _⟩ := h; rfl) | (obtain ⟨rfl | rfl, _⟩ := h <;> rfl) | (obtain ⟨⟨_, _, rfl, _⟩, _⟩ := h; rfl) | (obtain ⟨_, h⟩ := h))) (FunD.bindsN (ps := P_Words_is_done) F_Words_is_done fun _ _ _ _ _ _ us hl => match us, hl with | [_], _ => rfl)
  have h_Words_take_name : MDef G 3 "Words" "take_name" 3 sp_Words_take_name := MDef.of (st := s_Words_take_name) (m := 1) F_Words_take_name M_Words_take_name C_Words sc_Words_take_name (d_Words_take_name B h_Words_due h_Words_left c_Words_names c_Words_place c_Words_sizes) m_Words_take_name rfl rfl (fun ds Q X h => by repeat (first | (refine Or.elim h (fun h => ?_) (fun h => ?_)) | (obtain ⟨rfl, _⟩ := h; rfl) | (obtain ⟨rfl | rfl, _⟩ := h <;> rfl) | (obtain ⟨⟨_, _, rfl, _⟩, _⟩ := h; rfl) | (obtain ⟨_, h⟩ := h))) (FunD.bindsN (ps := P_Words_take_name) F_Words_take_name fun _ _ _ _ _ _ us hl => match us, hl with | [_, _, _], _ => rfl)
  have h_Words_take_worth : MDef G 3 "Words" "take_worth" 2 sp_Words_take_worth := MDef.of (st := s_Words_take_worth) (m := 0) F_Words_take_worth M_Words_take_worth C_Words sc_Words_take_worth (d_Words_take_worth B h_Words_due c_Words_worths k_MOST_WORTH) m_Words_take_worth rfl rfl (fun ds Q X h => by repeat (first | (refine Or.elim h (fun h => ?_) (fun h => ?_)) | (obtain ⟨rfl, _⟩ := h; rfl) | (obtain ⟨rfl | rfl, _⟩ := h <;> rfl) | (obtain ⟨⟨_, _, rfl, _⟩, _⟩ := h; rfl) | (obtain ⟨_, h⟩ := h))) (FunD.bindsN (ps := P_Words_take_worth) F_Words_take_worth fun _ _ _ _ _ _ us hl => match us, hl with | [_, _], _ => rfl)
  have h_law_number : Def G 3 "_law_number" 2 sp_law_number := Def.of (st := s_law_number) (m := 1) F_law_number g_law_number sc_law_number (d_law_number B h_law_dip) m_law_number rfl rfl (fun ds Q X h => by repeat (first | (refine Or.elim h (fun h => ?_) (fun h => ?_)) | (obtain ⟨rfl, _⟩ := h; rfl) | (obtain ⟨rfl | rfl, _⟩ := h <;> rfl) | (obtain ⟨⟨_, _, rfl, _⟩, _⟩ := h; rfl) | (obtain ⟨_, h⟩ := h))) (FunD.bindsN (ps := P_law_number) F_law_number fun _ _ _ _ _ _ us hl => match us, hl with | [_, _], _ => rfl)
  have h_law_sizes : Def G 3 "_law_sizes" 3 sp_law_sizes := Def.of (st := s_law_sizes) (m := 3) F_law_sizes g_law_sizes sc_law_sizes (d_law_sizes B h_law_dip h_law_times) m_law_sizes rfl rfl (fun ds Q X h => by repeat (first | (refine Or.elim h (fun h => ?_) (fun h => ?_)) | (obtain ⟨rfl, _⟩ := h; rfl) | (obtain ⟨rfl | rfl, _⟩ := h <;> rfl) | (obtain ⟨⟨_, _, rfl, _⟩, _⟩ := h; rfl) | (obtain ⟨_, h⟩ := h))) (FunD.bindsN (ps := P_law_sizes) F_law_sizes fun _ _ _ _ _ _ us hl => match us, hl with | [_, _, _], _ => rfl)
  have h_law_some : Def G 3 "_law_some" 3 sp_law_some := Def.of (st := s_law_some) (m := 3) F_law_some g_law_some sc_law_some (d_law_some B h_law_dip) m_law_some rfl rfl (fun ds Q X h => by repeat (first | (refine Or.elim h (fun h => ?_) (fun h => ?_)) | (obtain ⟨rfl, _⟩ := h; rfl) | (obtain ⟨rfl | rfl, _⟩ := h <;> rfl) | (obtain ⟨⟨_, _, rfl, _⟩, _⟩ := h; rfl) | (obtain ⟨_, h⟩ := h))) (FunD.bindsN (ps := P_law_some) F_law_some fun _ _ _ _ _ _ us hl => match us, hl with | [_, _, _], _ => rfl)
  have h_law_due : Def G 3 "_law_due" 1 sp_law_due := Def.of (st := s_law_due) (m := 9) F_law_due g_law_due sc_law_due (d_law_due B h_law_step h_law_times) m_law_due rfl rfl (fun ds Q X h => by repeat (first | (refine Or.elim h (fun h => ?_) (fun h => ?_)) | (obtain ⟨rfl, _⟩ := h; rfl) | (obtain ⟨rfl | rfl, _⟩ := h <;> rfl) | (obtain ⟨⟨_, _, rfl, _⟩, _⟩ := h; rfl) | (obtain ⟨_, h⟩ := h))) (FunD.bindsN (ps := P_law_due) F_law_due fun _ _ _ _ _ _ us hl => match us, hl with | [_], _ => rfl)
  have h_law_bent_words : Def G 3 "_law_bent_words" 2 sp_law_bent_words := Def.of (st := s_law_bent_words) (m := 4) F_law_bent_words g_law_bent_words sc_law_bent_words (d_law_bent_words B h_law_dip) m_law_bent_words rfl rfl (fun ds Q X h => by repeat (first | (refine Or.elim h (fun h => ?_) (fun h => ?_)) | (obtain ⟨rfl, _⟩ := h; rfl) | (obtain ⟨rfl | rfl, _⟩ := h <;> rfl) | (obtain ⟨⟨_, _, rfl, _⟩, _⟩ := h; rfl) | (obtain ⟨_, h⟩ := h))) (FunD.bindsN (ps := P_law_bent_words) F_law_bent_words fun _ _ _ _ _ _ us hl => match us, hl with | [_, _], _ => rfl)
  have h_Words_take_stroke : MDef G 4 "Words" "take_stroke" 1 sp_Words_take_stroke := MDef.of (st := s_Words_take_stroke) (m := 0) F_Words_take_stroke M_Words_take_stroke C_Words sc_Words_take_stroke (d_Words_take_stroke B h_Words_close h_Words_is_done h_Words_left c_Words_names c_Words_parts c_Words_place c_Words_worths k_MOST_PARTS) m_Words_take_stroke rfl rfl (fun ds Q X h => by repeat (first | (refine Or.elim h (fun h => ?_) (fun h => ?_)) | (obtain ⟨rfl, _⟩ := h; rfl) | (obtain ⟨rfl | rfl, _⟩ := h <;> rfl) | (obtain ⟨⟨_, _, rfl, _⟩, _⟩ := h; rfl) | (obtain ⟨_, h⟩ := h))) (FunD.bindsN (ps := P_Words_take_stroke) F_Words_take_stroke fun _ _ _ _ _ _ us hl => match us, hl with | [_], _ => rfl)
  have h_law_part : Def G 4 "_law_part" 4 sp_law_part := Def.of (st := s_law_part) (m := 4) F_law_part g_law_part sc_law_part (d_law_part B h_law_number h_law_some h_law_times) m_law_part rfl rfl (fun ds Q X h => by repeat (first | (refine Or.elim h (fun h => ?_) (fun h => ?_)) | (obtain ⟨rfl, _⟩ := h; rfl) | (obtain ⟨rfl | rfl, _⟩ := h <;> rfl) | (obtain ⟨⟨_, _, rfl, _⟩, _⟩ := h; rfl) | (obtain ⟨_, h⟩ := h))) (FunD.bindsN (ps := P_law_part) F_law_part fun _ _ _ _ _ _ us hl => match us, hl with | [_, _, _, _], _ => rfl)
  have h_law_bent : Def G 4 "_law_bent" 2 sp_law_bent := Def.of (st := s_law_bent) (m := 7) F_law_bent g_law_bent sc_law_bent (d_law_bent B h_law_bent_words h_law_dip) m_law_bent rfl rfl (fun ds Q X h => by repeat (first | (refine Or.elim h (fun h => ?_) (fun h => ?_)) | (obtain ⟨rfl, _⟩ := h; rfl) | (obtain ⟨rfl | rfl, _⟩ := h <;> rfl) | (obtain ⟨⟨_, _, rfl, _⟩, _⟩ := h; rfl) | (obtain ⟨_, h⟩ := h))) (FunD.bindsN (ps := P_law_bent) F_law_bent fun _ _ _ _ _ _ us hl => match us, hl with | [_, _], _ => rfl)
  have h_law_ends : Def G 4 "_law_ends" 1 sp_law_ends := Def.of (st := s_law_ends) (m := 5) F_law_ends g_law_ends sc_law_ends (d_law_ends B h_law_bent_words h_law_dip) m_law_ends rfl rfl (fun ds Q X h => by repeat (first | (refine Or.elim h (fun h => ?_) (fun h => ?_)) | (obtain ⟨rfl, _⟩ := h; rfl) | (obtain ⟨rfl | rfl, _⟩ := h <;> rfl) | (obtain ⟨⟨_, _, rfl, _⟩, _⟩ := h; rfl) | (obtain ⟨_, h⟩ := h))) (FunD.bindsN (ps := P_law_ends) F_law_ends fun _ _ _ _ _ _ us hl => match us, hl with | [_], _ => rfl)
  have h_Words_take : MDef G 5 "Words" "take" 2 sp_Words_take := MDef.of (st := s_Words_take) (m := 0) F_Words_take M_Words_take C_Words sc_Words_take (d_Words_take B h_Words_take_name h_Words_take_size h_Words_take_stroke h_Words_take_worth h_number_of c_Words_place) m_Words_take rfl rfl (fun ds Q X h => by repeat (first | (refine Or.elim h (fun h => ?_) (fun h => ?_)) | (obtain ⟨rfl, _⟩ := h; rfl) | (obtain ⟨rfl | rfl, _⟩ := h <;> rfl) | (obtain ⟨⟨_, _, rfl, _⟩, _⟩ := h; rfl) | (obtain ⟨_, h⟩ := h))) (FunD.bindsN (ps := P_Words_take) F_Words_take fun _ _ _ _ _ _ us hl => match us, hl with | [_, _], _ => rfl)
  have h_law_sheet : Def G 5 "_law_sheet" 5 sp_law_sheet := Def.of (st := s_law_sheet) (m := 4) F_law_sheet g_law_sheet sc_law_sheet (d_law_sheet B h_law_dip h_law_part h_law_sizes) m_law_sheet rfl rfl (fun ds Q X h => by repeat (first | (refine Or.elim h (fun h => ?_) (fun h => ?_)) | (obtain ⟨rfl, _⟩ := h; rfl) | (obtain ⟨rfl | rfl, _⟩ := h <;> rfl) | (obtain ⟨⟨_, _, rfl, _⟩, _⟩ := h; rfl) | (obtain ⟨_, h⟩ := h))) (FunD.bindsN (ps := P_law_sheet) F_law_sheet fun _ _ _ _ _ _ us hl => match us, hl with | [_, _, _, _, _], _ => rfl)
  have h_read_sheet : Def G 6 "read_sheet" 1 sp_read_sheet := Def.of (st := s_read_sheet) (m := 4) F_read_sheet g_read_sheet sc_read_sheet (d_read_sheet B h_Words_init h_Words_close h_Words_is_done h_Words_take c_Words_parts c_Words_sizes nt) m_read_sheet rfl rfl (fun ds Q X h => by repeat (first | (refine Or.elim h (fun h => ?_) (fun h => ?_)) | (obtain ⟨rfl, _⟩ := h; rfl) | (obtain ⟨rfl | rfl, _⟩ := h <;> rfl) | (obtain ⟨⟨_, _, rfl, _⟩, _⟩ := h; rfl) | (obtain ⟨_, h⟩ := h))) (FunD.bindsN (ps := P_read_sheet) F_read_sheet fun _ _ _ _ _ _ us hl => match us, hl with | [_], _ => rfl)
  have c_law_same : Def G 0 "_law_same" 2 (sp_sameR 0) := Def.none (st := s_law_same) F_law_same g_law_same (FunD.bindsN (ps := P_law_same) F_law_same fun _ _ _ _ _ _ us hl => match us, hl with | [_, _], _ => rfl)
  have c0_law_same : Def G 1 "_law_same" 2 (sp_same 0) := Def.of (st := s_law_same) (m := 2) F_law_same g_law_same sc_law_same (d_law_same B  (sp_law_same := sp_sameR 0) (k0 := 0) (by decide) (by decide) c_law_same) (m_law_same 0) rfl rfl (fun ds Q X h => by repeat (first | (refine Or.elim h (fun h => ?_) (fun h => ?_)) | (obtain ⟨rfl, _⟩ := h; rfl) | (obtain ⟨rfl | rfl, _⟩ := h <;> rfl) | (obtain ⟨⟨_, _, rfl, _⟩, _⟩ := h; rfl) | (obtain ⟨_, h⟩ := h))) (FunD.bindsN (ps := P_law_same) F_law_same fun _ _ _ _ _ _ us hl => match us, hl with | [_, _], _ => rfl)
  have c1_law_same : Def G 2 "_law_same" 2 (sp_same 1) := Def.of (st := s_law_same) (m := 2) F_law_same g_law_same sc_law_same (d_law_same B  (sp_law_same := sp_sameR 1) (k0 := 1) (by decide) (by decide) c0_law_same) (m_law_same 1) rfl rfl (fun ds Q X h => by repeat (first | (refine Or.elim h (fun h => ?_) (fun h => ?_)) | (obtain ⟨rfl, _⟩ := h; rfl) | (obtain ⟨rfl | rfl, _⟩ := h <;> rfl) | (obtain ⟨⟨_, _, rfl, _⟩, _⟩ := h; rfl) | (obtain ⟨_, h⟩ := h))) (FunD.bindsN (ps := P_law_same) F_law_same fun _ _ _ _ _ _ us hl => match us, hl with | [_, _], _ => rfl)
  have c2_law_same : Def G 3 "_law_same" 2 (sp_same 2) := Def.of (st := s_law_same) (m := 2) F_law_same g_law_same sc_law_same (d_law_same B  (sp_law_same := sp_sameR 2) (k0 := 2) (by decide) (by decide) c1_law_same) (m_law_same 2) rfl rfl (fun ds Q X h => by repeat (first | (refine Or.elim h (fun h => ?_) (fun h => ?_)) | (obtain ⟨rfl, _⟩ := h; rfl) | (obtain ⟨rfl | rfl, _⟩ := h <;> rfl) | (obtain ⟨⟨_, _, rfl, _⟩, _⟩ := h; rfl) | (obtain ⟨_, h⟩ := h))) (FunD.bindsN (ps := P_law_same) F_law_same fun _ _ _ _ _ _ us hl => match us, hl with | [_, _], _ => rfl)
  have c3_law_same : Def G 4 "_law_same" 2 (sp_same 3) := Def.of (st := s_law_same) (m := 2) F_law_same g_law_same sc_law_same (d_law_same B  (sp_law_same := sp_sameR 3) (k0 := 3) (by decide) (by decide) c2_law_same) (m_law_same 3) rfl rfl (fun ds Q X h => by repeat (first | (refine Or.elim h (fun h => ?_) (fun h => ?_)) | (obtain ⟨rfl, _⟩ := h; rfl) | (obtain ⟨rfl | rfl, _⟩ := h <;> rfl) | (obtain ⟨⟨_, _, rfl, _⟩, _⟩ := h; rfl) | (obtain ⟨_, h⟩ := h))) (FunD.bindsN (ps := P_law_same) F_law_same fun _ _ _ _ _ _ us hl => match us, hl with | [_, _], _ => rfl)
  have c4_law_same : Def G 5 "_law_same" 2 (sp_same 4) := Def.of (st := s_law_same) (m := 2) F_law_same g_law_same sc_law_same (d_law_same B  (sp_law_same := sp_sameR 4) (k0 := 4) (by decide) (by decide) c3_law_same) (m_law_same 4) rfl rfl (fun ds Q X h => by repeat (first | (refine Or.elim h (fun h => ?_) (fun h => ?_)) | (obtain ⟨rfl, _⟩ := h; rfl) | (obtain ⟨rfl | rfl, _⟩ := h <;> rfl) | (obtain ⟨⟨_, _, rfl, _⟩, _⟩ := h; rfl) | (obtain ⟨_, h⟩ := h))) (FunD.bindsN (ps := P_law_same) F_law_same fun _ _ _ _ _ _ us hl => match us, hl with | [_, _], _ => rfl)
  have c5_law_same : Def G 6 "_law_same" 2 (sp_same 5) := Def.of (st := s_law_same) (m := 2) F_law_same g_law_same sc_law_same (d_law_same B  (sp_law_same := sp_sameR 5) (k0 := 5) (by decide) (by decide) c4_law_same) (m_law_same 5) rfl rfl (fun ds Q X h => by repeat (first | (refine Or.elim h (fun h => ?_) (fun h => ?_)) | (obtain ⟨rfl, _⟩ := h; rfl) | (obtain ⟨rfl | rfl, _⟩ := h <;> rfl) | (obtain ⟨⟨_, _, rfl, _⟩, _⟩ := h; rfl) | (obtain ⟨_, h⟩ := h))) (FunD.bindsN (ps := P_law_same) F_law_same fun _ _ _ _ _ _ us hl => match us, hl with | [_, _], _ => rfl)
  have h_law_same : Def G 7 "_law_same" 2 (sp_same 6) := Def.of (st := s_law_same) (m := 2) F_law_same g_law_same sc_law_same (d_law_same B  (sp_law_same := sp_sameR 6) (k0 := 6) (by decide) (by decide) c5_law_same) (m_law_same 6) rfl rfl (fun ds Q X h => by repeat (first | (refine Or.elim h (fun h => ?_) (fun h => ?_)) | (obtain ⟨rfl, _⟩ := h; rfl) | (obtain ⟨rfl | rfl, _⟩ := h <;> rfl) | (obtain ⟨⟨_, _, rfl, _⟩, _⟩ := h; rfl) | (obtain ⟨_, h⟩ := h))) (FunD.bindsN (ps := P_law_same) F_law_same fun _ _ _ _ _ _ us hl => match us, hl with | [_, _], _ => rfl)
  have h_law_told : Def G 7 "_law_told" 1 sp_law_told := Def.of (st := s_law_told) (m := 3) F_law_told g_law_told sc_law_told (d_law_told B h_law_class h_read_sheet g_NoText hXC hXI nt) m_law_told rfl rfl (fun ds Q X h => by repeat (first | (refine Or.elim h (fun h => ?_) (fun h => ?_)) | (obtain ⟨rfl, _⟩ := h; rfl) | (obtain ⟨rfl | rfl, _⟩ := h <;> rfl) | (obtain ⟨⟨_, _, rfl, _⟩, _⟩ := h; rfl) | (obtain ⟨_, h⟩ := h))) (FunD.bindsN (ps := P_law_told) F_law_told fun _ _ _ _ _ _ us hl => match us, hl with | [_], _ => rfl)
  exact Def.ok (G := G) (st := s_law) (m := 5) F_law sc_law (d_law B h_law_bent h_law_due h_law_ends h_law_jar h_law_same h_law_sheet h_law_text h_law_told) m_law rfl
end LS.WD.RF.K56.E
open PySem PySem.W PySem.Calls PyProof.Rows
theorem PySem.Challenge.cw_sumorder_k56_texts_refused_holds : PySem.Challenge.rw_sumorder_k56_texts_refused.Holds := by
  refine LS.WD.RF.K56.E.hold3 ?_
  intro w mg f h Y N hm
  obtain ⟨K, X, c, cx⟩ := Y
  obtain ⟨fd, hb, hF⟩ := LS.WD.RF.K56.E.facts (w := w) X N hm c cx
  exact ⟨K, fd, _, X, hb, fun H a ns hl hS => HD.law_sp hl hS, hF⟩
