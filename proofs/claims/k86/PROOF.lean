import PyProof.Rows.All
import Wide.All
import OpenK.AllK
import Wide.FinOn
import HandS.ForMost
import HandS.ForExc
import HandS.TupAny
import HandS.Conv
import HandS.HeadHook1
import HandS.Words
import HandS.WordsExc
import HandS.Ends
import HandS.ExcOwn
import HandS.TupLe
import HandS.Wide
import HandS.Strs
import HandS.SetFor
import HandS.SortInts
import HandS.IsInst
import HandS.Zip
import HandS.Flow
import HandS.Style
import KE.GoesNew
import KE.GoesMore
import HandS.ExcValue
import HandS.ExcIs
import HandS.HeadHook2
import HandS.Text
import PyProof.ReprRoads
import PyProof.ReprBulk
import PyProof.Rows.RegStrFacts
import HandS.RaiseMore
import KE.GoesEnum
import HandS.TupMul
import KE.KItemsList
import KE.KDictZip
import HandS.ListItems
import KE.KTupSum
import KE.KStateDown
import HandS.Defaults
import HandS.Head0
import HandS.Head1
import HandS.Head2
import HandS.HeadEnd
import HandS.HeadNt
import PySem.Challenge.RW_sumorder_k86_whole_numbers
set_option Elab.async false
set_option linter.all false
set_option maxRecDepth 100000
set_option maxHeartbeats 0
set_option autoImplicit false
/-! HD0: tuples that are made are known to the object (so their methods may be called): the makers' rules anew. -/
namespace HD
open PySem PyProof.Rows L2

/-- a tuple that is known to bear no dict -/
def TupD (K : PySem.W.Frag) (H : Hp) (a : Addr) (xs : List V) : Prop :=
  (∃ o : Obj, H a = some (.frz o (.tup xs)) ∧ o.dict = none) ∨
    ∃ (o : Obj) (its : Array Value) (n : Nat), K.lookup a = some o ∧ o.cls = .type "tuple" ∧ o.data = .seq its n ∧ its.size ≤ sizeLine ∧ Vals xs its.toList ∧ o.dict = none
theorem TupD.sq {K : PySem.W.Frag} {H : Hp} {a : Addr} {xs : List V} (h : TupD K H a xs) : SqT K H a xs := by
  rcases h with ⟨o, h, _⟩ | ⟨o, its, n, h1, h2, h3, h4, h5, _⟩
  · exact .inl (.inr ⟨o, h⟩)
  · exact .inr ⟨o, its, n, h1, h2, h3, h4, h5⟩
theorem TupD.same {K : PySem.W.Frag} {H H' : Hp} {a : Addr} {xs : List V} (e : Same H H') (h : TupD K H a xs) : TupD K H' a xs := by
  rcases h with ⟨o, h, d⟩ | h
  · exact .inl ⟨o, e _ _ h, d⟩
  · exact .inr h
theorem TupD.noDict {X : Cx} {pins : List (Addr × Obj)} {σ : L2.St} {H : Hp} {s : Shared} {a : Addr} {xs : List V} (I : Inv X pins σ H s) (h : TupD X.K H a xs) : ∃ ob, s.heap.get? a = some ob ∧ ob.dict = none := by
  rcases h with ⟨o, h, d⟩ | ⟨o, its, n, h1, h2, h3, h4, h5, d⟩
  · obtain ⟨e, _⟩ := (show ObjOk X.prog X.w H s.heap a (.frz o (.tup xs)) from I.hok a _ h)
    exact ⟨o, e, d⟩
  · exact ⟨o, I.kIn a o h1, d⟩
/-- a new tuple -/
def newT (H : Hp) (xs : List V) (Q : VK) : Prop := ∀ (p : Addr) (o : Obj), H p = none → o.dict = none → Q (.ref p) (upd H p (.frz o (.tup xs)))
theorem laidT {X : Cx} {pins : List (Addr × Obj)} {σ : L2.St} {H : Hp} {s : Shared} {Q : VK} {xs : List V} {its : List Value} {tk : Nat} (I : Inv X pins σ H s) (r : Vals xs its) (hz : xs.length ≤ sizeLine) (q : newT H xs Q) :
    EP X pins σ Q (.ref s.heap.objs.size) { s with heap := s.heap.push { cls := .type "tuple", data := .seq its.toArray }, toks := tk } := by
  have hf : H s.heap.objs.size = none := I.hok.fresh (Nat.le_refl _)
  refine ⟨.ref s.heap.objs.size, _, I.laid (t' := tk) (fun b u e => Heap.get?_push_of_some _ e) (Nat.le_refl _) ?_, rfl, q _ { cls := .type "tuple", data := .seq its.toArray } hf rfl⟩
  exact ⟨Heap.get?_push_size _ rfl, hz, its, r, IsTup.new _ _⟩
section
variable {X : Cx}
def tTupF (t : TA) : TE := fun σ H Q => t σ H fun xs H1 => xs.length ≤ sizeLine ∧ newT H1 xs Q
theorem pe_tupF {x1} {es : List Expr} {t : TA} {pos : Pos} (h : PA X es t) : PE X (.Tuple es x1 pos) (tTupF t) := by
  refine ⟨fun pins s σ H Q I hq => ?_⟩
  refine wpAny_Tuple_spliced (thn (h.run pos pins s σ H _ I hq) fun us s1 ⟨xs, H1, I1, r, z, q⟩ => ⟨by rw [← r.length]; exact z, ?_⟩)
  exact laidT (tk := s1.toks) I1 r z q
/-- t + u -/
def rCatF (K : PySem.W.Frag) : R2 := fun x y H Q => ∃ a b xs ys, x = .ref a ∧ y = .ref b ∧ SqT K H a xs ∧ SqT K H b ys ∧ xs.length + ys.length ≤ sizeLine ∧
  (xs = [] → Q (.ref b) H) ∧ (xs ≠ [] → ys = [] → Q (.ref a) H) ∧ (xs ≠ [] → ys ≠ [] → newT H (xs ++ ys) Q)
theorem op_catF : OpR X (binaryOp .Add) (rCatF X.K) := by
  intro pins s σ H x y v u Q I rx ry h
  obtain ⟨a, b, xs, ys, rfl, rfl, ha, hb, hz, q0, q1, q2⟩ := h
  cases rx
  cases ry
  obtain ⟨its, r1, p1, _⟩ := I.tuple ha
  obtain ⟨its2, r2, p2, _⟩ := I.tuple hb
  by_cases hx : xs = []
  · subst hx
    cases r1
    exact cat_tup0 p1 p2 ⟨.ref b, H, I, rfl, q0 rfl⟩
  · refine HT.cat_tup p1 p2 (fun z => hx (r1.nil_iff.mp z)) (fun z => ⟨.ref a, H, I, rfl, q1 hx (r2.nil_iff.mp z)⟩) (fun z => ?_) (by rw [← r1.length, ← r2.length]; exact hz)
    exact laidT (tk := s.toks) I (r1.append r2) (by rw [List.length_append]; exact hz) (q2 hx fun w => z (r2.nil_iff.mpr w))
/-- t[lo:hi] -/
def rSlF (K : PySem.W.Frag) : V → Option Int → Option Int → Hp → VK → Prop := fun x lo hi H Q => ∃ a xs, x = .ref a ∧ SqT K H a xs ∧
  (HT.sIx xs.length 0 lo = 0 ∧ HT.sIx xs.length xs.length hi = xs.length → Q (.ref a) H) ∧ (¬ (HT.sIx xs.length 0 lo = 0 ∧ HT.sIx xs.length xs.length hi = xs.length) → newT H (cutV xs lo hi) Q)
theorem sl_tupF : SlR X (rSlF X.K) := by
  intro pins s σ H x v vl vu lo hi sl Q I rx hs pl pu h
  obtain ⟨a, xs, rfl, hx, q1, q2⟩ := h
  cases rx
  obtain ⟨its, r, ht, hz⟩ := I.tuple hx
  have hlen : its.toArray.size = xs.length := by
    rw [List.size_toArray]
    exact r.length.symm
  refine ⟨"tuple", _, PyProof.Rows.slot_tuple_getitem.lookup, ht.typeIs, ?_⟩
  by_cases hw : HT.sIx xs.length 0 lo = 0 ∧ HT.sIx xs.length xs.length hi = xs.length
  · exact getItem_tuple_whole ht hs pl pu (by rw [hlen]; exact hw) ⟨.ref a, H, I, rfl, q1 hw⟩
  · refine HT.getItem_tuple_cut ht hs pl pu (by rw [hlen]; exact hw) ?_ (by rw [hlen]; exact hz)
    rw [hlen]
    exact laidT (tk := s.toks) I ((r.drop (HT.sIx xs.length 0 lo)).take (HT.sIx xs.length xs.length hi - HT.sIx xs.length 0 lo)) (Nat.le_trans (cutV_length xs lo hi) hz) (q2 hw)
/-- tuple(x) -/
theorem call_tupleF : CallR X (.type "tuple") (fun xs H Q => ∃ p ys, xs = [.ref p] ∧ ((SqL X.K H p ys ∧ newT H ys Q) ∨ (SqT X.K H p ys ∧ Q (.ref p) H))) := by
  intro pins s σ H xs us Q I r h
  obtain ⟨p, ys, rfl, h⟩ := h
  obtain ⟨u, rfl, rx⟩ := vals1 r
  cases rx
  rcases h with ⟨hq, q⟩ | ⟨hq, q⟩
  · obtain ⟨its, r', pl, hz⟩ := I.list hq
    have hlen := r'.length
    refine call_tuple_list pl.isList (fun h' kp => ?_) (by simp only [List.size_toArray] <;> omega)
    have I1 : Inv X pins σ H { s with heap := h' } := I.kept (t' := s.toks) kp
    exact laidT (tk := s.toks) I1 r' hz q
  · obtain ⟨its, r', pl, hz⟩ := I.tuple hq
    exact call_tuple_same pl ⟨.ref p, H, I, rfl, q⟩
def tTupRgF (te : L2.St → Hp → (Int → Int → Hp → Prop) → Prop) : TE := fun σ H Q => te σ H fun a b H1 => RgOk a b ∧ newT H1 (rgV a b) Q
theorem pe_tupRgF {e : Expr} {te : L2.St → Hp → (Int → Int → Hp → Prop) → Prop} {p pos : Pos} (hc : X.calm = true) (hg : Gl X "tuple") (hm : X.mg "tuple" = none) (he : PRg X e te) (na : starEach [e] X.env = (false, eval e X.env) :: starEach [] X.env) : PE X (.Call (.Name "tuple" p) [e] [] pos) (tTupRgF te) := by
  refine ⟨fun pins s σ H Q I h => ?_⟩
  refine Call_ (ld_blt I hg hm boot_tuple (PyProof.Rows.callWith_type1 (args_cons (thn (he pins s σ H _ I h) fun x s1 ⟨r, a, b, t, u, v, H1, ex, hr, I1, ok, q⟩ => args_nil ?_) na) na))
  subst ex
  obtain ⟨b1, b2, b3, b4, b5⟩ := ok
  refine call_tuple_range (n := (b - a).toNat) (I1.ok.hd hc) hr (small_one b1 b2 b3 b4) (rangeSize_nat a b) b5 fun h' tk acc hk hi => ?_
  have I2 : Inv X pins σ H1 { s1 with heap := h', toks := tk } := I1.kept hk
  have z := laidT (tk := tk) I2 (vals_rg hi) (by rw [rgV_length, sizeLine_eq]; omega) q
  rw [Array.toArray_toList] at z
  exact z
end
end HD

/-! HD1: pure data over the hand layer: data D, frozen heap F, slots, the invariant Holds. -/
namespace HD
open PySem L2

/-- the class of this name -/
abbrev clsV (K : PySem.W.Frag) (x : Str) : Value := .ref (He.ga K x)
inductive D where
  | non | bl (b : Bool) | int (i : Int) | str (x : Str) | val (v : V)
  | lst (ds : List D) | tup (ds : List D) | fz (ds : List D) | tk (ds : List D)
  | exc (c : Str)
  | glo (x : Str)

mutual
def Rep (K : PySem.W.Frag) (F : Hp) : D → V → Prop
  | .non, v => v = .non
  | .bl b, v => v = .bl b
  | .int i, v => v = .int i
  | .str x, v => v = .str x
  | .val u, v => v = u
  | .lst ds, v => ∃ a xs, v = .ref a ∧ F a = some (.lst xs) ∧ Reps K F ds xs
  | .fz ds, v => ∃ a xs, v = .ref a ∧ SqL K F a xs ∧ Reps K F ds xs
  | .tup ds, v => ∃ a xs, v = .ref a ∧ TupD K F a xs ∧ Reps K F ds xs
  | .tk ds, v => ∃ a xs, v = .ref a ∧ SqT K F a xs ∧ Reps K F ds xs
  | .glo x, v => v = .ref (He.ga K x)
  | .exc c, v => ∃ a oe, v = .ref a ∧ F a = some (.frz oe (.own a)) ∧ oe.cls = clsV K c ∧ oe.dict = none ∧ ∃ vs, oe.data = .fields vs
def Reps (K : PySem.W.Frag) (F : Hp) : List D → List V → Prop
  | [], vs => vs = []
  | d :: ds, vs => ∃ v r, vs = v :: r ∧ Rep K F d v ∧ Reps K F ds r
end

theorem SqT.same {K : PySem.W.Frag} {F F' : Hp} {a : Addr} {xs : List V} (e : Same F F') (h : SqT K F a xs) : SqT K F' a xs := by
  rcases h with (h | ⟨o, h⟩) | h
  · exact .inl (.inl (e _ _ h))
  · exact .inl (.inr ⟨o, e _ _ h⟩)
  · exact .inr h

section
variable {K : PySem.W.Frag} {F F' : Hp}
mutual
theorem Rep.same (e : Same F F') : ∀ {d : D} {v : V}, Rep K F d v → Rep K F' d v
  | .non, _, h => h
  | .bl _, _, h => h
  | .int _, _, h => h
  | .str _, _, h => h
  | .val _, _, h => h
  | .lst _, _, h => by
    obtain ⟨a, xs, rfl, hs, hr⟩ := h
    exact ⟨a, xs, rfl, e _ _ hs, Reps.same e hr⟩
  | .fz _, _, h => by
    obtain ⟨a, xs, rfl, hs, hr⟩ := h
    exact ⟨a, xs, rfl, e.seq hs, Reps.same e hr⟩
  | .tup _, _, h => by
    obtain ⟨a, xs, rfl, hs, hr⟩ := h
    exact ⟨a, xs, rfl, TupD.same e hs, Reps.same e hr⟩
  | .tk _, _, h => by
    obtain ⟨a, xs, rfl, hs, hr⟩ := h
    exact ⟨a, xs, rfl, SqT.same e hs, Reps.same e hr⟩
  | .glo _, _, h => h
  | .exc _, _, h => by
    obtain ⟨a, oe, rfl, hs, hr⟩ := h
    exact ⟨a, oe, rfl, e _ _ hs, hr⟩
theorem Reps.same (e : Same F F') : ∀ {ds : List D} {vs : List V}, Reps K F ds vs → Reps K F' ds vs
  | [], _, h => h
  | _ :: _, _, h => by
    obtain ⟨v, r, rfl, h1, h2⟩ := h
    exact ⟨v, r, rfl, Rep.same e h1, Reps.same e h2⟩
end

theorem Reps.nil : Reps K F [] [] := rfl
theorem Reps.cons {d : D} {v : V} {ds : List D} {vs : List V} (h : Rep K F d v) (t : Reps K F ds vs) : Reps K F (d :: ds) (v :: vs) := ⟨v, vs, rfl, h, t⟩
theorem Reps.length : ∀ {ds : List D} {vs : List V}, Reps K F ds vs → ds.length = vs.length
  | [], _, h => by
    have e : _ = [] := h
    rw [e]
    rfl
  | _ :: ds, _, h => by
    obtain ⟨v, r, rfl, _, h2⟩ := h
    rw [List.length_cons, List.length_cons, Reps.length h2]
theorem Reps.get : ∀ {ds : List D} {vs : List V} {i : Nat} {d : D}, Reps K F ds vs → ds[i]? = some d → ∃ v, vs[i]? = some v ∧ Rep K F d v
  | [], _, _, _, _, e => by simp at e
  | _ :: ds, _, 0, _, h, e => by
    obtain ⟨v, r, rfl, h1, _⟩ := h
    have e' := Option.some.inj e
    subst e'
    exact ⟨v, rfl, h1⟩
  | _ :: ds, _, i + 1, _, h, e => by
    obtain ⟨v, r, rfl, _, h2⟩ := h
    exact Reps.get (i := i) h2 e
theorem Reps.getV : ∀ {ds : List D} {vs : List V} {i : Nat} {v : V}, Reps K F ds vs → vs[i]? = some v → ∃ d, ds[i]? = some d ∧ Rep K F d v
  | [], _, _, _, h, e => by
    have z : _ = [] := h
    rw [z] at e
    simp at e
  | d :: ds, _, 0, _, h, e => by
    obtain ⟨v, r, rfl, h1, _⟩ := h
    have e' := Option.some.inj e
    subst e'
    exact ⟨d, rfl, h1⟩
  | _ :: ds, _, i + 1, _, h, e => by
    obtain ⟨v, r, rfl, _, h2⟩ := h
    exact Reps.getV (i := i) h2 e
theorem Reps.of_get : ∀ {ds : List D} {vs : List V}, ds.length = vs.length → (∀ (i : Nat) d v, ds[i]? = some d → vs[i]? = some v → Rep K F d v) → Reps K F ds vs
  | [], [], _, _ => rfl
  | [], _ :: _, e, _ => by simp at e
  | _ :: _, [], e, _ => by simp at e
  | d :: ds, v :: vs, e, h => ⟨v, vs, rfl, h 0 d v rfl rfl, Reps.of_get (by simpa using e) fun i d' v' h1 h2 => h (i + 1) d' v' h1 h2⟩
theorem Reps.append : ∀ {ds es : List D} {vs us : List V}, Reps K F ds vs → Reps K F es us → Reps K F (ds ++ es) (vs ++ us)
  | [], _, _, _, h, g => by
    have e : _ = [] := h
    rw [e]
    exact g
  | _ :: _, _, _, _, h, g => by
    obtain ⟨v, r, rfl, h1, h2⟩ := h
    exact ⟨v, _, rfl, h1, Reps.append h2 g⟩
theorem Reps.one {d : D} {v : V} (h : Rep K F d v) : Reps K F [d] [v] := .cons h .nil
theorem Reps.take {ds : List D} {vs : List V} (h : Reps K F ds vs) (n : Nat) : Reps K F (ds.take n) (vs.take n) := by
  refine Reps.of_get (by rw [List.length_take, List.length_take, h.length]) fun i d v h1 h2 => ?_
  rw [List.getElem?_take] at h1 h2
  split at h1
  · rename_i hi
    rw [if_pos hi] at h2
    obtain ⟨v', e, r⟩ := h.get h1
    rw [h2] at e
    cases e
    exact r
  · cases h1
theorem Reps.drop {ds : List D} {vs : List V} (h : Reps K F ds vs) (n : Nat) : Reps K F (ds.drop n) (vs.drop n) := by
  refine Reps.of_get (by rw [List.length_drop, List.length_drop, h.length]) fun i d v h1 h2 => ?_
  rw [List.getElem?_drop] at h1 h2
  obtain ⟨v', e, r⟩ := h.get h1
  rw [h2] at e
  cases e
  exact r
theorem Reps.set {ds : List D} {vs : List V} (h : Reps K F ds vs) (n : Nat) {d : D} {v : V} (hd : Rep K F d v) : Reps K F (ds.set n d) (vs.set n v) := by
  refine Reps.of_get (by rw [List.length_set, List.length_set, h.length]) fun i d' v' h1 h2 => ?_
  rw [List.getElem?_set] at h1 h2
  split at h1
  · rename_i hi
    rw [if_pos hi] at h2
    split at h1
    · split at h2
      · cases h1
        cases h2
        exact hd
      · cases h2
    · cases h1
  · rename_i hi
    rw [if_neg hi] at h2
    obtain ⟨w, e, r⟩ := h.get h1
    rw [h2] at e
    cases e
    exact r
theorem Reps.eraseIdx : ∀ {ds : List D} {vs : List V} (n : Nat), Reps K F ds vs → Reps K F (ds.eraseIdx n) (vs.eraseIdx n)
  | [], _, _, h => by
    have e : _ = [] := h
    rw [e]
    exact rfl
  | _ :: _, _, 0, h => by
    obtain ⟨v, r, rfl, _, h2⟩ := h
    exact h2
  | _ :: _, _, n + 1, h => by
    obtain ⟨v, r, rfl, h1, h2⟩ := h
    exact ⟨v, _, rfl, h1, Reps.eraseIdx n h2⟩
theorem Reps.reverse : ∀ {ds : List D} {vs : List V}, Reps K F ds vs → Reps K F ds.reverse vs.reverse
  | [], _, h => by
    have e : _ = [] := h
    rw [e]
    exact rfl
  | _ :: _, _, h => by
    obtain ⟨v, r, rfl, h1, h2⟩ := h
    rw [List.reverse_cons, List.reverse_cons]
    exact (Reps.reverse h2).append (.one h1)
theorem Reps.dropLast {ds : List D} {vs : List V} (h : Reps K F ds vs) : Reps K F ds.dropLast vs.dropLast := by
  rw [List.dropLast_eq_take, List.dropLast_eq_take, h.length]
  exact h.take _
/-- ints, texts, bools -/
theorem Reps.ints : ∀ {ns : List Int} {vs : List V}, Reps K F (ns.map D.int) vs → vs = ns.map V.int
  | [], _, h => h
  | n :: ns, _, h => by
    obtain ⟨v, r, rfl, h1, h2⟩ := h
    have e : v = .int n := h1
    rw [e, Reps.ints (ns := ns) h2]
    rfl
theorem Reps.of_ints : ∀ (ns : List Int), Reps K F (ns.map D.int) (ns.map V.int)
  | [] => rfl
  | n :: ns => ⟨_, _, rfl, rfl, Reps.of_ints ns⟩
theorem Reps.bls : ∀ {bs : List Bool} {vs : List V}, Reps K F (bs.map D.bl) vs → vs = bs.map V.bl
  | [], _, h => h
  | n :: ns, _, h => by
    obtain ⟨v, r, rfl, h1, h2⟩ := h
    have e : v = .bl n := h1
    rw [e, Reps.bls (bs := ns) h2]
    rfl
theorem Reps.strs : ∀ {ns : List Str} {vs : List V}, Reps K F (ns.map D.str) vs → vs = ns.map V.str
  | [], _, h => h
  | n :: ns, _, h => by
    obtain ⟨v, r, rfl, h1, h2⟩ := h
    have e : v = .str n := h1
    rw [e, Reps.strs (ns := ns) h2]
    rfl
end

/-! ### slots -/
/-- an owned object of a region, in data -/
inductive OC where
  | lst (ds : List D)
  | dk (kvs : List (Key × D))
def OC.ok (K : PySem.W.Frag) (F : Hp) : OC → HO → Prop
  | .lst ds, o => ∃ vs, o = .lst vs ∧ Reps K F ds vs
  | .dk kvs, o => ∃ vs : List (Key × V), o = .dK vs ∧ vs.map (·.1) = kvs.map (·.1) ∧ Reps K F (kvs.map (·.2)) (vs.map (·.2))
theorem OC.ok.same {K : PySem.W.Frag} {F F' : Hp} (e : Same F F') : ∀ {c : OC} {o : HO}, OC.ok K F c o → OC.ok K F' c o
  | .lst _, _, ⟨vs, h1, h2⟩ => ⟨vs, h1, h2.same e⟩
  | .dk _, _, ⟨vs, h1, h2, h3⟩ => ⟨vs, h1, h2, h3.same e⟩
/-- what may be changed: a list or a dict -/
def Loose (o : HO) : Prop := (∃ vs, o = .lst vs) ∨ ∃ kvs, o = .dK kvs
theorem OC.ok.loose {K : PySem.W.Frag} {F : Hp} : ∀ {c : OC} {o : HO}, OC.ok K F c o → Loose o
  | .lst _, _, ⟨vs, h1, _⟩ => .inl ⟨vs, h1⟩
  | .dk _, _, ⟨vs, h1, _⟩ => .inr ⟨vs, h1⟩
inductive Sl where
  | un
  | ext (d : D)
  | lst (a : Addr) (ds : List D)
  | al (i : Nat) (a : Addr)
  | reg (a : Addr) (cs : List (Addr × OC))

def Sl.owned : Sl → List Addr
  | .lst a _ => [a]
  | .reg _ cs => cs.map (·.1)
  | _ => []
def SlOk (K : PySem.W.Frag) (F H : Hp) (v : V) : Sl → Prop
  | .un => True
  | .ext d => Rep K F d v
  | .lst a ds => v = .ref a ∧ F a = none ∧ ∃ vs, H a = some (.lst vs) ∧ Reps K F ds vs
  | .al _ a => v = .ref a
  | .reg a cs => v = .ref a ∧ (cs.map (·.1)).Nodup ∧ ∀ p ∈ cs, F p.1 = none ∧ ∃ o, H p.1 = some o ∧ OC.ok K F p.2 o
theorem SlOk.ndo {K : PySem.W.Frag} {F H : Hp} {v : V} : ∀ {sl : Sl}, SlOk K F H v sl → sl.owned.Nodup
  | .un, _ => List.nodup_nil
  | .ext _, _ => List.nodup_nil
  | .al _ _, _ => List.nodup_nil
  | .lst _ _, _ => List.pairwise_singleton _ _
  | .reg _ _, h => h.2.1

structure Ent where
  F0 : Hp
  H0 : Hp
  A0 : List Addr

abbrev Env' := List Sl
abbrev Tmp := List (V × Sl)
def ownedE (env : Env') : List Addr := env.flatMap Sl.owned
def ownedT (T : Tmp) : List Addr := T.flatMap fun p => p.2.owned

structure Holds (K : PySem.W.Frag) (e : Ent) (env : Env') (T : Tmp) (F : Hp) (σ : St) (H : Hp) : Prop where
  fh : Same F H
  len : env.length = σ.length
  slots : ∀ (i : Nat) sl, env[i]? = some sl → sl = .un ∨ ∃ v, σ[i]? = some (some v) ∧ SlOk K F H v sl
  temps : ∀ p ∈ T, SlOk K F H p.1 p.2
  nd : (ownedE env ++ ownedT T).Nodup
  s1 : Same e.F0 F
  s2 : ∀ a o, e.H0 a = some o → a ∉ e.A0 → H a = some o ∧ (e.F0 a = none → F a = none)
  s3 : ∀ a ∈ ownedE env ++ ownedT T, a ∈ e.A0 ∨ e.H0 a = none

/-- the heap and its frozen part grow -/
structure Grow (F H F1 H1 : Hp) : Prop where
  ff : Same F F1
  hh : Same H H1
  fh : Same F1 H1
  new : ∀ a, F1 a ≠ none → F a ≠ none ∨ H a = none
theorem Grow.refl {F H : Hp} (h : Same F H) : Grow F H F H := ⟨Same.refl _, Same.refl _, h, fun _ z => .inl z⟩
theorem Grow.trans {F H F1 H1 F2 H2 : Hp} (g : Grow F H F1 H1) (k : Grow F1 H1 F2 H2) : Grow F H F2 H2 :=
  ⟨g.ff.trans k.ff, g.hh.trans k.hh, k.fh, fun a z => by
    rcases k.new a z with z | z
    · exact g.new a z
    · exact .inr (g.hh.free z)⟩
/-- a new object, frozen -/
theorem Grow.frozen {F H : Hp} {p : Addr} {o : HO} (fh : Same F H) (n : H p = none) : Grow F H (upd F p o) (upd H p o) where
  ff := fun b x q => by
    rw [upd_ne (ne_of_none (fh _ _ q) n)]
    exact q
  hh := fun b x q => by
    rw [upd_ne (ne_of_none q n)]
    exact q
  fh := fun b x q => by
    by_cases e : b = p
    · subst e
      rw [upd_same] at q ⊢
      exact q
    · rw [upd_ne e] at q ⊢
      exact fh _ _ q
  new := fun a z => by
    by_cases e : a = p
    · subst e
      exact .inr n
    · rw [upd_ne e] at z
      exact .inl z
/-- a new object that is not frozen -/
theorem Grow.loose {F H : Hp} {p : Addr} {o : HO} (fh : Same F H) (n : H p = none) : Grow F H F (upd H p o) where
  ff := Same.refl _
  hh := fun b x q => by
    rw [upd_ne (ne_of_none q n)]
    exact q
  fh := fun b x q => by
    rw [upd_ne (ne_of_none (fh _ _ q) n)]
    exact fh _ _ q
  new := fun a z => .inl z

theorem SlOk.grow {K : PySem.W.Frag} {F H F1 H1 : Hp} {v : V} (g : Grow F H F1 H1) : ∀ {sl : Sl}, SlOk K F H v sl → SlOk K F1 H1 v sl
  | .un, _ => trivial
  | .ext d, h => Rep.same g.ff h
  | .al _ _, h => h
  | .lst a ds, h => by
    obtain ⟨rfl, n, vs, hv, hr⟩ := h
    refine ⟨rfl, ?_, vs, g.hh _ _ hv, hr.same g.ff⟩
    cases q : F1 a with
    | none => rfl
    | some o =>
      rcases g.new a (by rw [q]; simp) with z | z
      · exact absurd n z
      · rw [hv] at z
        cases z
  | .reg a cs, h => by
    obtain ⟨rfl, nd, hc⟩ := h
    refine ⟨rfl, nd, fun p hp => ?_⟩
    obtain ⟨n, o, ho, ok⟩ := hc p hp
    refine ⟨?_, o, g.hh _ _ ho, ok.same g.ff⟩
    cases q : F1 p.1 with
    | none => rfl
    | some o' =>
      rcases g.new p.1 (by rw [q]; simp) with z | z
      · exact absurd n z
      · rw [ho] at z
        cases z
section
variable {K : PySem.W.Frag} {e : Ent} {env : Env'} {T : Tmp} {F F1 : Hp} {σ : St} {H H1 : Hp}
theorem Holds.ownedL (h : Holds K e env T F σ H) : ∀ a ∈ ownedE env ++ ownedT T, F a = none ∧ ∃ o, H a = some o ∧ Loose o := fun a ha => by
  have key : ∀ v (sl : Sl), SlOk K F H v sl → a ∈ sl.owned → F a = none ∧ ∃ o, H a = some o ∧ Loose o := fun v sl ok hm => by
    cases sl with
    | un => cases hm
    | ext d => cases hm
    | al i b => cases hm
    | lst b ds =>
      obtain ⟨_, n, vs, hv, _⟩ := ok
      have z : a = b := List.mem_singleton.mp hm
      subst z
      exact ⟨n, _, hv, .inl ⟨vs, rfl⟩⟩
    | reg b cs =>
      obtain ⟨_, _, hc⟩ := ok
      obtain ⟨p, hp, rfl⟩ := List.mem_map.mp hm
      obtain ⟨n, o, ho, ok⟩ := hc p hp
      exact ⟨n, o, ho, ok.loose⟩
  rcases List.mem_append.mp ha with ha | ha
  · obtain ⟨sl, hs, hm⟩ := List.mem_flatMap.mp ha
    obtain ⟨i, hi, rfl⟩ := List.getElem_of_mem hs
    rcases h.slots i _ (List.getElem?_eq_getElem hi) with z | ⟨v, _, ok⟩
    · rw [z] at hm
      cases hm
    · exact key v _ ok hm
  · obtain ⟨p, hp, hm⟩ := List.mem_flatMap.mp ha
    exact key p.1 p.2 (h.temps p hp) hm
theorem Holds.ownedH (h : Holds K e env T F σ H) : ∀ a ∈ ownedE env ++ ownedT T, F a = none ∧ ∃ o, H a = some o := fun a ha => by
  obtain ⟨n, o, ho, _⟩ := h.ownedL a ha
  exact ⟨n, o, ho⟩
theorem Holds.grow (h : Holds K e env T F σ H) (g : Grow F H F1 H1) : Holds K e env T F1 σ H1 where
  fh := g.fh
  len := h.len
  slots := fun i sl q => by
    rcases h.slots i sl q with z | ⟨v, hv, ok⟩
    · exact .inl z
    · exact .inr ⟨v, hv, ok.grow g⟩
  temps := fun p hp => (h.temps p hp).grow g
  nd := h.nd
  s1 := h.s1.trans g.ff
  s2 := fun a o q n => by
    obtain ⟨q1, q2⟩ := h.s2 a o q n
    refine ⟨g.hh _ _ q1, fun z => ?_⟩
    cases r : F1 a with
    | none => rfl
    | some x =>
      rcases g.new a (by rw [r]; simp) with y | y
      · exact absurd (q2 z) y
      · rw [q1] at y
        cases y
  s3 := h.s3
/-- a value joins the temps: what it owns is new -/
theorem Holds.push {v : V} {sl : Sl} (h : Holds K e env T F σ H) (g : Grow F H F1 H1) (ok : SlOk K F1 H1 v sl) (own : ∀ a ∈ sl.owned, H a = none) : Holds K e env ((v, sl) :: T) F1 σ H1 := by
  have h1 := h.grow g
  have old := h.ownedH
  have ndo : sl.owned.Nodup := ok.ndo
  have dis : ∀ a ∈ sl.owned, a ∉ ownedE env ++ ownedT T := fun a ha hb => by
    obtain ⟨_, vs, q⟩ := old a hb
    rw [own a ha] at q
    cases q
  refine ⟨h1.fh, h1.len, h1.slots, fun p hp => ?_, ?_, h1.s1, h1.s2, fun a ha => ?_⟩
  · rcases List.mem_cons.mp hp with rfl | hp
    · exact ok
    · exact h1.temps p hp
  · show (ownedE env ++ (sl.owned ++ ownedT T)).Nodup
    have z := h.nd
    rw [List.nodup_append] at z ⊢
    obtain ⟨z1, z2, z3⟩ := z
    refine ⟨z1, ?_, fun a ha b hb => ?_⟩
    · rw [List.nodup_append]
      exact ⟨ndo, z2, fun a ha b hb e => dis a ha (by rw [e]; exact List.mem_append_right _ hb)⟩
    · rcases List.mem_append.mp hb with hb | hb
      · exact fun e => dis b hb (by rw [← e]; exact List.mem_append_left _ ha)
      · exact z3 a ha b hb
  · have ha' : a ∈ ownedE env ++ (sl.owned ++ ownedT T) := ha
    rcases List.mem_append.mp ha' with hb | hb
    · exact h.s3 a (List.mem_append_left _ hb)
    · rcases List.mem_append.mp hb with hb | hb
      · have hn := own a hb
        cases q : e.H0 a with
        | none => exact .inr rfl
        | some o =>
          by_cases hA : a ∈ e.A0
          · exact .inl hA
          · rw [(h.s2 a o q hA).1] at hn
            cases hn
      · exact h.s3 a (List.mem_append_right _ hb)
theorem Holds.pushE {v : V} {d : D} (h : Holds K e env T F σ H) (ok : Rep K F d v) : Holds K e env ((v, .ext d) :: T) F σ H :=
  h.push (Grow.refl h.fh) ok fun a ha => by cases ha
theorem Holds.pushA {i : Nat} {a : Addr} (h : Holds K e env T F σ H) : Holds K e env ((.ref a, .al i a) :: T) F σ H :=
  h.push (Grow.refl h.fh) rfl fun a ha => by cases ha
/-- fewer temps -/
theorem ownedT_sub {T T' : Tmp} (s : T'.Sublist T) : (ownedT T').Sublist (ownedT T) := by
  unfold ownedT
  induction s with
  | slnil => exact .slnil
  | cons a _ ih => exact ih.trans (List.sublist_append_right _ _)
  | cons_cons a _ ih => exact (List.Sublist.refl _).append ih
theorem Holds.sub {T' : Tmp} (h : Holds K e env T F σ H) (s : T'.Sublist T) : Holds K e env T' F σ H := by
  have so : (ownedT T').Sublist (ownedT T) := ownedT_sub s
  have sa : (ownedE env ++ ownedT T').Sublist (ownedE env ++ ownedT T) := (List.Sublist.refl _).append so
  exact ⟨h.fh, h.len, h.slots, fun p hp => h.temps p (s.subset hp), h.nd.sublist sa, h.s1, h.s2, fun a ha => h.s3 a (sa.subset ha)⟩
theorem Holds.pop {p : V × Sl} (h : Holds K e env (p :: T) F σ H) : Holds K e env T F σ H := h.sub (List.sublist_cons_self _ _)
theorem splitE {env : Env'} {i : Nat} {sl : Sl} (h : env[i]? = some sl) : ∃ A B, ownedE env = A ++ (sl.owned ++ B) ∧ ∀ sl', ownedE (env.set i sl') = A ++ (Sl.owned sl' ++ B) := by
  obtain ⟨hi, rfl⟩ := List.getElem?_eq_some_iff.mp h
  refine ⟨ownedE (env.take i), ownedE (env.drop (i + 1)), ?_, fun sl' => ?_⟩
  · have z : env = env.take i ++ env[i] :: env.drop (i + 1) := by
      rw [List.getElem_cons_drop, List.take_append_drop]
    have y := congrArg ownedE z
    rw [y]
    unfold ownedE
    rw [List.flatMap_append, List.flatMap_cons]
  · rw [List.set_eq_take_append_cons_drop, if_pos hi]
    unfold ownedE
    rw [List.flatMap_append, List.flatMap_cons]
theorem owned_two {env : Env'} {X : List Addr} {i j : Nat} {s1 s2 : Sl} {a : Addr} (nd : (ownedE env ++ X).Nodup) (h1 : env[i]? = some s1) (h2 : env[j]? = some s2) (m1 : a ∈ s1.owned) (m2 : a ∈ s2.owned) : i = j := by
  obtain ⟨A, B, e1, e2⟩ := splitE h1
  rcases Nat.lt_trichotomy i j with h | h | h
  · exfalso
    obtain ⟨hi, rfl⟩ := List.getElem?_eq_some_iff.mp h1
    obtain ⟨hj, rfl⟩ := List.getElem?_eq_some_iff.mp h2
    have z : env = env.take j ++ env[j] :: env.drop (j + 1) := by rw [List.getElem_cons_drop, List.take_append_drop]
    have y : ownedE env = ownedE (env.take j) ++ (env[j].owned ++ ownedE (env.drop (j + 1))) := by
      have y := congrArg ownedE z
      rw [y]
      unfold ownedE
      rw [List.flatMap_append, List.flatMap_cons]
    rw [y, List.append_assoc] at nd
    have q := (List.nodup_append.mp nd).2.2
    refine q a (List.mem_flatMap.mpr ⟨env[i], ?_, m1⟩) a (List.mem_append_left _ (List.mem_append_left _ m2)) rfl
    exact List.mem_iff_getElem?.mpr ⟨i, by rw [List.getElem?_take_of_lt h]; exact List.getElem?_eq_getElem hi⟩
  · exact h
  · exfalso
    obtain ⟨hi, rfl⟩ := List.getElem?_eq_some_iff.mp h1
    obtain ⟨hj, rfl⟩ := List.getElem?_eq_some_iff.mp h2
    have z : env = env.take i ++ env[i] :: env.drop (i + 1) := by rw [List.getElem_cons_drop, List.take_append_drop]
    have y : ownedE env = ownedE (env.take i) ++ (env[i].owned ++ ownedE (env.drop (i + 1))) := by
      have y := congrArg ownedE z
      rw [y]
      unfold ownedE
      rw [List.flatMap_append, List.flatMap_cons]
    rw [y, List.append_assoc] at nd
    have q := (List.nodup_append.mp nd).2.2
    refine q a (List.mem_flatMap.mpr ⟨env[j], ?_, m2⟩) a (List.mem_append_left _ (List.mem_append_left _ m1)) rfl
    exact List.mem_iff_getElem?.mpr ⟨j, by rw [List.getElem?_take_of_lt h]; exact List.getElem?_eq_getElem hj⟩
theorem mem_ownedE {env : Env'} {i : Nat} {sl : Sl} {a : Addr} (h : env[i]? = some sl) (m : a ∈ sl.owned) : a ∈ ownedE env :=
  List.mem_flatMap.mpr ⟨sl, List.mem_iff_getElem?.mpr ⟨i, h⟩, m⟩
/-- an owned object of slot i is changed -/
theorem SlOk.write {v : V} {a : Addr} {o : HO} : ∀ {sl : Sl}, a ∉ sl.owned → SlOk K F H v sl → SlOk K F (upd H a o) v sl
  | .un, _, _ => trivial
  | .ext _, _, h => h
  | .al _ _, _, h => h
  | .lst b ds, n, h => by
    obtain ⟨rfl, q, vs, hv, hr⟩ := h
    refine ⟨rfl, q, vs, ?_, hr⟩
    have nb : b ≠ a := fun z => n (by rw [z]; exact List.mem_singleton.mpr rfl)
    rw [upd_ne nb]
    exact hv
  | .reg b cs, n, h => by
    obtain ⟨rfl, nd, hc⟩ := h
    refine ⟨rfl, nd, fun p hp => ?_⟩
    obtain ⟨q, o', ho, ok⟩ := hc p hp
    have nb : p.1 ≠ a := fun z => n (by rw [← z]; exact List.mem_map.mpr ⟨p, hp, rfl⟩)
    exact ⟨q, o', by rw [upd_ne nb]; exact ho, ok⟩
theorem Holds.write {i : Nat} {a : Addr} {ds ds' : List D} {vs' : List V} (h : Holds K e env T F σ H) (hi : env[i]? = some (.lst a ds)) (hr : Reps K F ds' vs') : Holds K e (env.set i (.lst a ds')) T F σ (upd H a (.lst vs')) := by
  obtain ⟨A, B, e1, e2⟩ := splitE hi
  have own : ownedE (env.set i (.lst a ds')) = ownedE env := by
    rw [e1, e2]
    rfl
  have ma : a ∈ ownedE env := mem_ownedE hi (List.mem_singleton.mpr rfl)
  have mm : a ∈ ownedE env ++ ownedT T := List.mem_append_left _ ma
  obtain ⟨Fn, _⟩ := h.ownedH a mm
  refine ⟨fun b o q => ?_, by rw [List.length_set]; exact h.len, fun j sl q => ?_, fun p hp => (h.temps p hp).write fun m => ?_, by rw [own]; exact h.nd, h.s1, fun b o q n => ?_, by rw [own]; exact h.s3⟩
  · have nb : b ≠ a := fun z => by
      rw [z, Fn] at q
      cases q
    rw [upd_ne nb]
    exact h.fh b o q
  · rw [List.getElem?_set] at q
    split at q
    · rename_i ij
      subst ij
      split at q
      · cases q
        right
        rcases h.slots i _ hi with z | ⟨v, hv, rfl, q1, _⟩
        · cases z
        · exact ⟨_, hv, rfl, q1, vs', upd_same, hr⟩
      · cases q
    · rename_i ij
      rcases h.slots j sl q with z | ⟨v, hv, ok⟩
      · exact .inl z
      · refine .inr ⟨v, hv, ok.write fun m => ij (owned_two h.nd hi q (List.mem_singleton.mpr rfl) m)⟩
  · exact (List.nodup_append.mp h.nd).2.2 a ma a (List.mem_flatMap.mpr ⟨p, hp, m⟩) rfl
  · have nb : b ≠ a := fun z => by
      subst z
      rcases h.s3 b mm with y | y
      · exact n y
      · rw [q] at y
        cases y
    rw [upd_ne nb]
    exact h.s2 b o q n
/-- the top temp is changed -/
theorem Holds.writeT {v : V} {a : Addr} {ds ds' : List D} {vs' : List V} (h : Holds K e env ((v, .lst a ds) :: T) F σ H) (hr : Reps K F ds' vs') : Holds K e env ((v, .lst a ds') :: T) F σ (upd H a (.lst vs')) := by
  have mT : a ∈ ownedT ((v, Sl.lst a ds) :: T) := List.mem_append_left _ (List.mem_singleton.mpr rfl)
  have mm : a ∈ ownedE env ++ ownedT ((v, Sl.lst a ds) :: T) := List.mem_append_right _ mT
  obtain ⟨Fn, _⟩ := h.ownedH a mm
  have z3 := (List.nodup_append.mp h.nd).2.2
  have zT : ([a] ++ ownedT T).Nodup := (List.nodup_append.mp h.nd).2.1
  refine ⟨fun b o q => ?_, h.len, fun j sl q => ?_, fun p hp => ?_, h.nd, h.s1, fun b o q n => ?_, h.s3⟩
  · have nb : b ≠ a := fun z => by
      rw [z, Fn] at q
      cases q
    rw [upd_ne nb]
    exact h.fh b o q
  · rcases h.slots j sl q with z | ⟨w, hw, ok⟩
    · exact .inl z
    · exact .inr ⟨w, hw, ok.write fun m => z3 a (mem_ownedE q m) a mT rfl⟩
  · rcases List.mem_cons.mp hp with rfl | hp
    · obtain ⟨rfl, q1, _⟩ := h.temps (v, .lst a ds) List.mem_cons_self
      exact ⟨rfl, q1, vs', upd_same, hr⟩
    · refine (h.temps p (List.mem_cons_of_mem _ hp)).write fun m => ?_
      exact (List.nodup_append.mp zT).2.2 a (List.mem_singleton.mpr rfl) a (List.mem_flatMap.mpr ⟨p, hp, m⟩) rfl
  · have nb : b ≠ a := fun z => by
      subst z
      rcases h.s3 b mm with y | y
      · exact n y
      · rw [q] at y
        cases y
    rw [upd_ne nb]
    exact h.s2 b o q n
theorem SlOk.freeze {v : V} {a : Addr} {vs : List V} (hF : F a = none) : ∀ {sl : Sl}, a ∉ sl.owned → SlOk K F H v sl → SlOk K (upd F a (.lst vs)) H v sl := by
  have sm : Same F (upd F a (.lst vs)) := fun b o q => by
    rw [upd_ne (ne_of_none q hF)]
    exact q
  intro sl n h
  cases sl with
  | un => trivial
  | ext d => exact Rep.same sm h
  | al i b => exact h
  | lst b ds =>
    obtain ⟨rfl, q, us, hv, hr⟩ := h
    refine ⟨rfl, ?_, us, hv, hr.same sm⟩
    have nb : b ≠ a := fun z => n (by rw [z]; exact List.mem_singleton.mpr rfl)
    rw [upd_ne nb]
    exact q
  | reg b cs =>
    obtain ⟨rfl, nd, hc⟩ := h
    refine ⟨rfl, nd, fun p hp => ?_⟩
    obtain ⟨q, o', ho, ok⟩ := hc p hp
    have nb : p.1 ≠ a := fun z => n (by rw [← z]; exact List.mem_map.mpr ⟨p, hp, rfl⟩)
    exact ⟨by rw [upd_ne nb]; exact q, o', ho, ok.same sm⟩
/-- the top temp is frozen -/
theorem Holds.freezeT {v : V} {a : Addr} {ds : List D} (h : Holds K e env ((v, .lst a ds) :: T) F σ H) : ∃ F1, Same F F1 ∧ Holds K e env ((v, .ext (.lst ds)) :: T) F1 σ H := by
  have mT : a ∈ ownedT ((v, Sl.lst a ds) :: T) := List.mem_append_left _ (List.mem_singleton.mpr rfl)
  have mm : a ∈ ownedE env ++ ownedT ((v, Sl.lst a ds) :: T) := List.mem_append_right _ mT
  obtain ⟨rfl, hF, vs, hv, hr⟩ := h.temps (v, .lst a ds) List.mem_cons_self
  have z3 := (List.nodup_append.mp h.nd).2.2
  have zT : ([a] ++ ownedT T).Nodup := (List.nodup_append.mp h.nd).2.1
  have hF : F a = none := hF
  have sm : Same F (upd F a (.lst vs)) := fun b o q => by
    rw [upd_ne (ne_of_none q hF)]
    exact q
  have sub : (ownedE env ++ ownedT ((V.ref a, Sl.ext (.lst ds)) :: T)).Sublist (ownedE env ++ ownedT ((V.ref a, Sl.lst a ds) :: T)) :=
    (List.Sublist.refl _).append (List.sublist_append_right [a] (ownedT T))
  refine ⟨upd F a (.lst vs), sm, fun b o q => ?_, h.len, fun j sl q => ?_, fun p hp => ?_, h.nd.sublist sub, h.s1.trans sm, fun b o q n => ?_, fun b hb => h.s3 b (sub.subset hb)⟩
  · by_cases nb : b = a
    · rw [nb, upd_same] at q
      rw [nb, hv]
      exact q
    · rw [upd_ne nb] at q
      exact h.fh b o q
  · rcases h.slots j sl q with z | ⟨w, hw, ok⟩
    · exact .inl z
    · exact .inr ⟨w, hw, ok.freeze hF fun m => z3 a (mem_ownedE q m) a mT rfl⟩
  · rcases List.mem_cons.mp hp with rfl | hp
    · exact ⟨a, vs, rfl, upd_same, hr.same sm⟩
    · refine (h.temps p (List.mem_cons_of_mem _ hp)).freeze hF fun m => ?_
      exact (List.nodup_append.mp zT).2.2 a (List.mem_singleton.mpr rfl) a (List.mem_flatMap.mpr ⟨p, hp, m⟩) rfl
  · have nb : b ≠ a := fun z => by
      subst z
      rcases h.s3 b mm with y | y
      · exact n y
      · rw [q] at y
        cases y
    rw [upd_ne nb]
    exact h.s2 b o q n
/-- a slot is given up -/
theorem Holds.unset (h : Holds K e env T F σ H) (i : Nat) : Holds K e (env.set i .un) T F σ H := by
  by_cases hl : i < env.length
  · obtain ⟨A, B, e1, e2⟩ := splitE (List.getElem?_eq_getElem hl)
    have sub : (ownedE (env.set i .un) ++ ownedT T).Sublist (ownedE env ++ ownedT T) := by
      rw [e2, e1]
      exact ((List.Sublist.refl _).append (List.sublist_append_right _ _)).append (List.Sublist.refl _)
    refine ⟨h.fh, by rw [List.length_set]; exact h.len, fun j sl q => ?_, h.temps, h.nd.sublist sub, h.s1, h.s2, fun a ha => h.s3 a (sub.subset ha)⟩
    rw [List.getElem?_set] at q
    split at q
    · cases q
      exact .inl rfl
    · exact h.slots j sl q
  · rw [List.set_eq_of_length_le (by omega)]
    exact h
/-- the top temp goes into slot i -/
def Sl.plain : Sl → Prop
  | .al _ _ => False
  | _ => True
theorem Holds.assign {v : V} {sl : Sl} (h : Holds K e env ((v, sl) :: T) F σ H) (i : Nat) (hp : sl.plain) : Holds K e (env.set i sl) T F (σ.set i (some v)) H := by
  by_cases hl : i < env.length
  · obtain ⟨A, B, e1, e2⟩ := splitE (List.getElem?_eq_getElem hl)
    have sub : (A ++ B ++ (sl.owned ++ ownedT T)).Sublist (ownedE env ++ ownedT ((v, sl) :: T)) := by
      rw [e1]
      exact ((List.Sublist.refl _).append (List.sublist_append_right _ _)).append (List.Sublist.refl _)
    have perm : (A ++ B ++ (sl.owned ++ ownedT T)).Perm (ownedE (env.set i sl) ++ ownedT T) := by
      rw [e2, List.append_assoc, List.append_assoc]
      refine List.Perm.append_left A ?_
      rw [List.append_assoc, ← List.append_assoc, ← List.append_assoc]
      exact List.Perm.append_right _ List.perm_append_comm
    refine ⟨h.fh, by rw [List.length_set, List.length_set]; exact h.len, fun j s q => ?_, fun p hp => h.temps p (List.mem_cons_of_mem _ hp), perm.nodup (h.nd.sublist sub), h.s1, h.s2, fun a ha => h.s3 a (sub.subset (perm.mem_iff.mpr ha))⟩
    rw [List.getElem?_set] at q
    rw [List.getElem?_set]
    split at q
    · rename_i ij
      rw [if_pos ij, if_pos (by rw [← h.len]; exact hl)]
      cases q
      exact .inr ⟨v, rfl, h.temps (v, sl) List.mem_cons_self⟩
    · rename_i ij
      rw [if_neg ij]
      exact h.slots j s q
  · rw [List.set_eq_of_length_le (by omega), List.set_eq_of_length_le (by rw [← h.len]; omega)]
    exact h.pop
/-- slot i's object becomes the top temp, the slot is given up -/
theorem Holds.take {i : Nat} {sl : Sl} {v : V} (h : Holds K e env T F σ H) (hi : env[i]? = some sl) (hv : σ[i]? = some (some v)) : Holds K e (env.set i .un) ((v, sl) :: T) F σ H := by
  obtain ⟨A, B, e1, e2⟩ := splitE hi
  have perm : (ownedE env ++ ownedT T).Perm (ownedE (env.set i .un) ++ ownedT ((v, sl) :: T)) := by
    rw [e1, e2]
    show (A ++ (sl.owned ++ B) ++ ownedT T).Perm (A ++ ([] ++ B) ++ (sl.owned ++ ownedT T))
    rw [List.append_assoc, List.append_assoc, List.nil_append, List.append_assoc]
    refine List.Perm.append_left A ?_
    rw [← List.append_assoc, ← List.append_assoc]
    exact List.Perm.append_right _ List.perm_append_comm
  refine ⟨h.fh, by rw [List.length_set]; exact h.len, (h.unset i).slots, fun p hp => ?_, perm.nodup h.nd, h.s1, h.s2, fun a ha => h.s3 a (perm.mem_iff.mpr ha)⟩
  rcases List.mem_cons.mp hp with rfl | hp
  · rcases h.slots i sl hi with z | ⟨w, hw, ok⟩
    · subst z
      trivial
    · rw [hv] at hw
      cases hw
      exact ok
  · exact h.temps p hp
/-- slot i is frozen -/
theorem Holds.freeze {i : Nat} {a : Addr} {ds : List D} (h : Holds K e env T F σ H) (hi : env[i]? = some (.lst a ds)) : ∃ F1, Same F F1 ∧ Holds K e (env.set i (.ext (.lst ds))) T F1 σ H := by
  rcases h.slots i _ hi with z | ⟨v, hv, ok⟩
  · cases z
  · obtain ⟨F1, sm, h1⟩ := (h.take hi hv).freezeT
    have h2 := h1.assign i trivial
    rw [List.set_set] at h2
    have z : σ.set i (some v) = σ := by
      obtain ⟨hl, e⟩ := List.getElem?_eq_some_iff.mp hv
      rw [← e]
      exact List.set_getElem_self hl
    rw [z] at h2
    exact ⟨F1, sm, h2⟩
theorem Holds.bare (h : Holds K e env T F σ H) : Holds K e env [] F σ H := h.sub (List.nil_sublist _)
end
end HD

/-! HG: a def's promise where nothing is being shown (no repr under way). -/
namespace HD
open PySem PySem.Spec PyProof.Rows L2
/-- as the library's promise of a def, where no guard stands around -/
structure FnG (P : Program) (w : World) (K : PySem.W.Frag) (mg : Str → Option Value) (base : Heap) (C : CXT) (k : Nat) (f : Addr) (fd : FuncData) (ps : List Str) (sp : Sp) : Prop where
  fit : ∀ vs H Q E, sp vs H Q E → vs.length = ps.length
  go : ∀ (A : Around) (out : List Env) (t : Shared) (H : Hp) (args : Args) (us : List Value) (vs : List V) (Q : VK) (E : XK), A.guards = some [] → Room k A → Env0 P w K mg base A out t H → BindsTo t fd args (ps.zip us) → Vals vs us → sp vs H Q E →
    codeAny (model P w) A (.call (.ref f) args) (CR C out P w H t Q E) t
section
variable {P : Program} {w : World} {K : PySem.W.Frag} {mg : Str → Option Value} {base : Heap} {C : CXT} {k : Nat} {f : Addr} {fd : FuncData} {N ps : List Str} {sp : Sp} {x qual : Str} {st : Stmt}
theorem fnG_of (hF : Fun K x qual st f fd) (S : FnScope N ps (defScope st)) (fit : ∀ vs H Q E, sp vs H Q E → vs.length = ps.length)
    (body : ∀ (cd : Value) (A : Around) (out : List Env) (t : Shared) (H : Hp) (vs : List V) (Q : VK) (E : XK), A.guards = some [] → Room k (A.deeper (envOfC qual (defScope st) t.heap.objs.size f cd)) → sp vs H Q E →
      ∃ tt, PSs (cxOf C P w K mg base N qual (defScope st) f cd A out t H E) (defBody st) tt ∧ tt { nx := fun _ H' => Q .non H', rt := Q } (L2.start N vs) H) : FnG P w K mg base C (k + 1) f fd ps sp := by
  obtain ⟨oc, od, kV, doc, pm, an, cd, ct, osl, rfl, at_f, code⟩ := hF.ex
  refine ⟨fit, fun A out t H args us vs Q E gd room e0 bnd rel hsp => ?_⟩
  have inK : K.In t.heap := e0.mod.kin.keeps fun b o q => (e0.bs b o q).1
  have noLim : t.heap.NoLimit := e0.mod.nolimit.keeps fun b o q => (e0.bs b o q).1
  refine codeAny_call_function room.depth (inK _ _ at_f) rfl S.co S.gen rfl (PySem.W.codeRec_of inK code) (bnd _ _ _ _ ?_)
  refine wpAny_newFunctionEnv_cells S.kind (fun y hy => ?_) fun env he t1 call => ?_
  · obtain ⟨nm, v⟩ := y
    rcases S.par nm (List.of_mem_zip hy).1 with z | z
    · exact Or.inl z
    · exact Or.inr ⟨z, PySem.W.cellsFrom_some _ _ _ (.inl z)⟩
  · subst he
    refine ⟨noLim.keeps call.toInCall.keep, codeAny_func ?_⟩
    obtain ⟨tt, hb, hq⟩ := body cd A out t H vs Q E gd (room.deeper _) hsp
    have J : L2.Inv (cxOf C P w K mg base N qual (defScope st) f cd A out t H E) [] (L2.start N vs) H t1 := inv_start S room.hd e0 (fit _ _ _ _ hsp) rel call
    refine wpAny_mono (hb.run [] t1 (L2.start N vs) H _ J hq) (fun fl t2 h2 => ?_) fun e t2 h2 => h2
    cases fl with
    | ret u =>
      obtain ⟨v, σ2, H2, J2, rv, q⟩ := h2
      exact ⟨v, H2, J2.os, J2.bare, J2.base, J2.hok, rv, q⟩
    | next =>
      obtain ⟨σ2, H2, J2, q⟩ := h2
      exact ⟨V.non, H2, J2.os, J2.bare, J2.base, J2.hok, rfl, q⟩
    | brk => exact h2.elim fun _ z => z.elim fun _ z => z.2.elim
    | cont => exact h2.elim fun _ z => z.elim fun _ z => z.2.elim
end
section
variable {X : Cx} {C : CXT} {k : Nat} {f : Addr} {fd : FuncData} {ps : List Str} {sp : Sp} {E : L2.St → XK}
theorem runG {pins : List (Addr × Obj)} {σ : L2.St} {H : Hp} {t : Shared} {Q : VK} {us : List Value} {vs : List V} (F : FnG X.prog X.w X.K X.mg X.base C k f fd ps sp) (gd : X.A.guards = some []) (room : Room k X.A) (bnd : Binds X.K fd ps []) (pass : PassesAt C X σ (E σ))
    (J : L2.Inv X pins σ H t) (rel : Vals vs us) (h : sp vs H Q (E σ)) : wpAny (model X.prog X.w) X.A (call (.ref f) us) (EP X pins σ Q) X.xe t := by
  have l1 : us.length = ps.length := by rw [← rel.length]; exact F.fit _ _ _ _ h
  have b := bnd t us J.kIn (by rw [List.append_nil]; exact l1)
  rw [List.append_nil] at b
  refine wpAny_call (codeAny_mono (F.go X.A X.stack t H ⟨us, []⟩ us vs Q (E σ) gd room J.env0 b rel h) fun res t2 hres => ?_)
  cases res with
  | error e => exact pass pins H t e t2 J hres
  | ok fl =>
    cases fl with
    | ret u => exact J.after hres
    | next => exact hres.elim
    | brk => exact hres.elim
    | cont => exact hres.elim
end
/-- the law's def is called where nothing is being shown -/
theorem law_callG {P : Program} {w : World} {K : PySem.W.Frag} {mg mb : Str → Option Value} {C : CXT} {k : Nat} {fa a : Addr} {fd : FuncData} {x : Str} {sp : Sp} {t1 : Shared} {vs : List Value} {ns : List Int}
    (KX : K.In t1.heap) (hns : t1.heap.Ns mainGlobals mg) (hb : t1.heap.Ns builtinsNs mb) (hbb : ∀ y : Str, y ≠ "__name__" → mb y = bootBuiltins y) (lim : t1.heap.NoLimit) (hg : t1.gens = #[])
    (ha : t1.heap.get? a = some { cls := .type "list", data := .seq vs.toArray }) (hi : IntsAre vs ns) (hl : ns.length ≤ sizeLine) (room : Room k callerA)
    (F : ∀ base : Heap, K.In base → base.Ns mainGlobals mg → FnG P w K mg base C k fa fd [x] sp) (bnd : ∀ (s : Shared) (u : Value), BindsTo s fd ⟨[u], []⟩ [(x, u)])
    (hsp : ∀ H : Hp, L2.Only H → SqL K H a (ns.map V.int) → sp [.ref a] H (fun v _ => v = .bl true) fun _ _ _ => False)
    (noX : ∀ H e s', C [] H t1 (fun _ _ _ => False) e s' → False) :
    codeAny (model P w) callerA (.call (.ref fa) ⟨[.ref a], []⟩) (fun r s' => r = .ok (.ret (.bool true)) ∧ OldK t1.heap s'.heap ∧ s'.os = t1.os ∧ AllBare s'.gens) t1 := by
  have rv := vals_ints hi
  have lenV := hi.length
  have core : ∀ H : Hp, L2.Only H → SqL K H a (ns.map V.int) → HOk P w H t1.heap → (∀ b, H b ≠ none → b = a) → (H a ≠ none → K.lookup a = none) →
      codeAny (model P w) callerA (.call (.ref fa) ⟨[.ref a], []⟩) (fun r s' => r = .ok (.ret (.bool true)) ∧ OldK t1.heap s'.heap ∧ s'.os = t1.os ∧ AllBare s'.gens) t1 := by
    intro H only hS hok hA hK
    have up : ∀ {b : Addr} {o : Obj}, t1.heap.get? b = some o → H b = none → (hidT t1.heap H).get? b = some o := fun e n => hidT_get e n
    have notA : ∀ {b : Addr} {u : HO}, H b = some u → b = a := fun {b u} q => hA b (by rw [q]; simp)
    have dicts : ∀ {b : Addr} {o : Obj} {es : Array DictEntry} {ep : Nat}, t1.heap.get? b = some o → o.data = .dict es ep → H b = none := fun {b o es ep} e d => by
      cases q : H b with
      | none => rfl
      | some u =>
        have e1 := notA q
        subst e1
        rw [ha] at e
        cases e
        cases (show Data.seq vs.toArray _ = Data.dict es ep from d)
    have spaces : ∀ {b : Addr} {m : Str → Option Value}, t1.heap.Ns b m → (hidT t1.heap H).Ns b m := fun {b m} ⟨o, es, ep, e, d, r⟩ => ⟨o, es, ep, up e (dicts e d), d, r⟩
    have inB : K.In (hidT t1.heap H) := fun b o e => up (KX b o e) (by
      cases q : H b with
      | none => rfl
      | some u =>
        have e1 := notA q
        subst e1
        rw [hK (by rw [q]; simp)] at e
        cases e)
    have md : Mod K mg (hidT t1.heap H) := ⟨inB, spaces hns, ⟨mb, spaces hb, hbb⟩, let ⟨mc, h1, h2⟩ := lim; ⟨mc, spaces h1, h2⟩⟩
    have e0 : Env0 P w K mg (hidT t1.heap H) callerA [] t1 H := ⟨rfl, md, fun b o e => of_hidT e, Nat.le_of_eq (hidT_size _ _), True.intro, fun b hb => absurd (show b ∈ ([] : List Addr) from hb) (by simp), hok, .of_eq hg⟩
    refine codeAny_mono ((F _ inB (spaces hns)).go callerA [] t1 H ⟨[.ref a], []⟩ [.ref a] [.ref a] _ _ rfl room e0 (bnd t1 (.ref a)) (.cons rfl .nil) (hsp H only hS)) fun res t2 h => ?_
    cases res with
    | error e => exact (noX H e t2 h).elim
    | ok fl =>
      cases fl with
      | next => exact h.elim
      | brk => exact h.elim
      | cont => exact h.elim
      | ret u =>
        obtain ⟨v, H2, os, bare, un, hok2, r2, q⟩ := h
        cases (show v = .bl true from q)
        cases (show u = Value.bool true from r2)
        refine ⟨rfl, OldK.of_keep fun b o e => ?_, os, bare⟩
        cases q : H b with
        | none => exact un.keep b o e q (by intro z; exact absurd (show b ∈ ([] : List Addr) from z) (by simp)) (by simp)
        | some u =>
          rcases only b with z | ⟨ob, ys, z⟩
          · rw [q] at z; cases z
          · obtain ⟨y1, _⟩ := hok b _ z
            obtain ⟨y2, _⟩ := hok2 b _ (un.frzs b ob _ z)
            rw [e] at y1
            cases y1
            exact y2
  cases hk : K.lookup a with
  | some o =>
    have e := KX a o hk
    rw [ha] at e
    cases e
    exact core (fun _ => none) (fun _ => .inl rfl) (.inr ⟨_, vs.toArray, _, hk, rfl, rfl, rfl, by rw [List.size_toArray, lenV]; exact hl, by simpa using rv⟩) (fun b u z => by cases (show (none : Option HO) = some u from z)) (fun b z => absurd rfl z) fun z => absurd rfl z
  | none =>
    let o0 : Obj := { cls := .type "list", data := .seq vs.toArray }
    refine core (fun b => if b = a then some (.frz o0 (.lst (ns.map V.int))) else none) (fun b => ?_) (.inl (.inr ⟨o0, if_pos rfl⟩)) (fun b u z => ?_) (fun b z => ?_) fun _ => hk
    · by_cases q : b = a
      · exact .inr ⟨_, _, if_pos q⟩
      · exact .inl (if_neg q)
    · by_cases q : b = a
      · cases (if_pos q).symm.trans z
        subst q
        exact ⟨ha, by rw [List.length_map]; exact hl, vs, _, rv, ha⟩
      · cases (if_neg q).symm.trans z
    · by_cases q : b = a
      · exact q
      · exact absurd (if_neg q) z
end HD

/-! HD2: the judgements over data: expressions, tests, arguments; primitives. -/
namespace HD
open PySem L2

theorem ownedT_perm {T T' : Tmp} (p : T.Perm T') : (ownedT T).Perm (ownedT T') := by
  unfold ownedT
  induction p with
  | nil => exact .refl _
  | cons x _ ih => exact ih.append_left _
  | swap x y l =>
    rw [List.flatMap_cons, List.flatMap_cons, List.flatMap_cons, List.flatMap_cons, ← List.append_assoc, ← List.append_assoc]
    exact List.perm_append_comm.append_right _
  | trans _ _ i1 i2 => exact i1.trans i2
theorem Holds.perm {K : PySem.W.Frag} {e : Ent} {env : Env'} {T T' : Tmp} {F : Hp} {σ : St} {H : Hp} (h : Holds K e env T F σ H) (p : T.Perm T') : Holds K e env T' F σ H :=
  ⟨h.fh, h.len, h.slots, fun x hx => h.temps x (p.mem_iff.mpr hx), ((ownedT_perm p).append_left _).nodup h.nd, h.s1, h.s2, fun a ha => h.s3 a (((ownedT_perm p).append_left _).mem_iff.mpr ha)⟩

/-- what is asked of an exception: its class, the slots -/
abbrev DX := Str → Env' → Prop
abbrev DT := DX → Env' → (Sl → Env' → Prop) → Prop
abbrev DTT := DX → Env' → (Bool → Env' → Prop) → Prop
abbrev DTA := DX → Env' → (List Sl → Env' → Prop) → Prop

def Link (K : PySem.W.Frag) (e : Ent) (W : WX) (Ex : DX) : Prop := ∀ c env F σ H, Holds K e env [] F σ H → Ex c env → W (clsV K c) none σ H
def Im (K : PySem.W.Frag) (W : WX) (te : TE) (t : DT) : Prop :=
  ∀ (e : Ent) (Ex : DX), Link K e W Ex → ∀ (env : Env') (T : Tmp) (F : Hp) (σ : St) (H : Hp) (Q : Sl → Env' → Prop) (R : VK),
    Holds K e env T F σ H → t Ex env Q → (∀ v H' F' env' sl, Holds K e env' ((v, sl) :: T) F' σ H' → Q sl env' → R v H') → te σ H R
def ImT (K : PySem.W.Frag) (W : WX) (tt : TT) (t : DTT) : Prop :=
  ∀ (e : Ent) (Ex : DX), Link K e W Ex → ∀ (env : Env') (T : Tmp) (F : Hp) (σ : St) (H : Hp) (Q : Bool → Env' → Prop) (R : Bool → Hp → Prop),
    Holds K e env T F σ H → t Ex env Q → (∀ b H' F' env', Holds K e env' T F' σ H' → Q b env' → R b H') → tt σ H R
def ImA (K : PySem.W.Frag) (W : WX) (ta : TA) (t : DTA) : Prop :=
  ∀ (e : Ent) (Ex : DX), Link K e W Ex → ∀ (env : Env') (T : Tmp) (F : Hp) (σ : St) (H : Hp) (Q : List Sl → Env' → Prop) (R : List V → Hp → Prop),
    Holds K e env T F σ H → t Ex env Q → (∀ vs H' F' env' xs, vs.length = xs.length → Holds K e env' (vs.zip xs ++ T) F' σ H' → Q xs env' → R vs H') → ta σ H R

/-- the module -/
structure GG where
  P : Program
  w : World
  K : PySem.W.Frag
  mg : Str → Option Value
  base : Heap

/-- a scope, and the names whose cells are stored to -/
structure SC where
  sc : Scope
  own : Str → Bool
  top : Bool
abbrev fnS (sc : Scope) : SC := ⟨sc, fun _ => true, true⟩
def relab (scope sc : Scope) : Scope :=
  { scope with names := scope.names.map fun (n, k) => if (k == .free && sc.kind == .function && sc.names.lookup n == some .cell) then (n, .cell) else (n, k) }
abbrev lcS (scope : Scope) (sc : SC) : SC := ⟨relab scope sc.sc, fun x => scope.names.lookup x == some .cell, false⟩
/-- a context of this module, with these names, this scope, this wish about exceptions, room for k calls -/
structure Sit (G : GG) (N : List Str) (sc : SC) (W : WX) (k : Nat) (X : Cx) : Prop where
  prog : X.prog = G.P
  w : X.w = G.w
  K : X.K = G.K
  mg : X.mg = G.mg
  base : X.base = G.base
  nms : X.N = N
  nd : N.Nodup
  scp : X.env.scope = sc.sc
  calm : X.calm = true
  room : Room k X.A
  tk : Takes X W
  fn : ∀ x, sc.own x = true → X.fn x = true
  own : PassesOwn (model X.prog X.w) X.A X.env X.xe
  stk : sc.top = true → X.stack = X.env :: X.outer ∧ X.env.frame = some X.env.locals
  gd : X.A.guards = some []

structure DE (G : GG) (N : List Str) (sc : SC) (k : Nat) (e : Expr) (t : DT) : Prop where
  ex : ∀ W : WX, ∃ te, (∀ X, Sit G N sc W k X → PE X e te) ∧ Im G.K W te t
structure DTe (G : GG) (N : List Str) (sc : SC) (k : Nat) (e : Expr) (t : DTT) : Prop where
  ex : ∀ W : WX, ∃ te, (∀ X, Sit G N sc W k X → PT X e te) ∧ ImT G.K W te t
structure DAs (G : GG) (N : List Str) (sc : SC) (k : Nat) (es : List Expr) (t : DTA) : Prop where
  ex : ∀ W : WX, ∃ te, (∀ X, Sit G N sc W k X → PA X es te) ∧ ImA G.K W te t

section
variable {G : GG} {N : List Str} {sc : SC} {k : Nat}

/-! ### names, constants -/
def dC (d : D) : DT := fun _ env Q => Q (.ext d) env
def dVar (i : Nat) : DT := fun _ env Q => match env[i]? with
  | some (.ext d) => Q (.ext d) env
  | some (.lst a _) => Q (.al i a) env
  | _ => False
theorem im_const {K : PySem.W.Frag} {W : WX} {v : V} {d : D} (h : ∀ F, Rep K F d v) : Im K W (tC v) (dC d) :=
  fun e Ex _ env T F σ H Q R hh ht hR => hR v H F env (.ext d) (hh.pushE (h F)) ht
theorem im_var {K : PySem.W.Frag} {W : WX} (i : Nat) : Im K W (tVar i) (dVar i) := fun e Ex _ env T F σ H Q R hh ht hR => by
  unfold dVar at ht
  split at ht
  · rename_i d q
    rcases hh.slots i _ q with z | ⟨v, hv, ok⟩
    · cases z
    · exact ⟨v, hv, hR v H F env (.ext d) (hh.pushE ok) ht⟩
  · rename_i a ds q
    rcases hh.slots i _ q with z | ⟨v, hv, ok⟩
    · cases z
    · obtain ⟨rfl, _⟩ := ok
      exact ⟨_, hv, hR _ H F env (.al i a) hh.pushA ht⟩
  · exact ht.elim
theorem Sit.vis {W : WX} {X : Cx} {x : Str} (S : Sit G N sc W k X) (h : Vis sc.sc x) : Vis X.env.scope x := by rw [S.scp]; exact h
theorem de_var (i : Nat) {x : Str} {pos : Pos} (hN : N[i]? = some x := by rfl) (hv : Vis sc.sc x := by first | exact Or.inl rfl | exact Or.inr (Or.inl rfl) | exact Or.inr (Or.inr rfl))
    (hd : (x == ("__debug__" : Str)) = false := by decide) (hcd : (x == ("__classdict__" : Str)) = false := by decide) : DE G N sc k (.Name x pos) (dVar i) :=
  ⟨fun W => ⟨tVar i, fun X S => pe_var (by rw [S.nms]; exact hN) (S.vis hv) hd hcd, im_var i⟩⟩
theorem de_int {i j pos} : DE G N sc k (.Constant (.int i) j pos) (dC (.int i)) := ⟨fun _ => ⟨_, fun _ _ => pe_int, im_const fun _ => rfl⟩⟩
theorem de_bl {i j pos} : DE G N sc k (.Constant (.bool i) j pos) (dC (.bl i)) := ⟨fun _ => ⟨_, fun _ _ => pe_bl, im_const fun _ => rfl⟩⟩
theorem de_non {j pos} : DE G N sc k (.Constant .none j pos) (dC .non) := ⟨fun _ => ⟨_, fun _ _ => pe_non, im_const fun _ => rfl⟩⟩
theorem de_str {i j pos} : DE G N sc k (.Constant (.str i) j pos) (dC (.str i)) := ⟨fun _ => ⟨_, fun _ _ => pe_str, im_const fun _ => rfl⟩⟩
def GlS (sc : SC) (x : Str) : Prop := sc.sc.names.lookup x = some .globalImplicit
theorem Sit.gl {W : WX} {X : Cx} {x : Str} (S : Sit G N sc W k X) (h : GlS sc x) : Gl X x := by
  show X.env.scope.names.lookup x = some .globalImplicit
  rw [S.scp]
  exact h
/-- a module's constant -/
theorem de_glob {x : Str} {v : V} {u : Value} {d : D} {pos : Pos} (hg : GlS sc x) (hm : G.mg x = some u) (r : RelV v u) (hr : ∀ F, Rep G.K F d v) (hd : (x == ("__debug__" : Str)) = false := by decide) : DE G N sc k (.Name x pos) (dC d) :=
  ⟨fun _ => ⟨tC v, fun X S => pe_glob (S.gl hg) (by rw [S.mg]; exact hm) r hd, im_const hr⟩⟩
/-- a built-in class as a value -/
theorem de_bltn {x : Str} {v : V} {u : Value} {pos : Pos} (hg : GlS sc x) (hm : G.mg x = none) (hv : bootBuiltins x = some u) (r : RelV v u) (hn : x ≠ "__name__" := by decide) (hd : (x == ("__debug__" : Str)) = false := by decide) : DE G N sc k (.Name x pos) (dC (.val v)) :=
  ⟨fun _ => ⟨tC v, fun X S => pe_bltn (S.gl hg) (by rw [S.mg]; exact hm) hv r hn hd, im_const fun _ => rfl⟩⟩

/-! ### arguments -/
def dNil : DTA := fun _ env Q => Q [] env
def dCons (t : DT) (u : DTA) : DTA := fun Ex env Q => t Ex env fun x env1 => u Ex env1 fun xs env2 => Q (x :: xs) env2
theorem im_nil {K : PySem.W.Frag} {W : WX} : ImA K W tNil dNil := fun e Ex _ env T F σ H Q R hh ht hR => hR [] H F env [] rfl hh ht
theorem im_cons {K : PySem.W.Frag} {W : WX} {te : TE} {ta : TA} {t : DT} {u : DTA} (h1 : Im K W te t) (h2 : ImA K W ta u) : ImA K W (tCons te ta) (dCons t u) := fun e Ex hl env T F σ H Q R hh ht hR => by
  refine h1 e Ex hl env T F σ H _ _ hh ht fun v H1 F1 env1 sl hh1 q1 => ?_
  refine h2 e Ex hl env1 _ F1 σ H1 _ _ hh1 q1 fun vs H2 F2 env2 xs le hh2 q2 => ?_
  exact hR (v :: vs) H2 F2 env2 (sl :: xs) (by rw [List.length_cons, List.length_cons, le]) (hh2.perm List.perm_middle) q2
theorem da_nil : DAs G N sc k [] dNil := ⟨fun _ => ⟨tNil, fun _ _ => pa_nil, im_nil⟩⟩
abbrev NoStar (e : Expr) (es : List Expr) : Prop := ∀ env, starEach (e :: es) env = (false, eval e env) :: starEach es env
theorem da_cons {e : Expr} {es : List Expr} {t : DT} {u : DTA} (h1 : DE G N sc k e t) (h2 : DAs G N sc k es u) (hs : NoStar e es := by intro _; rfl) : DAs G N sc k (e :: es) (dCons t u) :=
  ⟨fun W => by
    obtain ⟨te, p1, i1⟩ := h1.ex W
    obtain ⟨ta, p2, i2⟩ := h2.ex W
    exact ⟨tCons te ta, fun X S => pa_cons (p1 X S) (p2 X S) (hs _), im_cons i1 i2⟩⟩

/-! ### what a value is, at its use -/
/-- the top may be an owned list, all below is frozen -/
def RepT (K : PySem.W.Frag) (F H : Hp) (d : D) (v : V) : Prop := Rep K F d v ∨ ∃ a ds vs, d = .lst ds ∧ v = .ref a ∧ H a = some (.lst vs) ∧ Reps K F ds vs
def RepTs (K : PySem.W.Frag) (F H : Hp) : List D → List V → Prop
  | [], vs => vs = []
  | d :: ds, vs => ∃ v r, vs = v :: r ∧ RepT K F H d v ∧ RepTs K F H ds r
def wd (env : Env') (sl : Sl) (k : D → Prop) : Prop := match sl with
  | .ext d => k d
  | .lst _ ds => k (.lst ds)
  | .al i a => match env[i]? with
    | some (.lst b ds) => b = a ∧ k (.lst ds)
    | _ => False
  | .un => False
  | .reg _ _ => False
def wds (env : Env') : List Sl → (List D → Prop) → Prop
  | [], k => k []
  | s :: ss, k => wd env s fun d => wds env ss fun ds => k (d :: ds)
theorem Holds.wd {K : PySem.W.Frag} {e : Ent} {env : Env'} {T : Tmp} {F : Hp} {σ : St} {H : Hp} {v : V} {sl : Sl} {q : D → Prop} (h : Holds K e env T F σ H) (m : (v, sl) ∈ T) (w : HD.wd env sl q) : ∃ d, RepT K F H d v ∧ q d := by
  have ok := h.temps _ m
  cases sl with
  | un => exact w.elim
  | reg _ _ => exact w.elim
  | ext d => exact ⟨d, .inl ok, w⟩
  | lst a ds =>
    obtain ⟨e1, _, vs, hv, hr⟩ := ok
    exact ⟨.lst ds, .inr ⟨a, ds, vs, rfl, e1, hv, hr⟩, w⟩
  | al i a =>
    have w' : (match env[i]? with | some (.lst b ds) => b = a ∧ q (.lst ds) | _ => False) := w
    split at w'
    · rename_i b ds hb
      obtain ⟨rfl, w'⟩ := w'
      rcases h.slots i _ hb with z | ⟨u, hu, e1, _, vs, hv, hr⟩
      · cases z
      · exact ⟨.lst ds, .inr ⟨b, ds, vs, rfl, ok, hv, hr⟩, w'⟩
    · exact w'.elim
theorem Holds.wds {K : PySem.W.Frag} {e : Ent} {env : Env'} {T : Tmp} {F : Hp} {σ : St} {H : Hp} (h : Holds K e env T F σ H) : ∀ {vs : List V} {xs : List Sl} {q : List D → Prop}, vs.length = xs.length → (∀ p ∈ vs.zip xs, p ∈ T) → HD.wds env xs q → ∃ ds, RepTs K F H ds vs ∧ q ds
  | [], [], q, _, _, w => ⟨[], rfl, w⟩
  | [], _ :: _, _, e, _, _ => by cases e
  | _ :: _, [], _, e, _, _ => by cases e
  | v :: vs, x :: xs, q, e, m, w => by
    obtain ⟨d, r1, w1⟩ := h.wd (m (v, x) List.mem_cons_self) w
    obtain ⟨ds, r2, w2⟩ := Holds.wds h (by simpa using e) (fun p hp => m p (List.mem_cons_of_mem _ hp)) w1
    exact ⟨d :: ds, ⟨v, vs, rfl, r1, r2⟩, w2⟩
section
variable {K : PySem.W.Frag} {F H : Hp} {v : V}
theorem RepT.int {i : Int} (h : RepT K F H (.int i) v) : v = .int i := by
  rcases h with h | ⟨_, _, _, z, _⟩
  · exact h
  · cases z
theorem RepT.str {x : Str} (h : RepT K F H (.str x) v) : v = .str x := by
  rcases h with h | ⟨_, _, _, z, _⟩
  · exact h
  · cases z
theorem RepT.bl {x : Bool} (h : RepT K F H (.bl x) v) : v = .bl x := by
  rcases h with h | ⟨_, _, _, z, _⟩
  · exact h
  · cases z
theorem RepT.non (h : RepT K F H .non v) : v = .non := by
  rcases h with h | ⟨_, _, _, z, _⟩
  · exact h
  · cases z
theorem RepT.val {x : V} (h : RepT K F H (.val x) v) : v = x := by
  rcases h with h | ⟨_, _, _, z, _⟩
  · exact h
  · cases z
theorem RepT.tup {ds : List D} (fh : Same F H) (h : RepT K F H (.tup ds) v) : ∃ a vs, v = .ref a ∧ SqT K H a vs ∧ TupD K F a vs ∧ Reps K F ds vs := by
  rcases h with ⟨a, vs, e, hs, hr⟩ | ⟨_, _, _, z, _⟩
  · exact ⟨a, vs, e, SqT.same fh hs.sq, hs, hr⟩
  · cases z
theorem RepT.tk {ds : List D} (fh : Same F H) (h : RepT K F H (.tk ds) v) : ∃ a vs, v = .ref a ∧ SqT K H a vs ∧ SqT K F a vs ∧ Reps K F ds vs := by
  rcases h with ⟨a, vs, e, hs, hr⟩ | ⟨_, _, _, z, _⟩
  · exact ⟨a, vs, e, SqT.same fh hs, hs, hr⟩
  · cases z
theorem RepT.lst {ds : List D} (fh : Same F H) (h : RepT K F H (.lst ds) v) : ∃ a vs, v = .ref a ∧ H a = some (.lst vs) ∧ Reps K F ds vs := by
  rcases h with ⟨a, vs, e, hs, hr⟩ | ⟨a, ds', vs, z, e, hs, hr⟩
  · exact ⟨a, vs, e, fh _ _ hs, hr⟩
  · cases z
    exact ⟨a, vs, e, hs, hr⟩
theorem RepT.fz {ds : List D} (fh : Same F H) (h : RepT K F H (.fz ds) v) : ∃ a vs, v = .ref a ∧ SqL K H a vs ∧ Reps K F ds vs := by
  rcases h with ⟨a, vs, e, hs, hr⟩ | ⟨a, ds', vs, z, e, hs, hr⟩
  · exact ⟨a, vs, e, fh.seq hs, hr⟩
  · cases z
theorem RepT.frozen {d : D} (h : Rep K F d v) : RepT K F H d v := .inl h
/-- as data of the whole heap -/
theorem RepT.rep {d : D} (fh : Same F H) (h : RepT K F H d v) : Rep K H d v := by
  rcases h with h | ⟨a, ds, vs, rfl, rfl, hs, hr⟩
  · exact Rep.same fh h
  · exact ⟨a, vs, rfl, hs, hr.same fh⟩
theorem RepTs.one {d : D} {vs : List V} (h : RepTs K F H [d] vs) : ∃ v, vs = [v] ∧ RepT K F H d v := by
  obtain ⟨v, r, rfl, h1, h2⟩ := h
  have z : r = [] := h2
  exact ⟨v, by rw [z], h1⟩
theorem RepTs.two {d d' : D} {vs : List V} (h : RepTs K F H [d, d'] vs) : ∃ v v', vs = [v, v'] ∧ RepT K F H d v ∧ RepT K F H d' v' := by
  obtain ⟨v, r, rfl, h1, h2⟩ := h
  obtain ⟨v', e, h3⟩ := RepTs.one h2
  exact ⟨v, v', by rw [e], h1, h3⟩
end

/-! ### primitives: what a call by values asks, in data -/
def After (K : PySem.W.Frag) (F H : Hp) (Q : Sl → Prop) (R : VK) : Prop :=
  ∀ v F1 H1 sl, Grow F H F1 H1 → SlOk K F1 H1 v sl → (∀ a ∈ sl.owned, H a = none) → Q sl → R v H1
def Pr (K : PySem.W.Frag) (r : List V → Hp → VK → Prop) (f : List D → (Sl → Prop) → Prop) : Prop :=
  ∀ F H vs ds (Q : Sl → Prop) (R : VK), Same F H → RepTs K F H ds vs → f ds Q → After K F H Q R → r vs H R
def Pr2 (K : PySem.W.Frag) (r : R2) (f : D → D → (Sl → Prop) → Prop) : Prop :=
  ∀ F H v u d d' (Q : Sl → Prop) (R : VK), Same F H → RepT K F H d v → RepT K F H d' u → f d d' Q → After K F H Q R → r v u H R
section
variable {K : PySem.W.Frag} {F H : Hp} {Q : Sl → Prop} {R : VK}
theorem After.ext (h : After K F H Q R) (fh : Same F H) {v : V} {d : D} (r : Rep K F d v) (q : Q (.ext d)) : R v H := h v F H (.ext d) (Grow.refl fh) r (fun _ z => nomatch z) q
theorem After.int (h : After K F H Q R) (fh : Same F H) {i : Int} (q : Q (.ext (.int i))) : R (.int i) H := h.ext (d := .int i) fh rfl q
theorem After.bl (h : After K F H Q R) (fh : Same F H) {i : Bool} (q : Q (.ext (.bl i))) : R (.bl i) H := h.ext (d := .bl i) fh rfl q
theorem After.str (h : After K F H Q R) (fh : Same F H) {i : Str} (q : Q (.ext (.str i))) : R (.str i) H := h.ext (d := .str i) fh rfl q
theorem After.lst (h : After K F H Q R) (fh : Same F H) {p : Addr} {ds : List D} {vs : List V} (n : H p = none) (r : Reps K F ds vs) (q : Q (.lst p ds)) : R (.ref p) (upd H p (.lst vs)) :=
  h _ F _ (.lst p ds) (Grow.loose fh n) ⟨rfl, fh.free n, vs, upd_same, r⟩ (fun a z => by rw [List.mem_singleton.mp z]; exact n) q
theorem After.tup (h : After K F H Q R) (fh : Same F H) {ds : List D} {vs : List V} (r : Reps K F ds vs) (q : Q (.ext (.tup ds))) : newT H vs R := fun p o n d =>
  h _ (upd F p (.frz o (.tup vs))) _ (.ext (.tup ds)) (Grow.frozen fh n) ⟨p, vs, rfl, .inl ⟨o, upd_same, d⟩, r.same (Grow.frozen fh n).ff⟩ (fun _ z => nomatch z) q
/-- first some garbage -/
theorem After.more (h : After K F H Q R) {p : Addr} {o : HO} (fh : Same F H) (n : H p = none) : After K F (upd H p o) Q R := fun v F1 H1 sl g ok own q =>
  h v F1 H1 sl ((Grow.loose fh n).trans g) ok (fun a ha => (Grow.loose fh n).hh.free (own a ha)) q
end
theorem Holds.done {K : PySem.W.Frag} {e : Ent} {env : Env'} {T : Tmp} {F : Hp} {σ : St} {H : Hp} {Q : Sl → Env' → Prop} {R : VK} (h : Holds K e env T F σ H) (hR : ∀ v H' F' env' sl, Holds K e env' ((v, sl) :: T) F' σ H' → Q sl env' → R v H') : After K F H (fun sl => Q sl env) R :=
  fun v F1 H1 sl g ok own q => hR v H1 F1 env sl (h.push g ok own) q

/-! ### operators -/
def dOp (f : D → D → (Sl → Prop) → Prop) (ta tb : DT) : DT := fun Ex env Q => ta Ex env fun x env1 => tb Ex env1 fun y env2 => wd env2 x fun d => wd env2 y fun d' => f d d' fun sl => Q sl env2
theorem im_op {K : PySem.W.Frag} {W : WX} {r : R2} {f : D → D → (Sl → Prop) → Prop} {ta tb : TE} {sa sb : DT} (hr : Pr2 K r f) (ha : Im K W ta sa) (hb : Im K W tb sb) : Im K W (tOp r ta tb) (dOp f sa sb) := fun e Ex hl env T F σ H Q R hh ht hR => by
  refine ha e Ex hl env T F σ H _ _ hh ht fun v H1 F1 env1 x hh1 q1 => ?_
  refine hb e Ex hl env1 _ F1 σ H1 _ _ hh1 q1 fun u H2 F2 env2 y hh2 q2 => ?_
  obtain ⟨d, rd, q3⟩ := hh2.wd (v := v) (sl := x) (List.mem_cons_of_mem _ List.mem_cons_self) q2
  obtain ⟨d', rd', q4⟩ := hh2.wd (v := u) (sl := y) List.mem_cons_self q3
  exact hr F2 H2 v u d d' _ R hh2.fh rd rd' q4 (hh2.pop.pop.done hR)
theorem Sit.units {W : WX} {X : Cx} (S : Sit G N sc W k X) : X.A.units + 64 < cLine := S.room.units
end
end HD

/-! HD3: operators, comparisons, tests, displays, subscripts over data. -/
namespace HD
open PySem L2

section
variable {K : PySem.W.Frag} {F H : Hp}
theorem RepT.int' {d : D} {i : Int} (e : d = .int i) {v : V} (h : RepT K F H d v) : v = .int i := by subst e; exact h.int
end
/-! ### + - * // % ** -/
def fAdd : D → D → (Sl → Prop) → Prop
  | .int i, .int j, Q => Q (.ext (.int (i + j)))
  | .str x, .str y, Q => x.length + y.length ≤ sizeLine ∧ Q (.ext (.str (x ++ y)))
  | .lst xs, .lst ys, Q => xs.length + ys.length ≤ sizeLine ∧ ∀ a, Q (.lst a (xs ++ ys))
  | .tup xs, .tup ys, Q => xs.length + ys.length ≤ sizeLine ∧ Q (.ext (.tup (xs ++ ys)))
  | _, _, _ => False
def rAddD (K : PySem.W.Frag) : R2 := fun x y H Q => (rI0 fun i j => .int (i + j)) x y H Q ∨ (∃ i j, x = .str i ∧ y = .str j ∧ i.length + j.length ≤ sizeLine ∧ Q (.str (i ++ j)) H) ∨ rCat x y H Q ∨ rCatF K x y H Q
theorem op_addD {X : Cx} : OpR X (binaryOp .Add) (rAddD X.K) := op_add.or (op_add_str.or (op_cat.or op_catF))
theorem pr_add {K : PySem.W.Frag} : Pr2 K (rAddD K) fAdd := fun F H v u d d' Q R fh h1 h2 hf ha => by
  unfold fAdd at hf
  split at hf
  · exact .inl ⟨_, _, h1.int, h2.int, ha.int fh hf⟩
  · exact .inr (.inl ⟨_, _, h1.str, h2.str, hf.1, ha.str fh hf.2⟩)
  · obtain ⟨a, vs, rfl, e1, r1⟩ := h1.lst fh
    obtain ⟨b, us, rfl, e2, r2⟩ := h2.lst fh
    exact .inr (.inr (.inl ⟨a, b, vs, us, rfl, rfl, e1, e2, by rw [← r1.length, ← r2.length]; exact hf.1, fun p n => ha.lst fh n (r1.append r2) (hf.2 p)⟩))
  · obtain ⟨a, vs, rfl, e1, e1', r1⟩ := h1.tup fh
    obtain ⟨b, us, rfl, e2, e2', r2⟩ := h2.tup fh
    refine .inr (.inr (.inr ⟨a, b, vs, us, rfl, rfl, e1, e2, by rw [← r1.length, ← r2.length]; exact hf.1, fun z => ?_, fun _ z => ?_, fun _ _ => ha.tup fh (r1.append r2) hf.2⟩))
    · refine ha.ext (d := .tup _) fh ⟨b, us, rfl, e2', ?_⟩ hf.2
      have q := r1.append r2
      rw [z] at q
      exact q
    · refine ha.ext (d := .tup _) fh ⟨a, vs, rfl, e1', ?_⟩ hf.2
      have q := r1.append r2
      rw [z, List.append_nil] at q
      exact q
  · exact hf.elim
def fSub : D → D → (Sl → Prop) → Prop
  | .int i, .int j, Q => Q (.ext (.int (i - j)))
  | _, _, _ => False
theorem pr_sub {K : PySem.W.Frag} : Pr2 K (rI0 fun i j => .int (i - j)) fSub := fun F H v u d d' Q R fh h1 h2 hf ha => by
  unfold fSub at hf
  split at hf
  · exact ⟨_, _, h1.int, h2.int, ha.int fh hf⟩
  · exact hf.elim
def fMul : D → D → (Sl → Prop) → Prop
  | .int i, .int j, Q => CMulW i j ∧ Q (.ext (.int (i * j)))
  | .lst xs, .int k, Q => k < 2 ^ 63 ∧ 0 ≤ k ∧ xs.length * k.toNat ≤ sizeLine ∧ ∀ a, Q (.lst a (List.replicate k.toNat xs).flatten)
  | _, _, _ => False
theorem Reps.rep {K : PySem.W.Frag} {F : Hp} {ds : List D} {vs : List V} (h : Reps K F ds vs) : ∀ k : Nat, Reps K F (List.replicate k ds).flatten (List.replicate k vs).flatten
  | 0 => rfl
  | k + 1 => by
    rw [List.replicate_succ, List.replicate_succ, List.flatten_cons, List.flatten_cons]
    exact h.append (Reps.rep h k)
theorem pr_mul {K : PySem.W.Frag} : Pr2 K (fun x y H Q => (rI CMulW fun i j => .int (i * j)) x y H Q ∨ rRep x y H Q) fMul := fun F H v u d d' Q R fh h1 h2 hf ha => by
  unfold fMul at hf
  split at hf
  · exact .inl ⟨_, _, h1.int, h2.int, hf.1, ha.int fh hf.2⟩
  · obtain ⟨a, vs, rfl, e1, r1⟩ := h1.lst fh
    obtain ⟨hf1, hf0, hf2, hf3⟩ := hf
    exact .inr ⟨a, _, vs, rfl, h2.int, e1, Int.le_trans (by decide) hf0, hf1, by rw [← r1.length]; exact hf2, fun p n => ha.lst fh n (r1.rep _) (hf3 p)⟩
  · exact hf.elim
theorem op_mulD {X : Cx} : OpR X (binaryOp .Mult) (fun x y H Q => (rI CMulW fun i j => .int (i * j)) x y H Q ∨ rRep x y H Q) := op_mulW.or op_rep
def fDiv : D → D → (Sl → Prop) → Prop
  | .int i, .int j, Q => CDivW i j ∧ Q (.ext (.int (i / j)))
  | _, _, _ => False
theorem pr_div {K : PySem.W.Frag} : Pr2 K (rI CDivW fun i j => .int (i / j)) fDiv := fun F H v u d d' Q R fh h1 h2 hf ha => by
  unfold fDiv at hf
  split at hf
  · exact ⟨_, _, h1.int, h2.int, hf.1, ha.int fh hf.2⟩
  · exact hf.elim
def fMod : D → D → (Sl → Prop) → Prop
  | .int i, .int j, Q => 0 < j ∧ Q (.ext (.int (i % j)))
  | _, _, _ => False
theorem pr_mod {K : PySem.W.Frag} : Pr2 K (rI (fun _ j => 0 < j) fun i j => .int (i % j)) fMod := fun F H v u d d' Q R fh h1 h2 hf ha => by
  unfold fMod at hf
  split at hf
  · exact ⟨_, _, h1.int, h2.int, hf.1, ha.int fh hf.2⟩
  · exact hf.elim
def fPow : D → D → (Sl → Prop) → Prop
  | .int i, .int j, Q => CPow i j ∧ Q (.ext (.int (i ^ j.toNat)))
  | _, _, _ => False
theorem pr_pow {K : PySem.W.Frag} : Pr2 K (rI CPow fun i j => .int (i ^ j.toNat)) fPow := fun F H v u d d' Q R fh h1 h2 hf ha => by
  unfold fPow at hf
  split at hf
  · exact ⟨_, _, h1.int, h2.int, hf.1, ha.int fh hf.2⟩
  · exact hf.elim
section
variable {G : GG} {N : List Str} {sc : SC} {k : Nat} {a b : Expr} {ta tb : DT} {pos : Pos}
theorem de_bin {op : Operator} {r : PySem.W.Frag → R2} {f : D → D → (Sl → Prop) → Prop} (hr : ∀ K, Pr2 K (r K) f) (ho : ∀ X : Cx, OpR X (binaryOp op) (r X.K)) (ha : DE G N sc k a ta) (hb : DE G N sc k b tb) : DE G N sc k (.BinOp a op b pos) (dOp f ta tb) :=
  ⟨fun W => by
    obtain ⟨te, p1, i1⟩ := ha.ex W
    obtain ⟨tf, p2, i2⟩ := hb.ex W
    exact ⟨tOp (r G.K) te tf, fun X S => pe_op (by rw [← S.K]; exact ho X) (p1 X S) (p2 X S), im_op (hr _) i1 i2⟩⟩
theorem de_add (ha : DE G N sc k a ta) (hb : DE G N sc k b tb) : DE G N sc k (.BinOp a .Add b pos) (dOp fAdd ta tb) := de_bin (r := rAddD) (fun _ => pr_add) (fun _ => op_addD) ha hb
theorem de_sub (ha : DE G N sc k a ta) (hb : DE G N sc k b tb) : DE G N sc k (.BinOp a .Sub b pos) (dOp fSub ta tb) := de_bin (r := fun _ => _) (fun _ => pr_sub) (fun _ => op_sub) ha hb
theorem de_mul (ha : DE G N sc k a ta) (hb : DE G N sc k b tb) : DE G N sc k (.BinOp a .Mult b pos) (dOp fMul ta tb) := de_bin (r := fun _ => _) (fun _ => pr_mul) (fun _ => op_mulD) ha hb
theorem de_div (ha : DE G N sc k a ta) (hb : DE G N sc k b tb) : DE G N sc k (.BinOp a .FloorDiv b pos) (dOp fDiv ta tb) := de_bin (r := fun _ => _) (fun _ => pr_div) (fun _ => op_fdivW) ha hb
theorem de_mod (ha : DE G N sc k a ta) (hb : DE G N sc k b tb) : DE G N sc k (.BinOp a .Mod b pos) (dOp fMod ta tb) := de_bin (r := fun _ => _) (fun _ => pr_mod) (fun _ => op_mod) ha hb
theorem de_pow (ha : DE G N sc k a ta) (hb : DE G N sc k b tb) : DE G N sc k (.BinOp a .Pow b pos) (dOp fPow ta tb) := de_bin (r := fun _ => _) (fun _ => pr_pow) (fun _ => op_pow) ha hb
end

/-! ### -x -/
def dNeg (ta : DT) : DT := fun Ex env Q => ta Ex env fun x env1 => wd env1 x fun d => match d with
  | .int i => Q (.ext (.int (-i))) env1
  | _ => False
theorem de_neg {G : GG} {N : List Str} {sc : SC} {k : Nat} {a : Expr} {ta : DT} {pos : Pos} (ha : DE G N sc k a ta) : DE G N sc k (.UnaryOp .USub a pos) (dNeg ta) :=
  ⟨fun W => by
    obtain ⟨te, p1, i1⟩ := ha.ex W
    refine ⟨tUn (rU fun i => .int (-i)) te, fun X S => pe_un un_neg (p1 X S), fun e Ex hl env T F σ H Q R hh ht hR => ?_⟩
    refine i1 e Ex hl env T F σ H _ _ hh ht fun v H1 F1 env1 x hh1 q1 => ?_
    obtain ⟨d, rd, q3⟩ := hh1.wd (v := v) (sl := x) List.mem_cons_self q1
    cases d <;> first
      | exact q3.elim
      | exact ⟨_, rd.int, (hh1.pop.done hR).int hh1.fh q3⟩⟩

/-! ### data as the library's -/
mutual
def D.py : D → PyData
  | .non => .none
  | .bl b => .bool b
  | .int i => .int i
  | .str x => .str x
  | .val _ => .none
  | .lst ds => .list (D.pys ds)
  | .fz ds => .list (D.pys ds)
  | .tup ds => .tuple (D.pys ds)
  | .tk ds => .tuple (D.pys ds)
  | .exc _ => .none
  | .glo _ => .none
def D.pys : List D → List PyData
  | [] => []
  | d :: ds => D.py d :: D.pys ds
end
mutual
def D.noVal : D → Bool
  | .val _ => false
  | .exc _ => false
  | .glo _ => false
  | .lst ds => D.noVals ds
  | .fz ds => D.noVals ds
  | .tup ds => D.noVals ds
  | .tk ds => D.noVals ds
  | _ => true
def D.noVals : List D → Bool
  | [] => true
  | d :: ds => D.noVal d && D.noVals ds
end
section
variable {K : PySem.W.Frag} {H : Hp}
mutual
theorem Rep.dp : ∀ {d : D} {v : V}, d.noVal = true → Rep K H d v → Dp K H v d.py
  | .non, _, _, h => by
    have e : _ = V.non := h
    rw [e]
    exact .non
  | .bl b, _, _, h => by
    have e : _ = V.bl b := h
    rw [e]
    exact .bl b
  | .int b, _, _, h => by
    have e : _ = V.int b := h
    rw [e]
    exact .int b
  | .str b, _, _, h => by
    have e : _ = V.str b := h
    rw [e]
    exact .str b
  | .val _, _, n, _ => nomatch n
  | .exc _, _, n, _ => nomatch n
  | .glo _, _, n, _ => nomatch n
  | .lst ds, _, n, h => by
    obtain ⟨a, xs, rfl, hs, hr⟩ := h
    exact .lst (SqL.of hs) (Reps.dp n hr)
  | .fz ds, _, n, h => by
    obtain ⟨a, xs, rfl, hs, hr⟩ := h
    exact .lst hs (Reps.dp n hr)
  | .tup ds, _, n, h => by
    obtain ⟨a, xs, rfl, hs, hr⟩ := h
    exact .tup hs.sq (Reps.dp n hr)
  | .tk ds, _, n, h => by
    obtain ⟨a, xs, rfl, hs, hr⟩ := h
    exact .tup hs (Reps.dp n hr)
theorem Reps.dp : ∀ {ds : List D} {vs : List V}, D.noVals ds = true → Reps K H ds vs → DpAll K H vs (D.pys ds)
  | [], _, _, h => by
    have e : _ = [] := h
    rw [e]
    exact .nil
  | d :: ds, _, n, h => by
    obtain ⟨v, r, rfl, h1, h2⟩ := h
    have n' : (D.noVal d && D.noVals ds) = true := n
    rw [Bool.and_eq_true] at n'
    exact .cons (Rep.dp n'.1 h1) (Reps.dp n'.2 h2)
end
end
/-- data that == may look at -/
def D.cmp (d : D) : Prop := d.noVal = true ∧ SeqAt.shaped d.py = true
def D.eqv (d e : D) : Bool := PyData.eqv d.py e.py

/-! ### == and != of any data -/
def fEq : D → D → (Sl → Prop) → Prop
  | .int i, .int j, Q => Q (.ext (.bl (i == j)))
  | .str i, .str j, Q => Q (.ext (.bl (i == j)))
  | .bl i, .bl j, Q => Q (.ext (.bl (i == j)))
  | d, e, Q => d.cmp ∧ e.cmp ∧ Q (.ext (.bl (d.eqv e)))
def fNe : D → D → (Sl → Prop) → Prop
  | .int i, .int j, Q => Q (.ext (.bl (!(i == j))))
  | .str i, .str j, Q => Q (.ext (.bl (!(i == j))))
  | .bl i, .bl j, Q => Q (.ext (.bl (!(i == j))))
  | d, e, Q => d.cmp ∧ e.cmp ∧ Q (.ext (.bl (!d.eqv e)))
def rEqA (K : PySem.W.Frag) : R2 := fun x y H Q => rEq x y H Q ∨ rEqD K x y H Q
def rNeA (K : PySem.W.Frag) : R2 := fun x y H Q => rNe x y H Q ∨ rNeD K x y H Q
theorem pr_eq {K : PySem.W.Frag} : Pr2 K (rEqA K) fEq := fun F H v u d d' Q R fh h1 h2 hf ha => by
  unfold fEq at hf
  split at hf
  · rw [h1.int, h2.int]
    exact .inl ⟨rfl, by rw [dec_int]; exact ha.bl fh hf⟩
  · rw [h1.str, h2.str]
    exact .inl ⟨rfl, by rw [dec_str]; exact ha.bl fh hf⟩
  · rw [h1.bl, h2.bl]
    exact .inl ⟨rfl, by rw [dec_bl]; exact ha.bl fh hf⟩
  · obtain ⟨c1, c2, q⟩ := hf
    exact .inr ⟨d.py, d'.py, Rep.dp c1.1 (h1.rep fh), Rep.dp c2.1 (h2.rep fh), c1.2, c2.2, ha.bl fh q⟩
theorem pr_ne {K : PySem.W.Frag} : Pr2 K (rNeA K) fNe := fun F H v u d d' Q R fh h1 h2 hf ha => by
  unfold fNe at hf
  split at hf
  · rw [h1.int, h2.int]
    exact .inl ⟨rfl, by rw [dec_int]; exact ha.bl fh hf⟩
  · rw [h1.str, h2.str]
    exact .inl ⟨rfl, by rw [dec_str]; exact ha.bl fh hf⟩
  · rw [h1.bl, h2.bl]
    exact .inl ⟨rfl, by rw [dec_bl]; exact ha.bl fh hf⟩
  · obtain ⟨c1, c2, q⟩ := hf
    exact .inr ⟨d.py, d'.py, Rep.dp c1.1 (h1.rep fh), Rep.dp c2.1 (h2.rep fh), c1.2, c2.2, ha.bl fh q⟩
/-! ### < <= > >= of ints -/
def fCmp (p : Int → Int → Bool) : D → D → (Sl → Prop) → Prop
  | .int i, .int j, Q => Q (.ext (.bl (p i j)))
  | _, _, _ => False
theorem pr_cmp {K : PySem.W.Frag} {p : Int → Int → Bool} : Pr2 K (rI0 fun i j => .bl (p i j)) (fCmp p) := fun F H v u d d' Q R fh h1 h2 hf ha => by
  unfold fCmp at hf
  split at hf
  · exact ⟨_, _, h1.int, h2.int, ha.bl fh hf⟩
  · exact hf.elim
/-! ### in, not in: flat things -/
def D.flat : D → Bool
  | .non => true
  | .bl _ => true
  | .int _ => true
  | .str _ => true
  | _ => false
def D.toV : D → V
  | .non => .non
  | .bl b => .bl b
  | .int i => .int i
  | .str x => .str x
  | .val v => v
  | _ => .non
def D.isIn (x : D) (xs : List D) : Bool := inV x.toV (xs.map D.toV)
def fIn (neg : Bool) : D → D → (Sl → Prop) → Prop
  | d, .lst ds, Q => d.flat = true ∧ ds.all D.flat = true ∧ Q (.ext (.bl (if neg then !d.isIn ds else d.isIn ds)))
  | d, .tup ds, Q => d.flat = true ∧ ds.all D.flat = true ∧ Q (.ext (.bl (if neg then !d.isIn ds else d.isIn ds)))
  | _, _, _ => False
theorem flat_rep {K : PySem.W.Frag} {F : Hp} {d : D} {v : V} (h : Rep K F d v) (f : d.flat = true) : v = d.toV ∧ flatV v = true := by
  cases d with
  | non =>
    have e : v = .non := h
    rw [e]
    exact ⟨rfl, rfl⟩
  | bl b =>
    have e : v = .bl b := h
    rw [e]
    exact ⟨rfl, rfl⟩
  | int b =>
    have e : v = .int b := h
    rw [e]
    exact ⟨rfl, rfl⟩
  | str b =>
    have e : v = .str b := h
    rw [e]
    exact ⟨rfl, rfl⟩
  | val u => exact nomatch f
  | lst ds => exact nomatch f
  | fz ds => exact nomatch f
  | tup ds => exact nomatch f
  | tk ds => exact nomatch f
  | exc c => exact nomatch f
  | glo c => exact nomatch f
theorem flat_reps {K : PySem.W.Frag} {F : Hp} : ∀ {ds : List D} {vs : List V}, Reps K F ds vs → ds.all D.flat = true → vs = ds.map D.toV ∧ vs.all flatV = true
  | [], _, h, _ => by
    have e : _ = [] := h
    rw [e]
    exact ⟨rfl, rfl⟩
  | d :: ds, _, h, f => by
    obtain ⟨v, r, rfl, h1, h2⟩ := h
    rw [List.all_cons, Bool.and_eq_true] at f
    obtain ⟨e1, f1⟩ := flat_rep h1 f.1
    obtain ⟨e2, f2⟩ := flat_reps h2 f.2
    rw [List.all_cons, f1, f2, List.map_cons, ← e1, ← e2]
    exact ⟨rfl, rfl⟩
theorem pr_in {K : PySem.W.Frag} (neg : Bool) : Pr2 K (rIn K neg) (fIn neg) := fun F H v u d d' Q R fh h1 h2 hf ha => by
  unfold fIn at hf
  split at hf
  · rename_i ds
    obtain ⟨b, us, rfl, e2, r2⟩ := h2.lst fh
    obtain ⟨f1, f2, q⟩ := hf
    obtain ⟨x1, x2⟩ := flat_rep (h1.rep fh) f1
    obtain ⟨y1, y2⟩ := flat_reps r2 f2
    refine ⟨b, us, rfl, .inl (SqL.of e2), x2, y2, ?_⟩
    rw [x1, y1]
    exact ha.bl fh q
  · rename_i ds
    obtain ⟨b, us, rfl, e2, _, r2⟩ := h2.tup fh
    obtain ⟨f1, f2, q⟩ := hf
    obtain ⟨x1, x2⟩ := flat_rep (h1.rep fh) f1
    obtain ⟨y1, y2⟩ := flat_reps r2 f2
    refine ⟨b, us, rfl, .inr e2, x2, y2, ?_⟩
    rw [x1, y1]
    exact ha.bl fh q
  · exact hf.elim
section
variable {G : GG} {N : List Str} {sc : SC} {k : Nat} {a b c : Expr} {ta tb tc : DT} {pos : Pos}
/-- a rule of a comparison, at every context -/
def CmpR (op : CmpOp) (f : D → D → (Sl → Prop) → Prop) : Prop := ∃ r : PySem.W.Frag → R2, (∀ K, Pr2 K (r K) f) ∧ ∀ X : Cx, X.A.units + 64 < cLine → OpR X (compareOp op) (r X.K)
theorem c_eq : CmpR .Eq fEq := ⟨rEqA, fun _ => pr_eq, fun _ h => op_eq.or (op_eqD h)⟩
theorem c_ne : CmpR .NotEq fNe := ⟨rNeA, fun _ => pr_ne, fun _ h => op_ne.or (op_neD h)⟩
theorem c_lt : CmpR .Lt (fCmp fun i j => decide (i < j)) := ⟨fun _ => _, fun _ => pr_cmp, fun _ _ => op_lt⟩
theorem c_le : CmpR .LtE (fCmp fun i j => decide (i ≤ j)) := ⟨fun _ => _, fun _ => pr_cmp, fun _ _ => op_le⟩
theorem c_gt : CmpR .Gt (fCmp fun i j => decide (j < i)) := ⟨fun _ => _, fun _ => pr_cmp, fun _ _ => op_gt⟩
theorem c_ge : CmpR .GtE (fCmp fun i j => decide (j ≤ i)) := ⟨fun _ => _, fun _ => pr_cmp, fun _ _ => op_ge⟩
theorem c_in : CmpR .In (fIn false) := ⟨fun K => rIn K false, fun _ => pr_in false, fun _ _ => op_in_seq⟩
theorem c_notin : CmpR .NotIn (fIn true) := ⟨fun K => rIn K true, fun _ => pr_in true, fun _ _ => op_notIn_seq⟩
def D.knN : D → Bool
  | .val _ => false
  | _ => true
def D.isNon : D → Bool
  | .non => true
  | _ => false
def fIsN : D → D → (Sl → Prop) → Prop
  | d, .non, Q => d.knN = true ∧ Q (.ext (.bl d.isNon))
  | _, _, _ => False
theorem isN_dec {K : PySem.W.Frag} {F : Hp} {d : D} {v : V} (n : d.knN = true) (h : Rep K F d v) : decide (v = .non) = d.isNon := by
  cases d with
  | non =>
    have e : v = .non := h
    rw [e]
    rfl
  | val u => cases n
  | bl b =>
    have e : v = .bl b := h
    rw [e]
    rfl
  | int b =>
    have e : v = .int b := h
    rw [e]
    rfl
  | str b =>
    have e : v = .str b := h
    rw [e]
    exact decide_eq_false fun z => nomatch z
  | lst ds =>
    obtain ⟨a, xs, rfl, _⟩ := h
    rfl
  | fz ds =>
    obtain ⟨a, xs, rfl, _⟩ := h
    rfl
  | tup ds =>
    obtain ⟨a, xs, rfl, _⟩ := h
    rfl
  | tk ds =>
    obtain ⟨a, xs, rfl, _⟩ := h
    rfl
  | exc c =>
    obtain ⟨a, oe, rfl, _⟩ := h
    rfl
  | glo c =>
    have e : v = .ref _ := h
    rw [e]
    rfl
theorem c_is : CmpR .Is fIsN := ⟨fun _ => _, fun K F H v u d d' Q R fh h1 h2 hf ha => by
    unfold fIsN at hf
    split at hf
    · refine ⟨h2.non, ?_⟩
      rw [isN_dec hf.1 (h1.rep fh)]
      exact ha.bl fh hf.2
    · exact hf.elim, fun _ _ => op_isN⟩
def fNotN : D → D → (Sl → Prop) → Prop
  | d, .non, Q => d.knN = true ∧ Q (.ext (.bl (!d.isNon)))
  | _, _, _ => False
theorem c_isnot : CmpR .IsNot fNotN := ⟨fun _ => _, fun K F H v u d d' Q R fh h1 h2 hf ha => by
    unfold fNotN at hf
    split at hf
    · refine ⟨h2.non, ?_⟩
      rw [isN_dec hf.1 (h1.rep fh)]
      exact ha.bl fh hf.2
    · exact hf.elim, fun _ _ => op_notN⟩
theorem de_cmp {op : CmpOp} {f : D → D → (Sl → Prop) → Prop} (hr : CmpR op f) (ha : DE G N sc k a ta) (hb : DE G N sc k b tb) (hm : behindInMarks op b = false := by first | exact nomark _ | rfl) : DE G N sc k (.Compare a [op] [b] pos) (dOp f ta tb) :=
  ⟨fun W => by
    obtain ⟨r, h1, h2⟩ := hr
    obtain ⟨te, p1, i1⟩ := ha.ex W
    obtain ⟨tf, p2, i2⟩ := hb.ex W
    exact ⟨tOp (r G.K) te tf, fun X S => pe_cmpR (by rw [← S.K]; exact h2 X S.units) (p1 X S) (p2 X S) hm, im_op (h1 _) i1 i2⟩⟩
/-- a value that is True or False, as a test -/
def dTest (t : DT) : DTT := fun Ex env Q => t Ex env fun x env1 => match x with
  | .ext (.bl b) => Q b env1
  | _ => False
theorem imT_of {K : PySem.W.Frag} {W : WX} {te : TE} {t : DT} {tt : TT} (h : Im K W te t) (hs : ∀ σ H Q, te σ H (fun x H1 => ∃ c, x = .bl c ∧ Q c H1) → tt σ H Q) : ImT K W tt (dTest t) := fun e Ex hl env T F σ H Q R hh ht hR => by
  refine hs _ _ _ (h e Ex hl env T F σ H _ _ hh ht fun v H1 F1 env1 x hh1 q1 => ?_)
  cases x with
  | ext d =>
    cases d with
    | bl b => exact ⟨b, hh1.temps (v, .ext (.bl b)) List.mem_cons_self, hR b H1 F1 env1 hh1.pop q1⟩
    | _ => exact q1.elim
  | _ => exact q1.elim
theorem dt_cmp {op : CmpOp} {f : D → D → (Sl → Prop) → Prop} (hr : CmpR op f) (ha : DE G N sc k a ta) (hb : DE G N sc k b tb) (hm : behindInMarks op b = false := by first | exact nomark _ | rfl) : DTe G N sc k (.Compare a [op] [b] pos) (dTest (dOp f ta tb)) :=
  ⟨fun W => by
    obtain ⟨r, h1, h2⟩ := hr
    obtain ⟨te, p1, i1⟩ := ha.ex W
    obtain ⟨tf, p2, i2⟩ := hb.ex W
    exact ⟨tTest (tOp (r G.K) te tf), fun X S => pt_cmpR (by rw [← S.K]; exact h2 X S.units) (p1 X S) (p2 X S) hm, imT_of (im_op (h1 _) i1 i2) fun _ _ _ h => h⟩⟩
theorem dt_val {e : Expr} {t : DT} (h : DE G N sc k e t) (he : ∀ env whole, isTrue e env whole = (do let v ← whole; standAt e.pos; holding [v] (truthy v)) := by intro _ _; rfl) : DTe G N sc k e (dTest t) :=
  ⟨fun W => by
    obtain ⟨te, p1, i1⟩ := h.ex W
    exact ⟨tB te, fun X S => pt_val (p1 X S) (he _), imT_of i1 fun _ _ _ h => h⟩⟩
/-- a < b < c -/
def dChain (f f' : D → D → (Sl → Prop) → Prop) (ta tb tc : DT) : DT := fun Ex env Q => ta Ex env fun x env1 => tb Ex env1 fun y env2 => wd env2 x fun d => wd env2 y fun d' => f d d' fun z => match z with
  | .ext (.bl true) => tc Ex env2 fun w env3 => wd env3 y fun d1 => wd env3 w fun d2 => f' d1 d2 fun sl => Q sl env3
  | .ext (.bl false) => Q (.ext (.bl false)) env2
  | _ => False
theorem de_chain {op op' : CmpOp} {f f' : D → D → (Sl → Prop) → Prop} (hr : CmpR op f) (hr' : CmpR op' f') (ha : DE G N sc k a ta) (hb : DE G N sc k b tb) (hc : DE G N sc k c tc)
    (hm : lastMarks [op, op'] [b, c] = false := by with_unfolding_all rfl) : DE G N sc k (.Compare a [op, op'] [b, c] pos) (dChain f f' ta tb tc) :=
  ⟨fun W => by
    obtain ⟨r, h1, h2⟩ := hr
    obtain ⟨r', h1', h2'⟩ := hr'
    obtain ⟨te, p1, i1⟩ := ha.ex W
    obtain ⟨tf, p2, i2⟩ := hb.ex W
    obtain ⟨tg, p3, i3⟩ := hc.ex W
    refine ⟨tChain (r G.K) (r' G.K) te tf tg, fun X S => pe_chain (by rw [← S.K]; exact h2 X S.units) (by rw [← S.K]; exact h2' X S.units) (p1 X S) (p2 X S) (p3 X S) hm, fun e Ex hl env T F σ H Q R hh ht hR => ?_⟩
    refine i1 e Ex hl env T F σ H _ _ hh ht fun v H1 F1 env1 x hh1 q1 => ?_
    refine i2 e Ex hl env1 _ F1 σ H1 _ _ hh1 q1 fun u H2 F2 env2 y hh2 q2 => ?_
    obtain ⟨d, rd, q3⟩ := hh2.wd (v := v) (sl := x) (List.mem_cons_of_mem _ List.mem_cons_self) q2
    obtain ⟨d', rd', q4⟩ := hh2.wd (v := u) (sl := y) List.mem_cons_self q3
    refine h1 _ F2 H2 v u d d' _ _ hh2.fh rd rd' q4 fun z F3 H3 sl g ok own q5 => ?_
    have hh3 := hh2.push g ok own
    cases sl with
    | ext dz =>
      cases dz with
      | bl bb =>
        refine ⟨bb, hh3.temps (z, .ext (.bl bb)) List.mem_cons_self, ?_⟩
        cases bb with
        | true =>
          rw [if_pos rfl]
          refine i3 e Ex hl env2 _ F3 σ H3 _ _ hh3.pop q5 fun w H4 F4 env4 x4 hh4 q6 => ?_
          obtain ⟨d1, rd1, q7⟩ := hh4.wd (v := u) (sl := y) (List.mem_cons_of_mem _ List.mem_cons_self) q6
          obtain ⟨d2, rd2, q8⟩ := hh4.wd (v := w) (sl := x4) List.mem_cons_self q7
          exact h1' _ F4 H4 u w d1 d2 _ R hh4.fh rd1 rd2 q8 (hh4.pop.pop.pop.done hR)
        | false =>
          rw [if_neg Bool.false_ne_true]
          exact hR (.bl false) H3 F3 env2 (.ext (.bl false)) (hh3.pop.pop.pop.pushE rfl) q5
      | _ => exact q5.elim
    | _ => exact q5.elim⟩
theorem dt_chain {op op' : CmpOp} {f f' : D → D → (Sl → Prop) → Prop} (hr : CmpR op f) (hr' : CmpR op' f') (ha : DE G N sc k a ta) (hb : DE G N sc k b tb) (hc : DE G N sc k c tc)
    (hm : lastMarks [op, op'] [b, c] = false := by with_unfolding_all rfl) : DTe G N sc k (.Compare a [op, op'] [b, c] pos) (dTest (dChain f f' ta tb tc)) :=
  ⟨fun W => by
    obtain ⟨r, h1, h2⟩ := hr
    obtain ⟨r', h1', h2'⟩ := hr'
    obtain ⟨te, p1, i1⟩ := ha.ex W
    obtain ⟨tf, p2, i2⟩ := hb.ex W
    obtain ⟨tg, p3, i3⟩ := hc.ex W
    refine ⟨tTest (tChain (r G.K) (r' G.K) te tf tg), fun X S => pt_chain (by rw [← S.K]; exact h2 X S.units) (by rw [← S.K]; exact h2' X S.units) (p1 X S) (p2 X S) (p3 X S) hm, imT_of (te := tChain (r G.K) (r' G.K) te tf tg) (fun e Ex hl env T F σ H Q R hh ht hR => ?_) fun _ _ _ h => h⟩
    refine i1 e Ex hl env T F σ H _ _ hh ht fun v H1 F1 env1 x hh1 q1 => ?_
    refine i2 e Ex hl env1 _ F1 σ H1 _ _ hh1 q1 fun u H2 F2 env2 y hh2 q2 => ?_
    obtain ⟨d, rd, q3⟩ := hh2.wd (v := v) (sl := x) (List.mem_cons_of_mem _ List.mem_cons_self) q2
    obtain ⟨d', rd', q4⟩ := hh2.wd (v := u) (sl := y) List.mem_cons_self q3
    refine h1 _ F2 H2 v u d d' _ _ hh2.fh rd rd' q4 fun z F3 H3 sl g ok own q5 => ?_
    have hh3 := hh2.push g ok own
    cases sl with
    | ext dz =>
      cases dz with
      | bl bb =>
        refine ⟨bb, hh3.temps (z, .ext (.bl bb)) List.mem_cons_self, ?_⟩
        cases bb with
        | true =>
          rw [if_pos rfl]
          refine i3 e Ex hl env2 _ F3 σ H3 _ _ hh3.pop q5 fun w H4 F4 env4 x4 hh4 q6 => ?_
          obtain ⟨d1, rd1, q7⟩ := hh4.wd (v := u) (sl := y) (List.mem_cons_of_mem _ List.mem_cons_self) q6
          obtain ⟨d2, rd2, q8⟩ := hh4.wd (v := w) (sl := x4) List.mem_cons_self q7
          exact h1' _ F4 H4 u w d1 d2 _ R hh4.fh rd1 rd2 q8 (hh4.pop.pop.pop.done hR)
        | false =>
          rw [if_neg Bool.false_ne_true]
          exact hR (.bl false) H3 F3 env2 (.ext (.bl false)) (hh3.pop.pop.pop.pushE rfl) q5
      | _ => exact q5.elim
    | _ => exact q5.elim⟩

/-! ### and, or, not; a if t else b -/
def dAnd (t u : DTT) : DTT := fun Ex env Q => t Ex env fun b env1 => if b = true then u Ex env1 Q else Q false env1
def dOr (t u : DTT) : DTT := fun Ex env Q => t Ex env fun b env1 => if b = true then Q true env1 else u Ex env1 Q
def dNot (t : DTT) : DTT := fun Ex env Q => t Ex env fun b env1 => Q (!b) env1
structure DWe (G : GG) (N : List Str) (sc : SC) (k : Nat) (e : Expr) (t : DTT) : Prop where
  ex : ∀ W : WX, ∃ te, (∀ X, Sit G N sc W k X → PW X e te) ∧ ImT G.K W te t
variable {rest : List Expr} {t u : DTT}
theorem imT_and {K : PySem.W.Frag} {W : WX} {te tf : TT} (h : ImT K W te t) (g : ImT K W tf u) : ImT K W (tAnd te tf) (dAnd t u) := fun e Ex hl env T F σ H Q R hh ht hR => by
  refine h e Ex hl env T F σ H _ _ hh ht fun b H1 F1 env1 hh1 q1 => ?_
  cases b with
  | true =>
    rw [if_pos rfl] at q1 ⊢
    exact g e Ex hl env1 T F1 σ H1 _ _ hh1 q1 hR
  | false =>
    rw [if_neg Bool.false_ne_true] at q1 ⊢
    exact hR false H1 F1 env1 hh1 q1
theorem imT_or {K : PySem.W.Frag} {W : WX} {te tf : TT} (h : ImT K W te t) (g : ImT K W tf u) : ImT K W (tOr te tf) (dOr t u) := fun e Ex hl env T F σ H Q R hh ht hR => by
  refine h e Ex hl env T F σ H _ _ hh ht fun b H1 F1 env1 hh1 q1 => ?_
  cases b with
  | true =>
    rw [if_pos rfl] at q1 ⊢
    exact hR true H1 F1 env1 hh1 q1
  | false =>
    rw [if_neg Bool.false_ne_true] at q1 ⊢
    exact g e Ex hl env1 T F1 σ H1 _ _ hh1 q1 hR
theorem dw_and1 (h : DTe G N sc k a t) : DWe G N sc k (.BoolOp .And [a] pos) t := ⟨fun W => by
  obtain ⟨te, p1, i1⟩ := h.ex W
  exact ⟨te, fun X S => pw_and1 (p1 X S), i1⟩⟩
theorem dw_or1 (h : DTe G N sc k a t) : DWe G N sc k (.BoolOp .Or [a] pos) t := ⟨fun W => by
  obtain ⟨te, p1, i1⟩ := h.ex W
  exact ⟨te, fun X S => pw_or1 (p1 X S), i1⟩⟩
theorem dw_and (h : DTe G N sc k a t) (g : DWe G N sc k (.BoolOp .And (b :: rest) pos) u) : DWe G N sc k (.BoolOp .And (a :: b :: rest) pos) (dAnd t u) := ⟨fun W => by
  obtain ⟨te, p1, i1⟩ := h.ex W
  obtain ⟨tf, p2, i2⟩ := g.ex W
  exact ⟨tAnd te tf, fun X S => pw_and (p1 X S) (p2 X S), imT_and i1 i2⟩⟩
theorem dw_or (h : DTe G N sc k a t) (g : DWe G N sc k (.BoolOp .Or (b :: rest) pos) u) : DWe G N sc k (.BoolOp .Or (a :: b :: rest) pos) (dOr t u) := ⟨fun W => by
  obtain ⟨te, p1, i1⟩ := h.ex W
  obtain ⟨tf, p2, i2⟩ := g.ex W
  exact ⟨tOr te tf, fun X S => pw_or (p1 X S) (p2 X S), imT_or i1 i2⟩⟩
theorem DWe.te {e : Expr} (h : DWe G N sc k e t) : DTe G N sc k e t := ⟨fun W => by
  obtain ⟨te, p1, i1⟩ := h.ex W
  exact ⟨te, fun X S => (p1 X S).pt, i1⟩⟩
theorem dt_not (h : DTe G N sc k a t) : DTe G N sc k (.UnaryOp .Not a pos) (dNot t) := ⟨fun W => by
  obtain ⟨te, p1, i1⟩ := h.ex W
  exact ⟨tNot te, fun X S => pt_not (p1 X S), fun e Ex hl env T F σ H Q R hh ht hR => i1 e Ex hl env T F σ H _ _ hh ht fun b H1 F1 env1 hh1 q1 => hR (!b) H1 F1 env1 hh1 q1⟩⟩
/-- as values -/
def dAndV (ta tb : DT) : DT := fun Ex env Q => ta Ex env fun x env1 => match x with
  | .ext (.bl true) => tb Ex env1 Q
  | .ext (.bl false) => Q (.ext (.bl false)) env1
  | _ => False
def dOrV (ta tb : DT) : DT := fun Ex env Q => ta Ex env fun x env1 => match x with
  | .ext (.bl false) => tb Ex env1 Q
  | .ext (.bl true) => Q (.ext (.bl true)) env1
  | _ => False
def dNotV (ta : DT) : DT := fun Ex env Q => ta Ex env fun x env1 => match x with
  | .ext (.bl b) => Q (.ext (.bl (!b))) env1
  | _ => False
theorem de_one {op} {t : DT} (h : DE G N sc k a t) : DE G N sc k (.BoolOp op [a] pos) t := ⟨fun W => by
  obtain ⟨te, p1, i1⟩ := h.ex W
  exact ⟨te, fun X S => pe_one (p1 X S), i1⟩⟩
theorem de_and (h : DE G N sc k a ta) (g : DE G N sc k (.BoolOp .And (b :: rest) pos) tb) : DE G N sc k (.BoolOp .And (a :: b :: rest) pos) (dAndV ta tb) := ⟨fun W => by
  obtain ⟨te, p1, i1⟩ := h.ex W
  obtain ⟨tf, p2, i2⟩ := g.ex W
  refine ⟨tAndV te tf, fun X S => pe_and (p1 X S) (p2 X S), fun e Ex hl env T F σ H Q R hh ht hR => ?_⟩
  refine i1 e Ex hl env T F σ H _ _ hh ht fun v H1 F1 env1 x hh1 q1 => ?_
  cases x with
  | ext d =>
    cases d with
    | bl bb =>
      refine ⟨bb, hh1.temps (v, .ext (.bl bb)) List.mem_cons_self, ?_⟩
      cases bb with
      | true =>
        rw [if_pos rfl]
        exact i2 e Ex hl env1 T F1 σ H1 _ _ hh1.pop q1 hR
      | false =>
        rw [if_neg Bool.false_ne_true]
        exact hR (.bl false) H1 F1 env1 (.ext (.bl false)) (hh1.pop.pushE rfl) q1
    | _ => exact q1.elim
  | _ => exact q1.elim⟩
theorem de_or (h : DE G N sc k a ta) (g : DE G N sc k (.BoolOp .Or (b :: rest) pos) tb) : DE G N sc k (.BoolOp .Or (a :: b :: rest) pos) (dOrV ta tb) := ⟨fun W => by
  obtain ⟨te, p1, i1⟩ := h.ex W
  obtain ⟨tf, p2, i2⟩ := g.ex W
  refine ⟨tOrV te tf, fun X S => pe_or (p1 X S) (p2 X S), fun e Ex hl env T F σ H Q R hh ht hR => ?_⟩
  refine i1 e Ex hl env T F σ H _ _ hh ht fun v H1 F1 env1 x hh1 q1 => ?_
  cases x with
  | ext d =>
    cases d with
    | bl bb =>
      refine ⟨bb, hh1.temps (v, .ext (.bl bb)) List.mem_cons_self, ?_⟩
      cases bb with
      | false =>
        rw [if_neg Bool.false_ne_true]
        exact i2 e Ex hl env1 T F1 σ H1 _ _ hh1.pop q1 hR
      | true =>
        rw [if_pos rfl]
        exact hR (.bl true) H1 F1 env1 (.ext (.bl true)) (hh1.pop.pushE rfl) q1
    | _ => exact q1.elim
  | _ => exact q1.elim⟩
theorem de_not (h : DE G N sc k a ta) : DE G N sc k (.UnaryOp .Not a pos) (dNotV ta) := ⟨fun W => by
  obtain ⟨te, p1, i1⟩ := h.ex W
  refine ⟨tNotV te, fun X S => pe_not (p1 X S), fun e Ex hl env T F σ H Q R hh ht hR => ?_⟩
  refine i1 e Ex hl env T F σ H _ _ hh ht fun v H1 F1 env1 x hh1 q1 => ?_
  cases x with
  | ext d =>
    cases d with
    | bl bb => exact ⟨bb, hh1.temps (v, .ext (.bl bb)) List.mem_cons_self, hR _ H1 F1 env1 (.ext (.bl (!bb))) (hh1.pop.pushE rfl) q1⟩
    | _ => exact q1.elim
  | _ => exact q1.elim⟩
def dIf (t : DTT) (ta tb : DT) : DT := fun Ex env Q => t Ex env fun b env1 => if b = true then ta Ex env1 Q else tb Ex env1 Q
theorem de_if {t : DTT} (hc : DTe G N sc k c t) (ha : DE G N sc k a ta) (hb : DE G N sc k b tb) : DE G N sc k (.IfExp c a b pos) (dIf t ta tb) := ⟨fun W => by
  obtain ⟨tc, p0, i0⟩ := hc.ex W
  obtain ⟨te, p1, i1⟩ := ha.ex W
  obtain ⟨tf, p2, i2⟩ := hb.ex W
  refine ⟨tIf tc te tf, fun X S => pe_ifExp (p0 X S) (p1 X S) (p2 X S), fun e Ex hl env T F σ H Q R hh ht hR => ?_⟩
  refine i0 e Ex hl env T F σ H _ _ hh ht fun bb H1 F1 env1 hh1 q1 => ?_
  cases bb with
  | true =>
    rw [if_pos rfl] at q1 ⊢
    exact i1 e Ex hl env1 T F1 σ H1 _ _ hh1 q1 hR
  | false =>
    rw [if_neg Bool.false_ne_true] at q1 ⊢
    exact i2 e Ex hl env1 T F1 σ H1 _ _ hh1 q1 hR⟩

/-! ### displays: what goes in is frozen -/
def froz (env : Env') : Sl → (D → Prop) → Prop
  | .ext d, q => q d
  | .lst _ ds, q => q (.lst ds)
  | _, _ => False
def frozs (env : Env') : List Sl → (List D → Prop) → Prop
  | [], q => q []
  | s :: ss, q => froz env s fun d => frozs env ss fun ds => q (d :: ds)
theorem Holds.froz1 {K : PySem.W.Frag} {e : Ent} {env : Env'} {T : Tmp} {F : Hp} {σ : St} {H : Hp} {v : V} {sl : Sl} {q : D → Prop} (h : Holds K e env ((v, sl) :: T) F σ H) (w : froz env sl q) : ∃ d F1, Same F F1 ∧ Holds K e env T F1 σ H ∧ Rep K F1 d v ∧ q d := by
  cases sl with
  | un => exact w.elim
  | reg _ _ => exact w.elim
  | al i a => exact w.elim
  | ext d => exact ⟨d, F, Same.refl _, h.pop, h.temps (v, .ext d) List.mem_cons_self, w⟩
  | lst a ds =>
    obtain ⟨F1, sm, h1⟩ := h.freezeT
    exact ⟨.lst ds, F1, sm, h1.pop, h1.temps (v, .ext (.lst ds)) List.mem_cons_self, w⟩
theorem Holds.frozs {K : PySem.W.Frag} {e : Ent} {env : Env'} {T : Tmp} {σ : St} {H : Hp} : ∀ {vs : List V} {xs : List Sl} {q : List D → Prop} {F : Hp}, vs.length = xs.length → Holds K e env (vs.zip xs ++ T) F σ H → HD.frozs env xs q → ∃ ds F1, Same F F1 ∧ Holds K e env T F1 σ H ∧ Reps K F1 ds vs ∧ q ds
  | [], [], q, F, _, h, w => ⟨[], F, Same.refl _, h, rfl, w⟩
  | [], _ :: _, _, _, e, _, _ => by cases e
  | _ :: _, [], _, _, e, _, _ => by cases e
  | v :: vs, x :: xs, q, F, le, h, w => by
    obtain ⟨d, F1, sm, h1, r1, w1⟩ := h.froz1 w
    obtain ⟨ds, F2, sm2, h2, r2, w2⟩ := Holds.frozs (vs := vs) (xs := xs) (by simpa using le) h1 w1
    exact ⟨d :: ds, F2, sm.trans sm2, h2, ⟨v, vs, rfl, Rep.same sm2 r1, r2⟩, w2⟩
/-- the same, a slot's list too: the slot is frozen -/
def frzD (env : Env') : Sl → (D → Env' → Prop) → Prop
  | .ext d, q => q d env
  | .lst _ ds, q => q (.lst ds) env
  | .al i a, q => match env[i]? with
    | some (.lst b ds) => b = a ∧ q (.lst ds) (env.set i (.ext (.lst ds)))
    | some (.ext (.lst ds)) => False
    | _ => False
  | .un, _ => False
  | .reg _ _, _ => False
def frzDs (env : Env') : List Sl → (List D → Env' → Prop) → Prop
  | [], q => q [] env
  | s :: ss, q => frzD env s fun d env1 => frzDs env1 ss fun ds env2 => q (d :: ds) env2
theorem Holds.frz1 {K : PySem.W.Frag} {e : Ent} {env : Env'} {T : Tmp} {F : Hp} {σ : St} {H : Hp} {v : V} {sl : Sl} {q : D → Env' → Prop} (h : Holds K e env ((v, sl) :: T) F σ H) (w : frzD env sl q) : ∃ d F1 env', Same F F1 ∧ Holds K e env' T F1 σ H ∧ Rep K F1 d v ∧ q d env' := by
  cases sl with
  | un => exact w.elim
  | reg _ _ => exact w.elim
  | ext d => exact ⟨d, F, env, Same.refl _, h.pop, h.temps (v, .ext d) List.mem_cons_self, w⟩
  | lst a ds =>
    obtain ⟨F1, sm, h1⟩ := h.freezeT
    exact ⟨.lst ds, F1, env, sm, h1.pop, h1.temps (v, .ext (.lst ds)) List.mem_cons_self, w⟩
  | al i a =>
    have ev : v = .ref a := h.temps (v, .al i a) List.mem_cons_self
    have w' : (match env[i]? with | some (.lst b ds) => b = a ∧ q (.lst ds) (env.set i (.ext (.lst ds))) | some (.ext (.lst ds)) => False | _ => False) := w
    split at w'
    · rename_i b ds hb
      obtain ⟨rfl, w'⟩ := w'
      obtain ⟨F1, sm, h1⟩ := h.pop.freeze hb
      refine ⟨.lst ds, F1, _, sm, h1, ?_, w'⟩
      have hi : i < env.length := (List.getElem?_eq_some_iff.mp hb).1
      rcases h.slots i _ hb with z | ⟨u, hu, e1, _⟩
      · cases z
      · rcases h1.slots i (.ext (.lst ds)) (by rw [List.getElem?_set, if_pos rfl, if_pos hi]) with z | ⟨u', hu', ok⟩
        · cases z
        · rw [hu] at hu'
          cases hu'
          rw [ev, ← e1]
          exact ok
    · exact w'.elim
    · exact w'.elim
theorem Holds.frzs {K : PySem.W.Frag} {e : Ent} {T : Tmp} {σ : St} {H : Hp} : ∀ {vs : List V} {xs : List Sl} {q : List D → Env' → Prop} {F : Hp} {env : Env'}, vs.length = xs.length → Holds K e env (vs.zip xs ++ T) F σ H → HD.frzDs env xs q → ∃ ds F1 env', Same F F1 ∧ Holds K e env' T F1 σ H ∧ Reps K F1 ds vs ∧ q ds env'
  | [], [], q, F, env, _, h, w => ⟨[], F, env, Same.refl _, h, rfl, w⟩
  | [], _ :: _, _, _, _, e, _, _ => by cases e
  | _ :: _, [], _, _, _, e, _, _ => by cases e
  | v :: vs, x :: xs, q, F, env, le, h, w => by
    obtain ⟨d, F1, env1, sm, h1, r1, w1⟩ := h.frz1 w
    obtain ⟨ds, F2, env2, sm2, h2, r2, w2⟩ := Holds.frzs (vs := vs) (xs := xs) (by simpa using le) h1 w1
    exact ⟨d :: ds, F2, env2, sm.trans sm2, h2, ⟨v, vs, rfl, Rep.same sm2 r1, r2⟩, w2⟩
def dTup (t : DTA) : DT := fun Ex env Q => t Ex env fun xs env1 => xs.length ≤ sizeLine ∧ frzDs env1 xs fun ds env2 => Q (.ext (.tup ds)) env2
def dLst (t : DTA) : DT := fun Ex env Q => t Ex env fun xs env1 => xs.length ≤ sizeLine ∧ frzDs env1 xs fun ds env2 => ∀ a, Q (.lst a ds) env2
variable {es : List Expr} {tA : DTA}
theorem de_tup {x1} (h : DAs G N sc k es tA) : DE G N sc k (.Tuple es x1 pos) (dTup tA) := ⟨fun W => by
  obtain ⟨te, p1, i1⟩ := h.ex W
  refine ⟨tTupF te, fun X S => pe_tupF (p1 X S), fun e Ex hl env T F σ H Q R hh ht hR => ?_⟩
  refine i1 e Ex hl env T F σ H _ _ hh ht fun vs H1 F1 env1 xs le hh1 q1 => ⟨by rw [le]; exact q1.1, ?_⟩
  obtain ⟨ds, F2, env2, sm, hh2, r2, q2⟩ := hh1.frzs le q1.2
  exact (hh2.done hR).tup hh2.fh r2 q2⟩
theorem de_lst (h : DAs G N sc k es tA) : DE G N sc k (.List es pos) (dLst tA) := ⟨fun W => by
  obtain ⟨te, p1, i1⟩ := h.ex W
  refine ⟨tLst te, fun X S => pe_lst (p1 X S), fun e Ex hl env T F σ H Q R hh ht hR => ?_⟩
  refine i1 e Ex hl env T F σ H _ _ hh ht fun vs H1 F1 env1 xs le hh1 q1 => ⟨by rw [le]; exact q1.1, fun p n => ?_⟩
  obtain ⟨ds, F2, env2, sm, hh2, r2, q2⟩ := hh1.frzs le q1.2
  exact (hh2.done hR).lst hh2.fh n r2 (q2 p)⟩

/-! ### subscripts -/
def fIx : D → D → (Sl → Prop) → Prop
  | .lst ds, .int i, Q => ∃ d, atI ds i = some d ∧ Q (.ext d)
  | .tup ds, .int i, Q => ∃ d, atI ds i = some d ∧ Q (.ext d)
  | .tk ds, .int i, Q => ∃ d, atI ds i = some d ∧ Q (.ext d)
  | .fz ds, .int i, Q => ∃ d, atI ds i = some d ∧ Q (.ext d)
  | .str z, .int i, Q => z.length ≤ sizeLine ∧ ∃ c, atI z.cps.toList i = some c ∧ Q (.ext (.str ⟨#[c]⟩))
  | _, _, _ => False
theorem Reps.atI {K : PySem.W.Frag} {F : Hp} {ds : List D} {vs : List V} {i : Int} {d : D} (h : Reps K F ds vs) (e : L2.atI ds i = some d) : ∃ v, L2.atI vs i = some v ∧ Rep K F d v := by
  unfold L2.atI at e ⊢
  rw [← h.length]
  cases q : ixN ds.length i with
  | none =>
    rw [q] at e
    cases e
  | some j =>
    rw [q] at e
    exact h.get e
theorem pr_ix {K : PySem.W.Frag} : Pr2 K (rIx K) fIx := fun F H v u d d' Q R fh h1 h2 hf ha => by
  unfold fIx at hf
  split at hf
  · obtain ⟨a, vs, rfl, e1, r1⟩ := h1.lst fh
    obtain ⟨d, e, q⟩ := hf
    obtain ⟨w, e', r⟩ := r1.atI e
    exact .inl ⟨a, vs, _, w, rfl, h2.int, SqL.of e1, e', ha.ext fh r q⟩
  · obtain ⟨a, vs, rfl, e1, _, r1⟩ := h1.tup fh
    obtain ⟨d, e, q⟩ := hf
    obtain ⟨w, e', r⟩ := r1.atI e
    exact .inr (.inl ⟨a, vs, _, w, rfl, h2.int, e1, e', ha.ext fh r q⟩)
  · obtain ⟨a, vs, rfl, e1, _, r1⟩ := h1.tk fh
    obtain ⟨d, e, q⟩ := hf
    obtain ⟨w, e', r⟩ := r1.atI e
    exact .inr (.inl ⟨a, vs, _, w, rfl, h2.int, e1, e', ha.ext fh r q⟩)
  · obtain ⟨a, vs, rfl, e1, r1⟩ := h1.fz fh
    obtain ⟨d, e, q⟩ := hf
    obtain ⟨w, e', r⟩ := r1.atI e
    exact .inl ⟨a, vs, _, w, rfl, h2.int, e1, e', ha.ext fh r q⟩
  · obtain ⟨hz, c, e, q⟩ := hf
    exact .inr (.inr ⟨_, _, c, h1.str, h2.int, hz, e, ha.str fh q⟩)
  · exact hf.elim
theorem de_ix (ha : DE G N sc k a ta) (hb : DE G N sc k b tb) (hs : PlainIx b := by intro _ _; rfl) : DE G N sc k (.Subscript a b pos) (dOp fIx ta tb) := ⟨fun W => by
  obtain ⟨te, p1, i1⟩ := ha.ex W
  obtain ⟨tf, p2, i2⟩ := hb.ex W
  exact ⟨tOp (rIx G.K) te tf, fun X S => pe_ix (by rw [← S.K]; exact ix_seq) (p1 X S) (p2 X S) hs, im_op pr_ix i1 i2⟩⟩

/-! ### slices -/
abbrev DTO := DX → Env' → (Option Int → Env' → Prop) → Prop
def ImO (K : PySem.W.Frag) (W : WX) (to : TO) (t : DTO) : Prop :=
  ∀ (e : Ent) (Ex : DX), Link K e W Ex → ∀ (env : Env') (T : Tmp) (F : Hp) (σ : St) (H : Hp) (Q : Option Int → Env' → Prop) (R : Option Int → Hp → Prop),
    Holds K e env T F σ H → t Ex env Q → (∀ o H' F' env', Holds K e env' T F' σ H' → Q o env' → R o H') → to σ H R
structure DO' (G : GG) (N : List Str) (sc : SC) (k : Nat) (e : Option Expr) (t : DTO) : Prop where
  ex : ∀ W : WX, ∃ te, (∀ X, Sit G N sc W k X → PO X e te) ∧ ImO G.K W te t
def dNoPart : DTO := fun _ env Q => Q none env
def dPart (t : DT) : DTO := fun Ex env Q => t Ex env fun x env1 => match x with
  | .ext (.int i) => Q (some i) env1
  | _ => False
theorem do_none : DO' G N sc k none dNoPart := ⟨fun W => ⟨tNoPart, fun X S => po_none, fun e Ex hl env T F σ H Q R hh ht hR => hR none H F env hh ht⟩⟩
theorem do_some (h : DE G N sc k a ta) : DO' G N sc k (some a) (dPart ta) := ⟨fun W => by
  obtain ⟨te, p1, i1⟩ := h.ex W
  refine ⟨tPart te, fun X S => po_some (p1 X S), fun e Ex hl env T F σ H Q R hh ht hR => ?_⟩
  refine i1 e Ex hl env T F σ H _ _ hh ht fun v H1 F1 env1 x hh1 q1 => ?_
  cases x with
  | ext d =>
    cases d with
    | int i => exact ⟨i, hh1.temps (v, .ext (.int i)) List.mem_cons_self, hR (some i) H1 F1 env1 hh1.pop q1⟩
    | _ => exact q1.elim
  | _ => exact q1.elim⟩
def cutD (xs : List D) (lo hi : Option Int) : List D := (xs.drop (HT.sIx xs.length 0 lo)).take (HT.sIx xs.length xs.length hi - HT.sIx xs.length 0 lo)
theorem Reps.cut {K : PySem.W.Frag} {F : Hp} {ds : List D} {vs : List V} (h : Reps K F ds vs) (lo hi : Option Int) : Reps K F (cutD ds lo hi) (cutV vs lo hi) := by
  unfold cutD cutV
  rw [h.length]
  exact (h.drop _).take _
def fSl (d : D) (lo hi : Option Int) (Q : Sl → Prop) : Prop := match d with
  | .lst ds => ∀ a, Q (.lst a (cutD ds lo hi))
  | .fz ds => ∀ a, Q (.lst a (cutD ds lo hi))
  | .tup ds => Q (.ext (.tup (cutD ds lo hi)))
  | _ => False
def dSl (ta : DT) (tl th : DTO) : DT := fun Ex env Q => ta Ex env fun x env1 => tl Ex env1 fun lo env2 => th Ex env2 fun hi env3 => wd env3 x fun d => fSl d lo hi fun sl => Q sl env3
theorem cut_whole {α : Type} {xs : List α} {lo hi : Option Int} (h : HT.sIx xs.length 0 lo = 0 ∧ HT.sIx xs.length xs.length hi = xs.length) : (xs.drop (HT.sIx xs.length 0 lo)).take (HT.sIx xs.length xs.length hi - HT.sIx xs.length 0 lo) = xs := by
  rw [h.1, h.2, List.drop_zero, Nat.sub_zero, List.take_length]
theorem de_slice {lo hi : Option Expr} {tl th : DTO} {p2 : Pos} (h : DE G N sc k a ta) (hl : DO' G N sc k lo tl) (hh : DO' G N sc k hi th) : DE G N sc k (.Subscript a (.Slice lo hi none p2) pos) (dSl ta tl th) := ⟨fun W => by
  obtain ⟨te, p1, i1⟩ := h.ex W
  obtain ⟨tl', p2', i2⟩ := hl.ex W
  obtain ⟨th', p3, i3⟩ := hh.ex W
  refine ⟨tSl (fun x lo hi H Q => rSlL G.K x lo hi H Q ∨ rSlF G.K x lo hi H Q) te tl' th', fun X S => pe_slice (by rw [← S.K]; exact sl_list.or sl_tupF) (p1 X S) (p2' X S) (p3 X S), fun e Ex hl env T F σ H Q R hh ht hR => ?_⟩
  refine i1 e Ex hl env T F σ H _ _ hh ht fun v H1 F1 env1 x hh1 q1 => ?_
  refine i2 e Ex hl env1 _ F1 σ H1 _ _ hh1 q1 fun lo' H2 F2 env2 hh2 q2 => ?_
  refine i3 e Ex hl env2 _ F2 σ H2 _ _ hh2 q2 fun hi' H3 F3 env3 hh3 q3 => ?_
  obtain ⟨d, rd, q4⟩ := hh3.wd (v := v) (sl := x) List.mem_cons_self q3
  have dn := hh3.pop.done hR
  cases d with
  | lst ds =>
    obtain ⟨b, vs, rfl, e1, r1⟩ := rd.lst hh3.fh
    exact .inl ⟨b, vs, rfl, SqL.of e1, fun p n => dn.lst hh3.fh n (r1.cut lo' hi') (q4 p)⟩
  | fz ds =>
    obtain ⟨b, vs, rfl, e1, r1⟩ := rd.fz hh3.fh
    exact .inl ⟨b, vs, rfl, e1, fun p n => dn.lst hh3.fh n (r1.cut lo' hi') (q4 p)⟩
  | tup ds =>
    obtain ⟨b, vs, rfl, e1, e2, r1⟩ := rd.tup hh3.fh
    refine .inr ⟨b, vs, rfl, e1, fun z => ?_, fun _ => dn.tup hh3.fh (r1.cut lo' hi') q4⟩
    refine dn.ext (d := .tup (cutD ds lo' hi')) hh3.fh ⟨b, vs, rfl, e2, ?_⟩ q4
    have q := r1.cut lo' hi'
    unfold cutV at q
    rw [cut_whole z] at q
    exact q
  | _ => exact q4.elim⟩
end
end HD

/-! HD4: calls of defs by their specifications over data. -/
namespace HD
open PySem L2

abbrev DSpec := List Sl → (Sl → List Sl → Prop) → (Str → List Sl → Prop) → Prop
abbrev entOf (F H : Hp) (args : Env') : Ent := ⟨F, H, ownedE args⟩
/-- a promise out of a specification over data -/
def toSp (K : PySem.W.Frag) (n : Nat) (spec : DSpec) : Sp := fun vs H Q E => ∃ (F : Hp) (args : Env') (Qd : Sl → List Sl → Prop) (Xd : Str → List Sl → Prop),
  vs.length = n ∧ Holds K (entOf F H args) args [] F (vs.map some) H ∧ spec args Qd Xd ∧
  (∀ v H' F' r fin, Holds K (entOf F H args) fin [(v, r)] F' (vs.map some) H' → Qd r fin → Q v H') ∧
  (∀ c H' F' fin, Holds K (entOf F H args) fin [] F' (vs.map some) H' → Xd c fin → E (clsV K c) none H')

/-- the arguments' objects behind a body -/
def fin1 : Sl → Option Sl → Sl
  | .ext d, _ => .ext d
  | .lst a _, some (.lst b ds) => if a = b then .lst a ds else .un
  | _, _ => .un
def finals (args env : Env') : Env' := (List.range args.length).map fun i => fin1 (args.getD i .un) env[i]?
theorem finals_get {args env : Env'} {i : Nat} {sl : Sl} (h : (finals args env)[i]? = some sl) : ∃ s, args[i]? = some s ∧ sl = fin1 s env[i]? := by
  unfold finals at h
  rw [List.getElem?_map] at h
  by_cases hi : i < args.length
  · rw [List.getElem?_range hi] at h
    have e := Option.some.inj h
    refine ⟨args[i], List.getElem?_eq_getElem hi, ?_⟩
    rw [← e]
    show fin1 (args.getD i .un) _ = _
    rw [List.getD_eq_getElem?_getD, List.getElem?_eq_getElem hi]
    rfl
  · rw [List.getElem?_eq_none (by rw [List.length_range]; omega)] at h
    cases h
theorem fin1_owned (s : Sl) (o : Option Sl) : (fin1 s o).owned.Sublist ((o.getD .un).owned) := by
  cases s with
  | un => exact List.nil_sublist _
  | ext d => exact List.nil_sublist _
  | al i a => exact List.nil_sublist _
  | reg _ _ => exact List.nil_sublist _
  | lst a ds =>
    cases o with
    | none => exact List.nil_sublist _
    | some s' =>
      cases s' with
      | lst b es =>
        show (if a = b then Sl.lst a es else .un).owned.Sublist [b]
        split
        · rename_i e
          subst e
          exact List.Sublist.refl _
        · exact List.nil_sublist _
      | _ => exact List.nil_sublist _
theorem finals_owned (args env : Env') : (ownedE (finals args env)).Sublist (ownedE env) := by
  have key : ∀ (n : Nat), (ownedE ((List.range n).map fun i => fin1 (args.getD i .un) env[i]?)).Sublist (ownedE (env.take n)) := by
    intro n
    induction n with
    | zero => exact List.nil_sublist _
    | succ n ih =>
      rw [List.range_succ, List.map_append]
      unfold ownedE at ih ⊢
      rw [List.flatMap_append, List.take_add_one, List.flatMap_append]
      refine ih.append ?_
      rw [List.map_cons, List.map_nil, List.flatMap_cons, List.flatMap_nil, List.append_nil]
      refine (fin1_owned _ _).trans ?_
      cases env[n]? with
      | none => exact List.Sublist.refl _
      | some s =>
        show s.owned.Sublist ([s].flatMap Sl.owned)
        rw [List.flatMap_cons, List.flatMap_nil, List.append_nil]
        exact List.Sublist.refl _
  refine (key args.length).trans ?_
  unfold ownedE
  have z := congrArg (List.flatMap Sl.owned) (List.take_append_drop args.length env)
  rw [List.flatMap_append] at z
  rw [← z]
  exact List.sublist_append_left _ _
theorem Holds.finals {K : PySem.W.Frag} {F H F' H' : Hp} {args env : Env'} {T : Tmp} {σ' : St} {vs : List V} (h0 : Holds K (entOf F H args) args [] F (vs.map some) H) (h : Holds K (entOf F H args) env T F' σ' H') : Holds K (entOf F H args) (HD.finals args env) T F' (vs.map some) H' := by
  have sub : (ownedE (HD.finals args env) ++ ownedT T).Sublist (ownedE env ++ ownedT T) := (finals_owned args env).append (List.Sublist.refl _)
  refine ⟨h.fh, ?_, fun i sl q => ?_, h.temps, h.nd.sublist sub, h.s1, h.s2, fun a ha => h.s3 a (sub.subset ha)⟩
  · rw [← h0.len]
    unfold HD.finals
    rw [List.length_map, List.length_range]
  · obtain ⟨s, hs, rfl⟩ := finals_get q
    rcases h0.slots i s hs with z | ⟨v, hv, ok⟩
    · subst z
      exact .inl rfl
    · cases s with
      | un => exact .inl rfl
      | al j a => exact .inl rfl
      | reg _ _ => exact .inl rfl
      | ext d => exact .inr ⟨v, hv, Rep.same h.s1 ok⟩
      | lst a ds =>
        obtain ⟨rfl, _⟩ := ok
        cases e : env[i]? with
        | none => exact .inl rfl
        | some s' =>
          cases s' with
          | lst b es =>
            show (if a = b then Sl.lst a es else .un) = .un ∨ ∃ v, _ ∧ SlOk K F' H' v (if a = b then Sl.lst a es else .un)
            split
            · rename_i ab
              subst ab
              rcases h.slots i _ e with z | ⟨w, _, ok'⟩
              · cases z
              · obtain ⟨rfl, r⟩ := ok'
                exact .inr ⟨_, hv, rfl, r⟩
            · exact .inl rfl
          | _ => exact .inl rfl

/-! ### data without lists -/
mutual
def D.imm : D → Bool
  | .lst _ => false
  | .exc _ => false
  | .fz _ => false
  | .tup ds => D.imms ds
  | .tk ds => D.imms ds
  | _ => true
def D.imms : List D → Bool
  | [] => true
  | d :: ds => D.imm d && D.imms ds
end
mutual
theorem Rep.ofT {K : PySem.W.Frag} {F F' : Hp} (t : ∀ a xs, SqT K F a xs → SqT K F' a xs) (t2 : ∀ a xs, TupD K F a xs → TupD K F' a xs) : ∀ {d : D} {v : V}, d.imm = true → Rep K F d v → Rep K F' d v
  | .non, _, _, h => h
  | .bl _, _, _, h => h
  | .int _, _, _, h => h
  | .str _, _, _, h => h
  | .val _, _, _, h => h
  | .lst _, _, n, _ => nomatch n
  | .fz _, _, n, _ => nomatch n
  | .exc _, _, n, _ => nomatch n
  | .glo _, _, _, h => h
  | .tup _, _, n, h => by
    obtain ⟨a, xs, rfl, hs, hr⟩ := h
    exact ⟨a, xs, rfl, t2 _ _ hs, Reps.ofT t t2 n hr⟩
  | .tk _, _, n, h => by
    obtain ⟨a, xs, rfl, hs, hr⟩ := h
    exact ⟨a, xs, rfl, t _ _ hs, Reps.ofT t t2 n hr⟩
theorem Reps.ofT {K : PySem.W.Frag} {F F' : Hp} (t : ∀ a xs, SqT K F a xs → SqT K F' a xs) (t2 : ∀ a xs, TupD K F a xs → TupD K F' a xs) : ∀ {ds : List D} {vs : List V}, D.imms ds = true → Reps K F ds vs → Reps K F' ds vs
  | [], _, _, h => h
  | d :: ds, _, n, h => by
    obtain ⟨v, r, rfl, h1, h2⟩ := h
    have n' : (D.imm d && D.imms ds) = true := n
    rw [Bool.and_eq_true] at n'
    exact ⟨v, r, rfl, Rep.ofT t t2 n'.1 h1, Reps.ofT t t2 n'.2 h2⟩
end
def Sl.imm : Sl → Bool
  | .ext d => d.imm
  | .lst _ ds => D.imms ds
  | _ => false

/-! ### behind a call -/
section
variable {K : PySem.W.Frag} {e : Ent} {env : Env'} {T : Tmp} {F : Hp} {σ : St} {H : Hp}
/-- what a callee leaves, in the caller's eyes: A what it was given to change -/
structure Left (A : List Addr) (F H F' H' : Hp) : Prop where
  ff : Same F F'
  fh : Same F' H'
  out : ∀ b o, H b = some o → b ∉ A → H' b = some o ∧ (F b = none → F' b = none)
theorem Left.free {A : List Addr} {F' H' : Hp} (l : Left A F H F' H') : ∀ b, H' b = none → b ∉ A → H b = none := fun b n hA => by
  cases q : H b with
  | none => rfl
  | some o =>
    rw [(l.out b o q hA).1] at n
    cases n
theorem SlOk.left {A : List Addr} {F' H' : Hp} {v : V} {sl : Sl} (l : Left A F H F' H') (n : ∀ a ∈ sl.owned, a ∉ A) (h : SlOk K F H v sl) : SlOk K F' H' v sl := by
  cases sl with
  | un => trivial
  | ext d => exact Rep.same l.ff h
  | al i b => exact h
  | lst b ds =>
    obtain ⟨rfl, q, us, hv, hr⟩ := h
    obtain ⟨q1, q2⟩ := l.out b _ hv (n b (List.mem_singleton.mpr rfl))
    exact ⟨rfl, q2 q, us, q1, hr.same l.ff⟩
  | reg b cs =>
    obtain ⟨rfl, nd, hc⟩ := h
    refine ⟨rfl, nd, fun p hp => ?_⟩
    obtain ⟨q, o', ho, ok⟩ := hc p hp
    obtain ⟨q1, q2⟩ := l.out p.1 _ ho (n p.1 (List.mem_map.mpr ⟨p, hp, rfl⟩))
    exact ⟨q2 q, o', q1, ok.same l.ff⟩
/-- nothing was lent to be changed -/
theorem Holds.left0 {F' H' : Hp} {v : V} {r : Sl} (h : Holds K e env T F σ H) (l : Left [] F H F' H') (ok : SlOk K F' H' v r) (own : ∀ a ∈ r.owned, H a = none) : Holds K e env ((v, r) :: T) F' σ H' := by
  have h1 : Holds K e env T F' σ H' := by
    refine ⟨l.fh, h.len, fun i sl q => ?_, fun p hp => (h.temps p hp).left l (fun _ _ z => nomatch z), h.nd, h.s1.trans l.ff, fun a o q n => ?_, h.s3⟩
    · rcases h.slots i sl q with z | ⟨w, hw, ok⟩
      · exact .inl z
      · exact .inr ⟨w, hw, ok.left l fun _ _ z => nomatch z⟩
    · obtain ⟨q1, q2⟩ := h.s2 a o q n
      obtain ⟨r1, r2⟩ := l.out a o q1 (fun z => nomatch z)
      exact ⟨r1, fun z => r2 (q2 z)⟩
  have old := h.ownedH
  have ndo : r.owned.Nodup := ok.ndo
  have dis : ∀ a ∈ r.owned, a ∉ ownedE env ++ ownedT T := fun a ha hb => by
    obtain ⟨_, vs, q⟩ := old a hb
    rw [own a ha] at q
    cases q
  refine ⟨h1.fh, h1.len, h1.slots, fun p hp => ?_, ?_, h1.s1, h1.s2, fun a ha => ?_⟩
  · rcases List.mem_cons.mp hp with rfl | hp
    · exact ok
    · exact h1.temps p hp
  · show (ownedE env ++ (r.owned ++ ownedT T)).Nodup
    have z := h.nd
    rw [List.nodup_append] at z ⊢
    obtain ⟨z1, z2, z3⟩ := z
    refine ⟨z1, ?_, fun a ha b hb => ?_⟩
    · rw [List.nodup_append]
      exact ⟨ndo, z2, fun a ha b hb e => dis a ha (by rw [e]; exact List.mem_append_right _ hb)⟩
    · rcases List.mem_append.mp hb with hb | hb
      · exact fun e => dis b hb (by rw [← e]; exact List.mem_append_left _ ha)
      · exact z3 a ha b hb
  · have ha' : a ∈ ownedE env ++ (r.owned ++ ownedT T) := ha
    rcases List.mem_append.mp ha' with hb | hb
    · exact h.s3 a (List.mem_append_left _ hb)
    · rcases List.mem_append.mp hb with hb | hb
      · have hn := own a hb
        cases q : e.H0 a with
        | none => exact .inr rfl
        | some o =>
          by_cases hA : a ∈ e.A0
          · exact .inl hA
          · rw [(h.s2 a o q hA).1] at hn
            cases hn
      · exact h.s3 a (List.mem_append_right _ hb)
/-- slot i was lent to be changed -/
theorem Holds.left1 {F' H' : Hp} {v : V} {r s' : Sl} {i : Nat} {a : Addr} {ds : List D} (h : Holds K e env T F σ H) (hi : env[i]? = some (.lst a ds)) (l : Left [a] F H F' H') (ok : SlOk K F' H' v r) (ok' : SlOk K F' H' (.ref a) s')
    (own : ∀ b ∈ s'.owned ++ r.owned, b = a ∨ H b = none) (nd : (s'.owned ++ r.owned).Nodup) (hp : s'.plain) : Holds K e (env.set i s') ((v, r) :: T) F' σ H' := by
  obtain ⟨hv0, hF0⟩ : (∃ w, σ[i]? = some (some w) ∧ w = .ref a) ∧ F a = none := by
    rcases h.slots i _ hi with z | ⟨w, hw, e1, e2, _⟩
    · cases z
    · exact ⟨⟨w, hw, e1⟩, e2⟩
  obtain ⟨w, hw, rfl⟩ := hv0
  -- the slot's object as a temp, then dropped: the others
  have h0 := (h.take hi hw).pop
  have hx := h.take hi hw
  have na : ∀ b ∈ ownedE (env.set i .un) ++ ownedT T, b ≠ a := fun b hb z => by
    subst z
    have nd := hx.nd
    have perm : (ownedE (env.set i .un) ++ (([b] : List Addr) ++ ownedT T)).Perm ([b] ++ (ownedE (env.set i .un) ++ ownedT T)) := by
      rw [← List.append_assoc, ← List.append_assoc]
      exact List.Perm.append_right _ List.perm_append_comm
    have nd' : ([b] ++ (ownedE (env.set i .un) ++ ownedT T)).Nodup := perm.nodup nd
    exact (List.nodup_append.mp nd').2.2 b (List.mem_singleton.mpr rfl) b hb rfl
  have h1 : Holds K e (env.set i .un) T F' σ H' := by
    refine ⟨l.fh, h0.len, fun j sl q => ?_, fun p hp => (h0.temps p hp).left l (fun b hb z => ?_), h0.nd, h0.s1.trans l.ff, fun b o q n => ?_, h0.s3⟩
    · rcases h0.slots j sl q with z | ⟨w, hw, ok⟩
      · exact .inl z
      · refine .inr ⟨w, hw, ok.left l fun b hb z => ?_⟩
        exact na b (List.mem_append_left _ (mem_ownedE q hb)) (List.mem_singleton.mp z)
    · exact na b (List.mem_append_right _ (List.mem_flatMap.mpr ⟨p, hp, hb⟩)) (List.mem_singleton.mp z)
    · obtain ⟨q1, q2⟩ := h0.s2 b o q n
      have nb : b ∉ [a] := fun z => by
        rw [List.mem_singleton.mp z] at q n
        have mm : a ∈ ownedE env ++ ownedT T := List.mem_append_left _ (mem_ownedE hi (List.mem_singleton.mpr rfl))
        rcases h.s3 a mm with y | y
        · exact n y
        · rw [q] at y
          cases y
      obtain ⟨r1, r2⟩ := l.out b o q1 nb
      exact ⟨r1, fun z => r2 (q2 z)⟩
  have old := h0.ownedH
  have dis : ∀ b ∈ s'.owned ++ r.owned, b ∉ ownedE (env.set i .un) ++ ownedT T := fun b hb hc => by
    rcases own b hb with z | z
    · exact na b hc z
    · obtain ⟨_, vs, q⟩ := old b hc
      rw [z] at q
      cases q
  have fin3 : ∀ b ∈ s'.owned ++ r.owned, b ∈ e.A0 ∨ e.H0 b = none := fun b hb => by
    rcases own b hb with z | z
    · subst z
      exact h.s3 b (List.mem_append_left _ (mem_ownedE hi (List.mem_singleton.mpr rfl)))
    · cases q : e.H0 b with
      | none => exact .inr rfl
      | some o =>
        by_cases hA : b ∈ e.A0
        · exact .inl hA
        · rw [(h.s2 b o q hA).1] at z
          cases z
  -- both come in as temps, then the slot is set
  have h2 : Holds K e (env.set i .un) ((.ref a, s') :: (v, r) :: T) F' σ H' := by
    refine ⟨h1.fh, h1.len, h1.slots, fun p hp => ?_, ?_, h1.s1, h1.s2, fun b hb => ?_⟩
    · rcases List.mem_cons.mp hp with rfl | hp
      · exact ok'
      · rcases List.mem_cons.mp hp with rfl | hp
        · exact ok
        · exact h1.temps p hp
    · show (ownedE (env.set i .un) ++ (s'.owned ++ (r.owned ++ ownedT T))).Nodup
      have z := h0.nd
      rw [← List.append_assoc s'.owned]
      rw [List.nodup_append] at z ⊢
      obtain ⟨z1, z2, z3⟩ := z
      refine ⟨z1, ?_, fun b hb c hc => ?_⟩
      · rw [List.nodup_append]
        exact ⟨nd, z2, fun b hb c hc e => dis b hb (by rw [e]; exact List.mem_append_right _ hc)⟩
      · rcases List.mem_append.mp hc with hc | hc
        · exact fun e => dis c hc (by rw [← e]; exact List.mem_append_left _ hb)
        · exact z3 b hb c hc
    · have hb' : b ∈ ownedE (env.set i .un) ++ (s'.owned ++ (r.owned ++ ownedT T)) := hb
      rw [← List.append_assoc s'.owned] at hb'
      rcases List.mem_append.mp hb' with hc | hc
      · exact h0.s3 b (List.mem_append_left _ hc)
      · rcases List.mem_append.mp hc with hc | hc
        · exact fin3 b hc
        · exact h0.s3 b (List.mem_append_right _ hc)
  have h3 := h2.assign i hp
  rw [List.set_set] at h3
  have z : σ.set i (some (.ref a)) = σ := by
    obtain ⟨hl, q⟩ := List.getElem?_eq_some_iff.mp hw
    rw [← q]
    exact List.set_getElem_self hl
  rw [z] at h3
  exact h3
end

/-! ### a call with read arguments -/
def anyAl : List Sl → Bool
  | [] => false
  | .al _ _ :: _ => true
  | _ :: r => anyAl r
section
variable {K : PySem.W.Frag} {e : Ent} {env : Env'} {T : Tmp} {σ : St} {H : Hp}
/-- arguments frozen for a callee: F1 the caller's frozen heap, Fc the callee's (what slots own is lent) -/
theorem Holds.lend : ∀ {vs : List V} {xs : List Sl} {q : List D → Prop} {F : Hp}, vs.length = xs.length → Holds K e env (vs.zip xs ++ T) F σ H → HD.wds env xs q →
    ∃ ds F1 Fc, q ds ∧ Holds K e env T F1 σ H ∧ Same F F1 ∧ Same F1 Fc ∧ Reps K Fc ds vs ∧ Same Fc H ∧ (∀ b, Fc b ≠ none → F1 b ≠ none ∨ b ∈ ownedE env) ∧ (anyAl xs = false → Fc = F1)
  | [], [], q, F, _, h, w => ⟨[], F, F, w, h, Same.refl _, Same.refl _, rfl, h.fh, fun _ z => .inl z, fun _ => rfl⟩
  | [], _ :: _, _, _, le, _, _ => by cases le
  | _ :: _, [], _, _, le, _, _ => by cases le
  | v :: vs, x :: xs, q, F, le, h, w => by
    have le' : vs.length = xs.length := by simpa using le
    cases x with
    | un => exact w.elim
    | reg _ _ => exact w.elim
    | ext d =>
      have rd : Rep K F d v := h.temps (v, .ext d) List.mem_cons_self
      have h' : Holds K e env (vs.zip xs ++ T) F σ H := h.pop
      obtain ⟨ds, F1, Fc, w1, h1, s1, s2, r, fh, nw, na⟩ := Holds.lend (q := fun ds => q (d :: ds)) le' h' w
      exact ⟨d :: ds, F1, Fc, w1, h1, s1, s2, ⟨v, vs, rfl, Rep.same (s1.trans s2) rd, r⟩, fh, nw, na⟩
    | lst a es =>
      obtain ⟨F0, s0, h0⟩ := h.freezeT
      have rd : Rep K F0 (.lst es) v := h0.temps (v, .ext (.lst es)) List.mem_cons_self
      have h' : Holds K e env (vs.zip xs ++ T) F0 σ H := h0.pop
      obtain ⟨ds, F1, Fc, w1, h1, s1, s2, r, fh, nw, na⟩ := Holds.lend (q := fun ds => q (.lst es :: ds)) le' h' w
      exact ⟨.lst es :: ds, F1, Fc, w1, h1, s0.trans s1, s2, ⟨v, vs, rfl, Rep.same (s1.trans s2) rd, r⟩, fh, nw, na⟩
    | al i a =>
      have ev : v = .ref a := h.temps (v, .al i a) List.mem_cons_self
      have h' : Holds K e env (vs.zip xs ++ T) F σ H := h.pop
      have w' : (match env[i]? with | some (.lst b ds) => b = a ∧ HD.wds env xs (fun es => q (.lst ds :: es)) | _ => False) := w
      split at w'
      · rename_i b es hb
        obtain ⟨rfl, w'⟩ := w'
        obtain ⟨ds, F1, Fc, w1, h1, s1, s2, r, fh, nw, na⟩ := Holds.lend (q := fun ds => q (.lst es :: ds)) le' h' w'
        rcases h1.slots i _ hb with z | ⟨u, hu, e1, e2, us, hv, hr⟩
        · cases z
        · have s3 : Same Fc (upd Fc b (.lst us)) := fun c o qc => by
            by_cases nc : c = b
            · rw [nc] at qc ⊢
              have := fh _ _ qc
              rw [hv] at this
              rw [upd_same]
              exact this
            · rw [upd_ne nc]
              exact qc
          refine ⟨.lst es :: ds, F1, upd Fc b (.lst us), w1, h1, s1, s2.trans s3, ⟨v, vs, rfl, ⟨b, us, ev, upd_same, hr.same (s2.trans s3)⟩, r.same s3⟩, fun c o qc => ?_, fun c nc => ?_, fun z => nomatch z⟩
          · by_cases ec : c = b
            · rw [ec, upd_same] at qc
              rw [ec, hv]
              exact qc
            · rw [upd_ne ec] at qc
              exact fh _ _ qc
          · by_cases ec : c = b
            · rw [ec]
              exact .inr (mem_ownedE hb (List.mem_singleton.mpr rfl))
            · rw [upd_ne ec] at nc
              exact nw c nc
      · exact w'.elim
/-- what was lent comes back -/
theorem Holds.thaw {F1 Fc F' H' : Hp} (h : Holds K e env T F1 σ H) (s2 : Same F1 Fc) (nw : ∀ b, Fc b ≠ none → F1 b ≠ none ∨ b ∈ ownedE env) (l : Left [] Fc H F' H') :
    ∃ F2, Left [] F1 H F2 H' ∧ (∀ (d : D) (v : V), d.imm = true → Rep K F' d v → Rep K F2 d v) ∧ (∀ (ds : List D) (vs : List V), D.imms ds = true → Reps K F' ds vs → Reps K F2 ds vs) ∧ ∀ b, F' b = none → F2 b = none := by
  have old := h.ownedL
  have sT : ∀ a xs, SqT K F' a xs → SqT K (fun b => if b ∈ ownedE env then none else F' b) a xs := fun a xs hs => by
    have out : ∀ o, F' a = some o → a ∈ ownedE env → Loose o := fun o q m => by
      obtain ⟨_, us, hu, lo⟩ := old a (List.mem_append_left _ m)
      have z := (l.out a _ hu (fun z => nomatch z)).1
      rw [l.fh _ _ q] at z
      rw [Option.some.inj z]
      exact lo
    rcases hs with (hs | ⟨o, hs⟩) | hs
    · refine .inl (.inl ?_)
      have n : a ∉ ownedE env := fun m => by
        rcases out _ hs m with ⟨us, z⟩ | ⟨us, z⟩ <;> cases z
      show (if a ∈ ownedE env then none else F' a) = _
      rw [if_neg n]
      exact hs
    · refine .inl (.inr ⟨o, ?_⟩)
      have n : a ∉ ownedE env := fun m => by
        rcases out _ hs m with ⟨us, z⟩ | ⟨us, z⟩ <;> cases z
      show (if a ∈ ownedE env then none else F' a) = _
      rw [if_neg n]
      exact hs
    · exact .inr hs
  have sD : ∀ a xs, TupD K F' a xs → TupD K (fun b => if b ∈ ownedE env then none else F' b) a xs := fun a xs hs => by
    rcases hs with ⟨o, hs, d⟩ | hs
    · refine .inl ⟨o, ?_, d⟩
      have n : a ∉ ownedE env := fun m => by
        obtain ⟨_, us, hu, lo⟩ := old a (List.mem_append_left _ m)
        have z := (l.out a _ hu (fun z => nomatch z)).1
        rw [l.fh _ _ hs] at z
        cases z
        rcases lo with ⟨us, z⟩ | ⟨us, z⟩ <;> cases z
      show (if a ∈ ownedE env then none else F' a) = _
      rw [if_neg n]
      exact hs
    · exact .inr hs
  refine ⟨fun b => if b ∈ ownedE env then none else F' b, ⟨fun b o q => ?_, fun b o q => ?_, fun b o q n => ?_⟩, fun d v n r => Rep.ofT sT sD n r, fun ds vs n r => Reps.ofT sT sD n r, fun b q => ?_⟩
  · have n : b ∉ ownedE env := fun m => by
      rw [(old b (List.mem_append_left _ m)).1] at q
      cases q
    show (if b ∈ ownedE env then none else F' b) = _
    rw [if_neg n]
    exact l.ff _ _ (s2 _ _ q)
  · have q' : (if b ∈ ownedE env then none else F' b) = some o := q
    split at q'
    · cases q'
    · exact l.fh _ _ q'
  · obtain ⟨r1, r2⟩ := l.out b o q n
    refine ⟨r1, fun z => ?_⟩
    show (if b ∈ ownedE env then none else F' b) = none
    by_cases m : b ∈ ownedE env
    · rw [if_pos m]
    · rw [if_neg m]
      refine r2 ?_
      cases y : Fc b with
      | none => rfl
      | some o' =>
        rcases nw b (by rw [y]; simp) with t | t
        · exact absurd z t
        · exact absurd t m
  · show (if b ∈ ownedE env then none else F' b) = none
    split
    · rfl
    · exact q
theorem ownedE_ext (ds : List D) : ownedE (ds.map Sl.ext) = [] := by
  unfold ownedE
  rw [List.flatMap_eq_nil_iff]
  intro x hx
  obtain ⟨d, _, rfl⟩ := List.mem_map.mp hx
  rfl
/-- read arguments, as a callee gets them -/
theorem argsE {F : Hp} {ds : List D} {vs : List V} (fh : Same F H) (r : Reps K F ds vs) : Holds K (entOf F H (ds.map .ext)) (ds.map .ext) [] F (vs.map some) H := by
  have own := ownedE_ext ds
  refine ⟨fh, by rw [List.length_map, List.length_map, r.length], fun i sl q => ?_, (fun p hp => nomatch hp), by rw [own]; exact List.nodup_nil, Same.refl _, fun a o q _ => ⟨q, fun z => z⟩, fun a ha => ?_⟩
  · rw [List.getElem?_map] at q
    cases z : ds[i]? with
    | none =>
      rw [z] at q
      cases q
    | some d =>
      rw [z] at q
      have e := Option.some.inj q
      subst e
      obtain ⟨v, hv, rd⟩ := r.get z
      exact .inr ⟨v, by rw [List.getElem?_map, hv]; rfl, rd⟩
  · rw [own] at ha
    cases ha
end

def dCall (spec : DSpec) (ta : DTA) : DT := fun Ex env Q => ta Ex env fun xs env1 => wds env1 xs fun ds =>
  spec (ds.map .ext) (fun r _ => (anyAl xs = false ∨ r.imm = true) ∧ r.plain ∧ Q r env1) (fun c _ => Ex c env1)
theorem im_call {K : PySem.W.Frag} {W : WX} {spec : DSpec} {n : Nat} {ta : TA} {t : DTA} (h : ImA K W ta t) (hn : ∀ ds Q X, spec ds Q X → ds.length = n) : Im K W (tCallS (toSp K n spec) (WE W) ta) (dCall spec t) := fun e Ex hl env T F σ H Q R hh ht hR => by
  refine h e Ex hl env T F σ H _ _ hh ht fun vs H1 F1 env1 xs le hh1 q1 => ?_
  obtain ⟨ds, F2, Fc, q2, hh2, sm1, sm2, rr, fh, nw, na⟩ := hh1.lend le q1
  have back : ∀ (H' F' : Hp), Same Fc F' → Same F' H' → (∀ a o, H1 a = some o → a ∉ ownedE (ds.map Sl.ext) → H' a = some o ∧ (Fc a = none → F' a = none)) → Left [] Fc H1 F' H' := fun H' F' a b c => ⟨a, b, fun x o q _ => c x o q (by rw [ownedE_ext]; exact fun z => nomatch z)⟩
  refine ⟨Fc, ds.map .ext, _, _, ?_, argsE fh rr, q2, fun v H' F' r fin hf hq => ?_, fun c H' F' fin hf hq => ?_⟩
  · rw [← hn _ _ _ q2, List.length_map, rr.length]
  · obtain ⟨qi, qp, q3⟩ := hq
    have l := back H' F' hf.s1 hf.fh hf.s2
    have own : ∀ a ∈ r.owned, H1 a = none := fun a ha => by
      have m : a ∈ ownedE fin ++ ownedT [(v, r)] := List.mem_append_right _ (by
        show a ∈ r.owned ++ []
        rw [List.append_nil]
        exact ha)
      rcases hf.s3 a m with z | z
      · have z' : a ∈ ownedE (ds.map Sl.ext) := z
        rw [ownedE_ext] at z'
        cases z'
      · exact z
    have ok := hf.temps (v, r) List.mem_cons_self
    by_cases al : anyAl xs = false
    · have ec := na al
      subst ec
      exact hR v H' F' env1 r (hh2.left0 l ok own) q3
    · have im : r.imm = true := by
        rcases qi with z | z
        · exact absurd z al
        · exact z
      obtain ⟨F3, l3, t1, t2, t3⟩ := hh2.thaw sm2 nw l
      refine hR v H' F3 env1 r (hh2.left0 l3 ?_ own) q3
      cases r with
      | un => exact nomatch im
      | al i a => exact nomatch im
      | reg _ _ => exact nomatch im
      | ext d => exact t1 d v im ok
      | lst a es =>
        obtain ⟨e1, e2, us, hu, hr⟩ := ok
        exact ⟨e1, t3 _ e2, us, hu, t2 es us im hr⟩
  · have l := back H' F' hf.s1 hf.fh hf.s2
    obtain ⟨F3, l3, _, _, _⟩ := hh2.thaw sm2 nw l
    have h4 := hh2.left0 (v := .non) (r := .ext .non) l3 rfl (fun a z => nomatch z)
    exact hl c env1 F3 σ H' h4.bare hq

/-! ### a call that may change the list in slot i, its first argument -/
def dCallJ (spec : DSpec) (i : Nat) (ta : DTA) : DT := fun Ex env Q => match env[i]? with
  | some (.lst a _) => ta Ex env fun xs env1 => match env1[i]? with
    | some (.lst b ds) => b = a ∧ frozs env1 xs fun es => spec (.lst a ds :: es.map .ext)
        (fun r fin => match fin with | s' :: _ => s'.plain ∧ r.plain ∧ Q r (env1.set i s') | [] => False) (fun c fin => match fin with | s' :: _ => s'.plain ∧ Ex c (env1.set i s') | [] => False)
    | _ => False
  | _ => False
theorem im_callJ {K : PySem.W.Frag} {W : WX} {spec : DSpec} {n i : Nat} {ta : TA} {t : DTA} (h : ImA K W ta t) (hn : ∀ ds Q X, spec ds Q X → ds.length = n) : Im K W (tCallS (toSp K n spec) (WE W) (tCons (tVar i) ta)) (dCallJ spec i t) := fun e Ex hl env T F σ H Q R hh ht hR => by
  unfold dCallJ at ht
  split at ht
  · rename_i a ds0 hi0
    rcases hh.slots i _ hi0 with z | ⟨v0, hv0, e0, _⟩
    · cases z
    · subst e0
      refine ⟨_, hv0, ?_⟩
      refine h e Ex hl env T F σ H _ _ hh ht fun vs H1 F1 env1 xs le hh1 q1 => ?_
      split at q1
      · rename_i b ds hi
        obtain ⟨rfl, q1⟩ := q1
        obtain ⟨es, F2, sm, hh2, rr, q2⟩ := hh1.frozs le q1
        have own0 : ownedE (Sl.lst b ds :: es.map Sl.ext) = [b] := by
          show [b] ++ ownedE (es.map Sl.ext) = [b]
          rw [ownedE_ext, List.append_nil]
        have hs := hh2.slots i _ hi
        have okJ : SlOk K F2 H1 (.ref b) (.lst b ds) := by
          rcases hs with z | ⟨w, _, e1, r⟩
          · cases z
          · exact ⟨rfl, r⟩
        have hE := argsE (K := K) hh2.fh rr
        have hA : Holds K (entOf F2 H1 (Sl.lst b ds :: es.map Sl.ext)) (Sl.lst b ds :: es.map Sl.ext) [] F2 ((V.ref b :: vs).map some) H1 := by
          refine ⟨hh2.fh, ?_, fun j sl q => ?_, (fun p hp => nomatch hp), ?_, Same.refl _, fun a o q _ => ⟨q, fun z => z⟩, fun a ha => ?_⟩
          · have z := hE.len
            show (es.map Sl.ext).length + 1 = (vs.map some).length + 1
            rw [z]
          · cases j with
            | zero =>
              have z := Option.some.inj q
              subst z
              exact .inr ⟨.ref b, rfl, okJ⟩
            | succ j => exact hE.slots j sl q
          · rw [own0]
            show ([b] ++ ([] : List Addr)).Nodup
            simp
          · rw [show ownedT ([] : Tmp) = [] from rfl, List.append_nil] at ha
            exact .inl ha
        have back : ∀ (H' F' : Hp) (fin : Env') (U : Tmp), Holds K (entOf F2 H1 (Sl.lst b ds :: es.map Sl.ext)) fin U F' ((V.ref b :: vs).map some) H' → Left [b] F2 H1 F' H' := fun H' F' fin U hf =>
          ⟨hf.s1, hf.fh, fun x o q nx => hf.s2 x o q (by
            show x ∉ ownedE (Sl.lst b ds :: es.map Sl.ext)
            rw [own0]
            exact nx)⟩
        have ownF : ∀ (H' F' : Hp) (fin : Env') (U : Tmp), Holds K (entOf F2 H1 (Sl.lst b ds :: es.map Sl.ext)) fin U F' ((V.ref b :: vs).map some) H' → ∀ x ∈ ownedE fin ++ ownedT U, x = b ∨ H1 x = none := fun H' F' fin U hf x hx => by
          rcases hf.s3 x hx with z | z
          · have z' : x ∈ ownedE (Sl.lst b ds :: es.map Sl.ext) := z
            rw [own0] at z'
            exact .inl (List.mem_singleton.mp z')
          · exact .inr z
        refine ⟨F2, Sl.lst b ds :: es.map Sl.ext, _, _, ?_, hA, q2, fun v H' F' r fin hf hq => ?_, fun c H' F' fin hf hq => ?_⟩
        · rw [← hn _ _ _ q2]
          show vs.length + 1 = (es.map Sl.ext).length + 1
          rw [List.length_map, rr.length]
        · cases fin with
          | nil => exact hq.elim
          | cons s' fr =>
            obtain ⟨qs, qr, q3⟩ := hq
            have ok' : SlOk K F' H' (.ref b) s' := by
              rcases hf.slots 0 s' rfl with z | ⟨w, hw, ok⟩
              · subst z
                trivial
              · have z := Option.some.inj (Option.some.inj hw)
                subst z
                exact ok
            have sub : (s'.owned ++ r.owned).Sublist (ownedE (s' :: fr) ++ ownedT [(v, r)]) := by
              show (s'.owned ++ r.owned).Sublist ((s'.owned ++ ownedE fr) ++ (r.owned ++ []))
              rw [List.append_nil]
              exact (List.sublist_append_left _ _).append (List.Sublist.refl _)
            exact hR v H' F' _ r (hh2.left1 hi (back H' F' _ _ hf) (hf.temps (v, r) List.mem_cons_self) ok' (fun x hx => ownF H' F' _ _ hf x (sub.subset hx)) (hf.nd.sublist sub) qs) q3
        · cases fin with
          | nil => exact hq.elim
          | cons s' fr =>
            obtain ⟨qs, q3⟩ := hq
            have ok' : SlOk K F' H' (.ref b) s' := by
              rcases hf.slots 0 s' rfl with z | ⟨w, hw, ok⟩
              · subst z
                trivial
              · have z := Option.some.inj (Option.some.inj hw)
                subst z
                exact ok
            have sub : (s'.owned ++ (Sl.ext .non).owned).Sublist (ownedE (s' :: fr) ++ ownedT []) := by
              show (s'.owned ++ []).Sublist ((s'.owned ++ ownedE fr) ++ [])
              rw [List.append_nil, List.append_nil]
              exact List.sublist_append_left _ _
            have h5 := hh2.left1 (v := .non) (r := .ext .non) hi (back H' F' _ _ hf) rfl ok' (fun x hx => ownF H' F' _ _ hf x (sub.subset hx)) (hf.nd.sublist sub) qs
            exact hl c _ F' σ H' h5.bare q3
      · exact q1.elim
  · exact ht.elim

/-- a def at its place, with its specification -/
structure Def (G : GG) (kf : Nat) (x : Str) (n : Nat) (spec : DSpec) : Prop where
  ex : ∃ f fd ps, FnG G.P G.w G.K G.mg G.base (L2.CX G.P G.w) kf f fd ps (toSp G.K n spec) ∧ G.mg x = some (.ref f) ∧ PySem.W.keepIn G.K (.ref f) = true ∧ Binds G.K fd ps []
  len : ∀ ds Q X, spec ds Q X → ds.length = n
section
variable {G : GG} {N : List Str} {sc : SC} {k kf n : Nat} {x : Str} {spec : DSpec} {e : Expr} {es : List Expr} {p pos : Pos}
theorem Def.pe {W : WX} {X : Cx} {ta : TA} (d : Def G kf x n spec) (S : Sit G N sc W k X) (hk : kf ≤ k) (hg : GlS sc x) (ha : PA X (e :: es) ta) (hdb : (x == ("__debug__" : Str)) = false) (he : NoStar e es) (hpl : ∀ env, (backTo pos (starEach es env)).any (·.1) = false) :
    PE X (.Call (.Name x p) (e :: es) [] pos) (tCallS (toSp G.K n spec) (WE W) ta) := by
  obtain ⟨f, fd, ps, h1, h2, h3, h4⟩ := d.ex
  have pass : ∀ σ, PassesAt (L2.CX X.prog X.w) X σ (WE W σ) := fun σ => passAt S.tk σ
  rw [← S.prog, ← S.w, ← S.K, ← S.mg, ← S.base] at h1
  rw [← S.K] at h3 h4 ⊢
  rw [← S.mg] at h2
  refine ⟨fun pins s σ H Q I h => ?_⟩
  refine wpAny_Call_Name_kw (ld_glob I (S.gl hg) h2 ?_ hdb)
  refine PySem.W.callWith_K (h₀ := X.base) I.ok.mod.kin h3 (thn (ha.run pos pins s σ H _ I h) fun us s1 ⟨vs, H1, I1, r, q⟩ => ⟨I1.kIn, ?_⟩) (he _) (hpl _)
  exact runG h1 S.gd (S.room.mono hk) h4 (pass σ) I1 r q
theorem de_call {ta : DTA} (d : Def G kf x n spec) (ha : DAs G N sc k (e :: es) ta) (hk : kf ≤ k := by decide) (hg : GlS sc x := by rfl) (hdb : (x == ("__debug__" : Str)) = false := by decide) (he : NoStar e es := by intro _; rfl) (hpl : ∀ env, (backTo pos (starEach es env)).any (·.1) = false := by intro _; rfl) :
    DE G N sc k (.Call (.Name x p) (e :: es) [] pos) (dCall spec ta) := ⟨fun W => by
  obtain ⟨te, p1, i1⟩ := ha.ex W
  exact ⟨tCallS (toSp G.K n spec) (WE W) te, fun X S => d.pe S hk hg (p1 X S) hdb he hpl, im_call i1 d.len⟩⟩
theorem de_callJ {ta : DTA} {y : Str} {py : Pos} (i : Nat) (d : Def G kf x n spec) (ha : DAs G N sc k es ta) (hk : kf ≤ k := by decide) (hg : GlS sc x := by rfl) (hN : N[i]? = some y := by rfl)
    (hv : Vis sc.sc y := by first | exact Or.inl rfl | exact Or.inr (Or.inl rfl) | exact Or.inr (Or.inr rfl)) (hdb : (x == ("__debug__" : Str)) = false := by decide) (hdy : (y == ("__debug__" : Str)) = false := by decide) (hcy : (y == ("__classdict__" : Str)) = false := by decide)
    (he : NoStar (.Name y py) es := by intro _; rfl) (hpl : ∀ env, (backTo pos (starEach es env)).any (·.1) = false := by intro _; rfl) :
    DE G N sc k (.Call (.Name x p) (.Name y py :: es) [] pos) (dCallJ spec i ta) := ⟨fun W => by
  obtain ⟨te, p1, i1⟩ := ha.ex W
  refine ⟨tCallS (toSp G.K n spec) (WE W) (tCons (tVar i) te), fun X S => d.pe S hk hg (pa_cons (pe_var (by rw [S.nms]; exact hN) (S.vis hv) hdy hcy) (p1 X S) (he _)) hdb he hpl, im_callJ i1 d.len⟩⟩
end
end HD

/-! HD5: statements, loops, comprehensions, a def's body over data. -/
namespace HD
open PySem L2

structure DEnds where
  nx : Env' → Prop
  rt : Sl → Env' → Prop
  bk : Env' → Prop := fun _ => False
  ct : Env' → Prop := fun _ => False
abbrev DTS := DX → DEnds → Env' → Prop
structure EndsOk (K : PySem.W.Frag) (e : Ent) (E : DEnds) (Dn : Ends) : Prop where
  nx : ∀ env F σ H, Holds K e env [] F σ H → E.nx env → Dn.nx σ H
  rt : ∀ env F σ H v r, Holds K e env [(v, r)] F σ H → E.rt r env → Dn.rt v H
  bk : ∀ env F σ H, Holds K e env [] F σ H → E.bk env → Dn.bk σ H
  ct : ∀ env F σ H, Holds K e env [] F σ H → E.ct env → Dn.ct σ H
def ImS (K : PySem.W.Frag) (W : WX) (ts : TS) (t : DTS) : Prop :=
  ∀ (e : Ent) (Ex : DX), Link K e W Ex → ∀ (env : Env') (F : Hp) (σ : St) (H : Hp) (E : DEnds) (Dn : Ends), Holds K e env [] F σ H → t Ex E env → EndsOk K e E Dn → ts Dn σ H
structure DS (G : GG) (N : List Str) (sc : SC) (k : Nat) (st : Stmt) (t : DTS) : Prop where
  ex : ∀ W : WX, ∃ ts, (∀ X, Sit G N sc W k X → PS X st ts) ∧ ImS G.K W ts t
structure DSs (G : GG) (N : List Str) (sc : SC) (k : Nat) (st : List Stmt) (t : DTS) : Prop where
  ex : ∀ W : WX, ∃ ts, (∀ X, Sit G N sc W k X → PSs X st ts) ∧ ImS G.K W ts t

section
variable {G : GG} {N : List Str} {sc : SC} {k : Nat} {st : Stmt} {rest : List Stmt} {t u : DTS} {a : Expr} {ta : DT} {pos : Pos}
def sNext : DTS := fun _ E env => E.nx env
def sSeq (t u : DTS) : DTS := fun Ex E env => t Ex { E with nx := fun env1 => u Ex E env1 } env
theorem dss_nil : DSs G N sc k [] sNext := ⟨fun W => ⟨tNext, fun X S => pss_nil, fun e Ex hl env F σ H E Dn hh ht ok => ok.nx env F σ H hh ht⟩⟩
theorem dss_cons (h1 : DS G N sc k st t) (h2 : DSs G N sc k rest u) : DSs G N sc k (st :: rest) (sSeq t u) := ⟨fun W => by
  obtain ⟨ts, p1, i1⟩ := h1.ex W
  obtain ⟨us, p2, i2⟩ := h2.ex W
  refine ⟨tSeq ts us, fun X S => pss_cons (p1 X S) (p2 X S), fun e Ex hl env F σ H E Dn hh ht ok => ?_⟩
  exact i1 e Ex hl env F σ H _ _ hh ht ⟨fun env1 F1 σ1 H1 hh1 q1 => i2 e Ex hl env1 F1 σ1 H1 E Dn hh1 q1 ok, ok.rt, ok.bk, ok.ct⟩⟩
theorem dss_one (h1 : DS G N sc k st t) : DSs G N sc k [st] t := ⟨fun W => by
  obtain ⟨ts, p1, i1⟩ := h1.ex W
  exact ⟨ts, fun X S => pss_one (p1 X S), i1⟩⟩
theorem ds_pass : DS G N sc k (.Pass pos) sNext := ⟨fun W => ⟨tNext, fun X S => ps_pass, fun e Ex hl env F σ H E Dn hh ht ok => ok.nx env F σ H hh ht⟩⟩
def sBreak : DTS := fun _ E env => E.bk env
def sCont : DTS := fun _ E env => E.ct env
theorem ds_break : DS G N sc k (.Break pos) sBreak := ⟨fun W => ⟨tBreak, fun X S => ps_break, fun e Ex hl env F σ H E Dn hh ht ok => ok.bk env F σ H hh ht⟩⟩
theorem ds_continue : DS G N sc k (.Continue pos) sCont := ⟨fun W => ⟨tCont, fun X S => ps_continue, fun e Ex hl env F σ H E Dn hh ht ok => ok.ct env F σ H hh ht⟩⟩
/-- code that is not come to -/
def sNever : DTS := fun _ _ _ => False
theorem ds_never : DS G N sc k st sNever := ⟨fun W => ⟨tNever, fun X S => ps_never, fun e Ex hl env F σ H E Dn hh ht ok => ht.elim⟩⟩
/-- an expression whose value is dropped -/
def sDrop (t : DT) : DTS := fun Ex E env => t Ex env fun _ env1 => E.nx env1
theorem ds_expr (h : DE G N sc k a ta) (hs : ∀ env, swapsWith a none pos.line env = pure false := by intro _; rfl) : DS G N sc k (.Expr a pos) (sDrop ta) := ⟨fun W => by
  obtain ⟨te, p1, i1⟩ := h.ex W
  refine ⟨tDrop te, fun X S => ps_expr (p1 X S) (hs _), fun e Ex hl env F σ H E Dn hh ht ok => ?_⟩
  exact i1 e Ex hl env [] F σ H _ _ hh ht fun v H1 F1 env1 x hh1 q1 => ok.nx env1 F1 σ H1 hh1.pop q1⟩
/-- return -/
def retD (env : Env') (x : Sl) (q : Sl → Env' → Prop) : Prop := match x with
  | .al i a => match env[i]? with
    | some (.lst b ds) => b = a ∧ q (.lst a ds) (env.set i .un)
    | _ => False
  | .un => False
  | .ext d => q (.ext d) env
  | .lst a ds => q (.lst a ds) env
  | .reg a cs => q (.reg a cs) env
def sRet (t : DT) : DTS := fun Ex E env => t Ex env fun x env1 => retD env1 x E.rt
theorem Holds.ret {K : PySem.W.Frag} {e : Ent} {env : Env'} {T : Tmp} {F : Hp} {σ : St} {H : Hp} {v : V} {x : Sl} {q : Sl → Env' → Prop} (h : Holds K e env ((v, x) :: T) F σ H) (w : retD env x q) : ∃ r env', Holds K e env' ((v, r) :: T) F σ H ∧ r.plain ∧ q r env' := by
  cases x with
  | un => exact w.elim
  | ext d => exact ⟨_, _, h, trivial, w⟩
  | lst a ds => exact ⟨_, _, h, trivial, w⟩
  | reg a ds => exact ⟨_, _, h, trivial, w⟩
  | al i a =>
    have ev : v = .ref a := h.temps (v, .al i a) List.mem_cons_self
    have w' : (match env[i]? with | some (.lst b ds) => b = a ∧ q (.lst a ds) (env.set i .un) | _ => False) := w
    split at w'
    · rename_i b ds hb
      obtain ⟨rfl, w'⟩ := w'
      rcases h.slots i _ hb with z | ⟨u, hu, e1, _⟩
      · cases z
      · subst e1
        subst ev
        exact ⟨_, _, h.pop.take hb hu, trivial, w'⟩
    · exact w'.elim
theorem ds_ret (h : DE G N sc k a ta) : DS G N sc k (.Return (some a) pos) (sRet ta) := ⟨fun W => by
  obtain ⟨te, p1, i1⟩ := h.ex W
  refine ⟨tRet te, fun X S => ps_ret (p1 X S), fun e Ex hl env F σ H E Dn hh ht ok => ?_⟩
  refine i1 e Ex hl env [] F σ H _ _ hh ht fun v H1 F1 env1 x hh1 q1 => ?_
  obtain ⟨r, env2, hh2, _, q2⟩ := hh1.ret q1
  exact ok.rt env2 F1 σ H1 v r hh2 q2⟩
def sRetN : DTS := fun _ E env => E.rt (.ext .non) env
theorem ds_retN : DS G N sc k (.Return none pos) sRetN := ⟨fun W => ⟨tRetN, fun X S => ps_retN, fun e Ex hl env F σ H E Dn hh ht ok => ok.rt env F σ H .non (.ext .non) (hh.pushE rfl) ht⟩⟩
def sIf (c : DTT) (t u : DTS) : DTS := fun Ex E env => c Ex env fun b env1 => if b = true then t Ex E env1 else u Ex E env1
theorem ds_if {c : Expr} {x y : List Stmt} {tc : DTT} (hc : DTe G N sc k c tc) (h1 : DSs G N sc k x t) (h2 : DSs G N sc k y u) : DS G N sc k (.If c x y pos) (sIf tc t u) := ⟨fun W => by
  obtain ⟨tt, p0, i0⟩ := hc.ex W
  obtain ⟨ts, p1, i1⟩ := h1.ex W
  obtain ⟨us, p2, i2⟩ := h2.ex W
  refine ⟨tIfS tt ts us, fun X S => ps_if (p0 X S) (p1 X S) (p2 X S), fun e Ex hl env F σ H E Dn hh ht ok => ?_⟩
  refine i0 e Ex hl env [] F σ H _ _ hh ht fun b H1 F1 env1 hh1 q1 => ?_
  cases b with
  | true =>
    rw [if_pos rfl] at q1 ⊢
    exact i1 e Ex hl env1 F1 σ H1 E Dn hh1 q1 ok
  | false =>
    rw [if_neg Bool.false_ne_true] at q1 ⊢
    exact i2 e Ex hl env1 F1 σ H1 E Dn hh1 q1 ok⟩
/-- a slot's list is frozen ahead of a statement -/
def sFz (i : Nat) (t : DTS) : DTS := fun Ex E env => match env[i]? with
  | some (.lst _ ds) => t Ex E (env.set i (.ext (.lst ds)))
  | _ => t Ex E env
theorem imS_fz {K : PySem.W.Frag} {W : WX} {ts : TS} (i : Nat) (h : ImS K W ts t) : ImS K W ts (sFz i t) := fun e Ex hl env F σ H E Dn hh ht ok => by
  unfold sFz at ht
  split at ht
  · rename_i b ds hb
    obtain ⟨F1, _, hh1⟩ := hh.freeze hb
    exact h e Ex hl _ F1 σ H E Dn hh1 ht ok
  · exact h e Ex hl env F σ H E Dn hh ht ok
theorem ds_fz (i : Nat) (h : DS G N sc k st t) : DS G N sc k st (sFz i t) := ⟨fun W => by
  obtain ⟨ts, p1, i1⟩ := h.ex W
  exact ⟨ts, p1, imS_fz i i1⟩⟩

/-! ### targets -/
abbrev DTG := D → Env' → (Env' → Prop) → Prop
/-- only these slots were set -/
def Only (vs : List Nat) (σ σ' : St) : Prop := (∀ i, i ∉ vs → σ'[i]? = σ[i]?) ∧ σ'.length = σ.length
def ImG (K : PySem.W.Frag) (vs : List Nat) (g : TG) (t : DTG) : Prop := ∀ (e : Ent) (env : Env') (T : Tmp) (F : Hp) (σ : St) (H : Hp) (v : V) (d : D) (Q : Env' → Prop) (R : St → Hp → Prop),
  Holds K e env T F σ H → Rep K F d v → t d env Q → (∀ env' σ', Holds K e env' T F σ' H → Only vs σ σ' → Q env' → R σ' H) → g v σ H R
structure DG (G : GG) (N : List Str) (sc : SC) (tg : Expr) (vs : List Nat) (t : DTG) : Prop where
  ex : ∃ g, (∀ W k X, Sit G N sc W k X → PG X tg g) ∧ ImG G.K vs g t
def LocS (sc : SC) (x : Str) : Prop := sc.sc.names.lookup x = some .local ∨ (sc.sc.names.lookup x = some .cell ∧ sc.own x = true)
theorem Sit.loc {W : WX} {X : Cx} {x : Str} (S : Sit G N sc W k X) (h : LocS sc x) : Loc X.env.scope x ∧ (X.fn x = true ∨ X.env.scope.names.lookup x = some .local) := by
  rcases h with h | h
  · exact ⟨.inl (by rw [S.scp]; exact h), .inr (by rw [S.scp]; exact h)⟩
  · exact ⟨.inr (by rw [S.scp]; exact h.1), .inl (S.fn x h.2)⟩
def gSet (i : Nat) : DTG := fun d env Q => Q (env.set i (.ext d))
theorem dg_name {x : Str} (i : Nat) (hi : N[i]? = some x := by rfl) (hx : LocS sc x := by first | exact Or.inl rfl | exact Or.inr ⟨rfl, rfl⟩) : DG G N sc (.Name x pos) [i] (gSet i) :=
  ⟨gName i, fun W k X S => pg_name (by rw [S.nms]; exact S.nd) (by rw [S.nms]; exact hi) (S.loc hx).1 (S.loc hx).2,
    fun e env T F σ H v d Q R hh rd ht hR => hR _ _ ((hh.pushE rd).assign i trivial) ⟨fun j hj => List.getElem?_set_ne (fun z => hj (by rw [← z]; exact List.mem_singleton.mpr rfl)), List.length_set⟩ ht⟩
abbrev DTGs := List D → Env' → (Env' → Prop) → Prop
def ImGs (K : PySem.W.Frag) (us : List Nat) (g : TGs) (t : DTGs) : Prop := ∀ (e : Ent) (env : Env') (T : Tmp) (F : Hp) (σ : St) (H : Hp) (vs : List V) (ds : List D) (Q : Env' → Prop) (R : St → Hp → Prop),
  Holds K e env T F σ H → Reps K F ds vs → t ds env Q → (∀ env' σ', Holds K e env' T F σ' H → Only us σ σ' → Q env' → R σ' H) → g vs σ H R
structure DGs (G : GG) (N : List Str) (sc : SC) (tgs : List Expr) (vs : List Nat) (t : DTGs) : Prop where
  ex : ∃ g, (∀ W k X, Sit G N sc W k X → PGs X tgs g) ∧ ImGs G.K vs g t
def gsNil : DTGs := fun ds env Q => ds = [] ∧ Q env
def gsCons (t : DTG) (u : DTGs) : DTGs := fun ds env Q => match ds with
  | d :: r => t d env fun env1 => u r env1 Q
  | [] => False
theorem dgs_nil : DGs G N sc [] [] gsNil := ⟨gNil, fun W k X S => pgs_nil, fun e env T F σ H vs ds Q R hh rd ht hR => by
    obtain ⟨rfl, ht⟩ := ht
    exact ⟨rd, hR env σ hh ⟨fun _ _ => rfl, rfl⟩ ht⟩⟩
theorem dgs_cons {e : Expr} {es : List Expr} {vs us : List Nat} {t : DTG} {u : DTGs} (h1 : DG G N sc e vs t) (h2 : DGs G N sc es us u)
    (hs : ∀ env, (assignEach (e :: es) env).map (·.2) = assign e env :: (assignEach es env).map (·.2) := by intro _; rfl) : DGs G N sc (e :: es) (vs ++ us) (gsCons t u) := by
  obtain ⟨g, p1, i1⟩ := h1.ex
  obtain ⟨gs, p2, i2⟩ := h2.ex
  refine ⟨gCons g gs, fun W k X S => pgs_cons (p1 W k X S) (p2 W k X S) (hs _), fun en env T F σ H xs ds Q R hh rd ht hR => ?_⟩
  cases ds with
  | nil => exact ht.elim
  | cons d r =>
    obtain ⟨v, vr, rfl, r1, r2⟩ := rd
    refine ⟨v, vr, rfl, i1 en env T F σ H v d _ _ hh r1 ht fun env1 σ1 hh1 o1 q1 => ?_⟩
    exact i2 en env1 T F σ1 H vr r Q R hh1 r2 q1 fun env2 σ2 hh2 o2 q2 => hR env2 σ2 hh2 ⟨fun i hi => (o2.1 i fun z => hi (List.mem_append_right _ z)).trans (o1.1 i fun z => hi (List.mem_append_left _ z)), o2.2.trans o1.2⟩ q2
def gTupD (n : Nat) (t : DTGs) : DTG := fun d env Q => match d with
  | .tup ds => ds.length = n ∧ t ds env Q
  | .tk ds => ds.length = n ∧ t ds env Q
  | _ => False
theorem dg_tup {es : List Expr} {kk : Nat} {vs : List Nat} {t : DTGs} {n : Nat} (h : DGs G N sc es vs t) (hn : ∀ env, (assignEach es env).length = n := by intro _; rfl) (hst : ∀ env, (assignEach es env).findIdx? (·.1) = none := by intro _; rfl) : DG G N sc (.Tuple es kk pos) vs (gTupD n t) := by
  obtain ⟨g, p1, i1⟩ := h.ex
  refine ⟨gTup G.K n g, fun W k X S => ?_, fun en env T F σ H v d Q R hh rd ht hR => ?_⟩
  · rw [← S.K]
    exact pg_tup S.calm (p1 W k X S) (hn _) (hst _)
  · cases d with
    | tup ds =>
      obtain ⟨a, xs, rfl, hs, hr⟩ := rd
      obtain ⟨hl, ht⟩ := ht
      exact ⟨a, xs, rfl, SqT.same hh.fh hs.sq, by rw [← hr.length]; exact hl, i1 en env T F σ H xs ds Q R hh hr ht hR⟩
    | tk ds =>
      obtain ⟨a, xs, rfl, hs, hr⟩ := rd
      obtain ⟨hl, ht⟩ := ht
      exact ⟨a, xs, rfl, SqT.same hh.fh hs, by rw [← hr.length]; exact hl, i1 en env T F σ H xs ds Q R hh hr ht hR⟩
    | _ => exact ht.elim
/-- x = e: what e hands on goes into slot i -/
def sSet (i : Nat) (t : DT) : DTS := fun Ex E env => t Ex env fun x env1 => retD env1 x fun r env2 => E.nx (env2.set i r)
theorem imS_set {K : PySem.W.Frag} {W : WX} {te : TE} {t : DT} (i : Nat) (h : Im K W te t) : ImS K W (tAsg te (gName i)) (sSet i t) := fun e Ex hl env F σ H E Dn hh ht ok => by
  refine h e Ex hl env [] F σ H _ _ hh ht fun v H1 F1 env1 x hh1 q1 => ?_
  obtain ⟨r, env2, hh2, hp, q2⟩ := hh1.ret q1
  exact ok.nx _ F1 _ H1 (hh2.assign i hp) q2
theorem ds_set {x : Str} {pos' : Pos} (i : Nat) (h : DE G N sc k a ta) (hi : N[i]? = some x := by rfl) (hx : LocS sc x := by first | exact Or.inl rfl | exact Or.inr ⟨rfl, rfl⟩) (hs : ∀ env, env.scope = sc.sc → swapsWith a (some (.Name x pos')) pos.line env = pure false := by intro _ _; rfl) : DS G N sc k (.Assign [.Name x pos'] a pos) (sSet i ta) := ⟨fun W => by
  obtain ⟨te, p1, i1⟩ := h.ex W
  exact ⟨tAsg te (gName i), fun X S => ps_set (by rw [S.nms]; exact S.nd) (by rw [S.nms]; exact hi) (S.loc hx).1 (p1 X S) (hs _ S.scp) (S.loc hx).2, imS_set i i1⟩⟩
/-- x = e, where x's list is not changed: it is frozen -/
def sSetE (i : Nat) (t : DT) : DTS := fun Ex E env => t Ex env fun x env1 => frzD env1 x fun d env2 => E.nx (env2.set i (.ext d))
theorem imS_setE {K : PySem.W.Frag} {W : WX} {te : TE} {t : DT} (i : Nat) (h : Im K W te t) : ImS K W (tAsg te (gName i)) (sSetE i t) := fun e Ex hl env F σ H E Dn hh ht ok => by
  refine h e Ex hl env [] F σ H _ _ hh ht fun v H1 F1 env1 x hh1 q1 => ?_
  obtain ⟨d, F2, env2, _, hh2, rd, q2⟩ := hh1.frz1 q1
  exact ok.nx _ F2 _ H1 ((hh2.pushE rd).assign i trivial) q2
theorem ds_setE {x : Str} {pos' : Pos} (i : Nat) (h : DE G N sc k a ta) (hi : N[i]? = some x := by rfl) (hx : LocS sc x := by first | exact Or.inl rfl | exact Or.inr ⟨rfl, rfl⟩) (hs : ∀ env, env.scope = sc.sc → swapsWith a (some (.Name x pos')) pos.line env = pure false := by intro _ _; rfl) : DS G N sc k (.Assign [.Name x pos'] a pos) (sSetE i ta) := ⟨fun W => by
  obtain ⟨te, p1, i1⟩ := h.ex W
  exact ⟨tAsg te (gName i), fun X S => ps_set (by rw [S.nms]; exact S.nd) (by rw [S.nms]; exact hi) (S.loc hx).1 (p1 X S) (hs _ S.scp) (S.loc hx).2, imS_setE i i1⟩⟩
/-- (x, y) = e -/
def sAsg (t : DT) (g : DTG) : DTS := fun Ex E env => t Ex env fun x env1 => frzD env1 x fun d env2 => g d env2 E.nx
theorem ds_asg {tg : Expr} {vs : List Nat} {g : DTG} (h : DE G N sc k a ta) (hg : DG G N sc tg vs g) (hs : ∀ env, swapsWithSole [tg] a pos.line env = pure false := by intro _; rfl) (hw : ∀ env, swappedStores [tg] a env = pure none := by intro _; rfl)
    (h1 : ∀ env, (assignEach [tg] env).map (·.2) = [assign tg env] := by intro _; rfl) : DS G N sc k (.Assign [tg] a pos) (sAsg ta g) := ⟨fun W => by
  obtain ⟨te, p1, i1⟩ := h.ex W
  obtain ⟨gg, p2, i2⟩ := hg.ex
  refine ⟨tAsg te gg, fun X S => ps_asg (p1 X S) (p2 W k X S) (hs _) (hw _) (h1 _), fun e Ex hl env F σ H E Dn hh ht ok => ?_⟩
  refine i1 e Ex hl env [] F σ H _ _ hh ht fun v H1 F1 env1 x hh1 q1 => ?_
  obtain ⟨d, F2, env2, _, hh2, rd, q2⟩ := hh1.frz1 q1
  exact i2 e env2 [] F2 σ H1 v d E.nx Dn.nx hh2 rd q2 fun env3 σ3 hh3 _ q3 => ok.nx env3 F2 σ3 H1 hh3 q3⟩

/-! ### what is walked -/
/-- the iterator J hands on these items, while keep holds of the slots -/
def Src (K : PySem.W.Frag) (J : It) (items : List D) (keep : Env' → Prop) (F0 : Hp) : Prop :=
  ∀ (e : Ent) (env : Env') (T : Tmp) (F : Hp) (σ : St) (H : Hp) (i : Nat), Holds K e env T F σ H → Same F0 F → keep env →
    (items.length = i → J.stop i H) ∧ ∀ d, items[i]? = some d → J.go i H ∧ ∀ x H2, J.yld i H x H2 → ∃ F2, Grow F H F2 H2 ∧ Rep K F2 d x
abbrev DTI := DX → Env' → (List D → (Env' → Prop) → Env' → Prop) → Prop
def ImI (K : PySem.W.Frag) (W : WX) (wi : TI) (t : DTI) : Prop := ∀ (e : Ent) (Ex : DX), Link K e W Ex → ∀ (env : Env') (T : Tmp) (F : Hp) (σ : St) (H : Hp) (Q : List D → (Env' → Prop) → Env' → Prop) (R : It → Hp → Prop),
  Holds K e env T F σ H → t Ex env Q → (∀ J H' F' env' items keep, Holds K e env' T F' σ H' → Src K J items keep F' → Q items keep env' → R J H') → wi σ H R
structure DI (G : GG) (N : List Str) (sc : SC) (k : Nat) (tg iter : Expr) (t : DTI) : Prop where
  ex : ∀ W : WX, ∃ wi, (∀ X, Sit G N sc W k X → PI X tg iter wi) ∧ ImI G.K W wi t
def iterD (env : Env') (x : Sl) (q : List D → (Env' → Prop) → Prop) : Prop := match x with
  | .ext (.lst ds) => q ds fun _ => True
  | .lst _ ds => q ds fun _ => True
  | .al i a => match env[i]? with
    | some (.lst b ds) => b = a ∧ q ds fun env' => env'[i]? = some (.lst a ds)
    | _ => False
  | _ => False
def dIter (t : DT) : DTI := fun Ex env Q => t Ex env fun x env1 => iterD env1 x fun ds keep => Q ds keep env1
theorem src_list {K : PySem.W.Frag} {F0 : Hp} {a : Addr} {ds : List D} {vs : List V} (h : F0 a = some (.lst vs)) (r : Reps K F0 ds vs) : Src K (Itl K a) ds (fun _ => True) F0 := fun e env T F σ H i hh sm _ => by
  have hH : SqL K H a vs := SqL.of (hh.fh _ _ (sm _ _ h))
  refine ⟨fun hi => ⟨vs, hH, by rw [← r.length]; exact Nat.le_of_eq hi⟩, fun d hd => ?_⟩
  obtain ⟨v, hv, rd⟩ := r.get hd
  refine ⟨⟨vs, v, hH, hv⟩, fun x H2 hy => ?_⟩
  obtain ⟨rfl, hx⟩ := hy
  have e1 := hx _ hH
  rw [hv] at e1
  cases e1
  exact ⟨F, Grow.refl hh.fh, Rep.same sm rd⟩
theorem src_slot {K : PySem.W.Frag} {F0 : Hp} {j : Nat} {a : Addr} {ds : List D} : Src K (Itl K a) ds (fun env => env[j]? = some (.lst a ds)) F0 := fun e env T F σ H i hh sm kp => by
  rcases hh.slots j _ kp with z | ⟨u, hu, e1, e2, vs, hv, r⟩
  · cases z
  · have hH : SqL K H a vs := SqL.of hv
    refine ⟨fun hi => ⟨vs, hH, by rw [← r.length]; exact Nat.le_of_eq hi⟩, fun d hd => ?_⟩
    obtain ⟨v, hv', rd⟩ := r.get hd
    refine ⟨⟨vs, v, hH, hv'⟩, fun x H2 hy => ?_⟩
    obtain ⟨rfl, hx⟩ := hy
    have e1 := hx _ hH
    rw [hv'] at e1
    cases e1
    exact ⟨F, Grow.refl hh.fh, rd⟩
theorem src_tup {K : PySem.W.Frag} {F0 : Hp} {a : Addr} {ds : List D} {vs : List V} (h : SqT K F0 a vs) (r : Reps K F0 ds vs) : Src K (Itt K a) ds (fun _ => True) F0 := fun e env T F σ H i hh sm _ => by
  have hH : SqT K H a vs := SqT.same hh.fh (SqT.same sm h)
  refine ⟨fun hi => ⟨vs, hH, by rw [← r.length]; exact Nat.le_of_eq hi⟩, fun d hd => ?_⟩
  obtain ⟨v, hv, rd⟩ := r.get hd
  refine ⟨⟨vs, v, hH, hv⟩, fun x H2 hy => ?_⟩
  obtain ⟨rfl, hx⟩ := hy
  have e1 := hx _ hH
  rw [hv] at e1
  cases e1
  exact ⟨F, Grow.refl hh.fh, Rep.same sm rd⟩
/-- over a list -/
theorem di_list {tg : Expr} (h : DE G N sc k a ta) : DI G N sc k tg a (dIter ta) := ⟨fun W => by
  obtain ⟨te, p1, i1⟩ := h.ex W
  refine ⟨iList G.K te, fun X S => by rw [← S.K]; exact pi_list (p1 X S), fun e Ex hl env T F σ H Q R hh ht hR => ?_⟩
  refine i1 e Ex hl env T F σ H _ _ hh ht fun v H1 F1 env1 x hh1 q1 => ?_
  cases x with
  | un => exact q1.elim
  | reg _ _ => exact q1.elim
  | ext d =>
    cases d with
    | lst ds =>
      obtain ⟨b, vs, rfl, hb, hr⟩ := hh1.temps (v, .ext (.lst ds)) List.mem_cons_self
      exact ⟨b, rfl, ⟨vs, SqL.of (hh1.fh _ _ hb)⟩, hR _ H1 F1 env1 ds _ hh1.pop (src_list hb hr) q1⟩
    | _ => exact q1.elim
  | lst b ds =>
    obtain ⟨F2, _, hh2⟩ := hh1.freezeT
    obtain ⟨c, vs, rfl, hb, hr⟩ := hh2.temps (v, .ext (.lst ds)) List.mem_cons_self
    exact ⟨c, rfl, ⟨vs, SqL.of (hh2.fh _ _ hb)⟩, hR _ H1 F2 env1 ds _ hh2.pop (src_list hb hr) q1⟩
  | al i b =>
    have ev : v = .ref b := hh1.temps (v, .al i b) List.mem_cons_self
    have w' : (match env1[i]? with | some (.lst c ds) => c = b ∧ Q ds (fun env' => env'[i]? = some (.lst b ds)) env1 | _ => False) := q1
    split at w'
    · rename_i c ds hc
      obtain ⟨rfl, w'⟩ := w'
      rcases hh1.slots i _ hc with z | ⟨u, hu, e1, e2, vs, hv, hr⟩
      · cases z
      · exact ⟨c, ev, ⟨vs, SqL.of hv⟩, hR _ H1 F1 env1 ds _ hh1.pop src_slot w'⟩
    · exact w'.elim⟩
/-- over a tuple -/
def dIterT (t : DT) : DTI := fun Ex env Q => t Ex env fun x env1 => match x with
  | .ext (.tup ds) => Q ds (fun _ => True) env1
  | _ => False
theorem di_tup {tg : Expr} (h : DE G N sc k a ta) : DI G N sc k tg a (dIterT ta) := ⟨fun W => by
  obtain ⟨te, p1, i1⟩ := h.ex W
  refine ⟨iTup G.K te, fun X S => by rw [← S.K]; exact pi_tup (p1 X S), fun e Ex hl env T F σ H Q R hh ht hR => ?_⟩
  refine i1 e Ex hl env T F σ H _ _ hh ht fun v H1 F1 env1 x hh1 q1 => ?_
  cases x with
  | ext d =>
    cases d with
    | tup ds =>
      obtain ⟨b, vs, rfl, hb, hr⟩ := hh1.temps (v, .ext (.tup ds)) List.mem_cons_self
      exact ⟨b, rfl, ⟨vs, SqT.same hh1.fh hb.sq⟩, hR _ H1 F1 env1 ds _ hh1.pop (src_tup hb.sq hr) q1⟩
    | _ => exact q1.elim
  | _ => exact q1.elim⟩
/-- over a range -/
def rgD (lo hi : Int) : List D := (List.range (hi - lo).toNat).map fun i => D.int (lo + (i : Nat))
theorem src_range {K : PySem.W.Frag} {F0 : Hp} {lo hi : Int} : Src K (Itr lo (hi - lo).toNat) (rgD lo hi) (fun _ => True) F0 := fun e env T F σ H i hh sm _ => by
  have hl : (rgD lo hi).length = (hi - lo).toNat := by
    unfold rgD
    rw [List.length_map, List.length_range]
  refine ⟨fun h => by rw [hl] at h; exact Nat.le_of_eq h, fun d hd => ?_⟩
  have hi' : i < (hi - lo).toNat := by
    rw [← hl]
    exact (List.getElem?_eq_some_iff.mp hd).1
  unfold rgD at hd
  rw [List.getElem?_map, List.getElem?_range hi'] at hd
  have ed := Option.some.inj hd
  refine ⟨hi', fun x H2 hy => ?_⟩
  obtain ⟨rfl, ex⟩ := hy
  refine ⟨F, Grow.refl hh.fh, ?_⟩
  rw [ex, ← ed]
  exact rfl
def small62 (i : Int) : Prop := -(2 ^ 62) ≤ i ∧ i < 2 ^ 62
def dRange1 (t : DTA) : DTI := fun Ex env Q => t Ex env fun xs env1 => match xs with
  | [.ext (.int j)] => small62 j ∧ Q (rgD 0 j) (fun _ => True) env1
  | _ => False
def dRange2 (t : DTA) : DTI := fun Ex env Q => t Ex env fun xs env1 => match xs with
  | [.ext (.int i), .ext (.int j)] => small62 i ∧ small62 j ∧ Q (rgD i j) (fun _ => True) env1
  | _ => False
theorem di_range1 {tg : Expr} {t : DTA} {p : Pos} (h : DAs G N sc k [a] t) (hm : G.mg "range" = none) (hg : GlS sc "range" := by rfl) (hs : ∀ env, starEach [a] env = [(false, eval a env)] := by intro _; rfl) : DI G N sc k tg (.Call (.Name "range" p) [a] [] pos) (dRange1 t) := ⟨fun W => by
  obtain ⟨te, p1, i1⟩ := h.ex W
  refine ⟨iRng1 te, fun X S => pi_range1 (S.gl hg) (by rw [S.mg]; exact hm) (p1 X S) (hs _), fun e Ex hl env T F σ H Q R hh ht hR => ?_⟩
  refine i1 e Ex hl env T F σ H _ _ hh ht fun vs H1 F1 env1 xs le hh1 q1 => ?_
  split at q1
  · rename_i j
    match vs, le, hh1 with
    | [v], _, hh1 =>
      have ev : v = .int j := hh1.temps (v, .ext (.int j)) List.mem_cons_self
      have z := src_range (K := G.K) (F0 := F1) (lo := 0) (hi := j)
      rw [Int.sub_zero] at z
      exact ⟨j, by rw [ev], q1.1.1, q1.1.2, hR _ H1 F1 env1 _ _ hh1.pop z q1.2⟩
  · exact q1.elim⟩
theorem di_range2 {b : Expr} {tg : Expr} {t : DTA} {p : Pos} (h : DAs G N sc k [a, b] t) (hm : G.mg "range" = none) (hg : GlS sc "range" := by rfl) (hs : ∀ env, starEach [a, b] env = [(false, eval a env), (false, eval b env)] := by intro _; rfl) (hs2 : ∀ env, starEach [b] env = [(false, eval b env)] := by intro _; rfl) :
    DI G N sc k tg (.Call (.Name "range" p) [a, b] [] pos) (dRange2 t) := ⟨fun W => by
  obtain ⟨te, p1, i1⟩ := h.ex W
  refine ⟨iRng2 te, fun X S => pi_range2 (S.gl hg) (by rw [S.mg]; exact hm) (p1 X S) (hs _) (hs2 _), fun e Ex hl env T F σ H Q R hh ht hR => ?_⟩
  refine i1 e Ex hl env T F σ H _ _ hh ht fun vs H1 F1 env1 xs le hh1 q1 => ?_
  split at q1
  · rename_i i j
    match vs, le, hh1 with
    | [v, w], _, hh1 =>
      have ev : v = .int i := hh1.temps (v, .ext (.int i)) List.mem_cons_self
      have ew : w = .int j := hh1.temps (w, .ext (.int j)) (List.mem_cons_of_mem _ List.mem_cons_self)
      exact ⟨i, j, by rw [ev, ew], ⟨q1.1.1, q1.1.2, q1.2.1.1, q1.2.1.2⟩, hR _ H1 F1 env1 _ _ hh1.pop.pop src_range q1.2.2⟩
  · exact q1.elim⟩

/-! ### the entry moved on, for a loop -/
abbrev Ent.at (e : Ent) (F1 : Hp) : Ent := ⟨F1, e.H0, e.A0⟩
section
variable {K : PySem.W.Frag} {e : Ent} {env env1 : Env'} {T T1 : Tmp} {F F1 : Hp} {σ σ1 : St} {H H1 : Hp}
theorem Holds.on (h1 : Holds K e env1 T1 F1 σ1 H1) (h : Holds K e env T F σ H) (sm : Same F1 F) : Holds K (e.at F1) env T F σ H :=
  ⟨h.fh, h.len, h.slots, h.temps, h.nd, sm, fun a o q n => ⟨(h.s2 a o q n).1, fun z => (h.s2 a o q n).2 (h1.s1.free z)⟩, h.s3⟩
theorem Holds.off (h1 : Holds K e env1 T1 F1 σ1 H1) (h : Holds K (e.at F1) env T F σ H) : Holds K e env T F σ H :=
  ⟨h.fh, h.len, h.slots, h.temps, h.nd, h1.s1.trans h.s1, fun a o q n => ⟨(h.s2 a o q n).1, fun z => (h.s2 a o q n).2 ((h1.s2 a o q n).2 z)⟩, h.s3⟩
theorem Link.on {W : WX} {Ex : DX} (h1 : Holds K e env1 T1 F1 σ1 H1) (hl : Link K e W Ex) : Link K (e.at F1) W Ex := fun c env F σ H h q => hl c env F σ H (h1.off h) q
theorem EndsOk.on {E : DEnds} {Dn : Ends} (h1 : Holds K e env1 T1 F1 σ1 H1) (ok : EndsOk K e E Dn) : EndsOk K (e.at F1) E Dn :=
  ⟨fun env F σ H h q => ok.nx env F σ H (h1.off h) q, fun env F σ H v r h q => ok.rt env F σ H v r (h1.off h) q, fun env F σ H h q => ok.bk env F σ H (h1.off h) q, fun env F σ H h q => ok.ct env F σ H (h1.off h) q⟩
end

/-! ### for -/
def forD (g : DTG) (body : DTS) (keep : Env' → Prop) (Ex : DX) (E : DEnds) : List D → Env' → Prop
  | [], env => keep env ∧ E.nx env
  | d :: ds, env => keep env ∧ g d env fun env1 => body Ex { E with nx := forD g body keep Ex E ds, ct := forD g body keep Ex E ds, bk := E.nx } env1
def sFor (ti : DTI) (g : DTG) (body : DTS) : DTS := fun Ex E env => ti Ex env fun items keep env1 => forD g body keep Ex E items env1
theorem forD_keep {g : DTG} {body : DTS} {keep : Env' → Prop} {Ex : DX} {E : DEnds} : ∀ {ds : List D} {env : Env'}, forD g body keep Ex E ds env → keep env
  | [], _, h => h.1
  | _ :: _, _, h => h.1
theorem ds_for {tg iter : Expr} {body : List Stmt} {ti : DTI} {vs : List Nat} {g : DTG} {tb : DTS} (hi : DI G N sc k tg iter ti) (hg : DG G N sc tg vs g) (hb : DSs G N sc k body tb) (hs : ∀ env x, foldedSetIterable iter env x = pure x := by intro _ _; rfl) : DS G N sc k (.For tg iter body [] pos) (sFor ti g tb) := ⟨fun W => by
  obtain ⟨wi, p1, i1⟩ := hi.ex W
  obtain ⟨gg, p2, i2⟩ := hg.ex
  obtain ⟨ts, p3, i3⟩ := hb.ex W
  refine ⟨tFor wi gg ts, fun X S => ps_for S.own S.calm (p1 X S) (p2 W k X S) (p3 X S) (hs _), fun e Ex hl env F σ H E Dn hh ht ok => ?_⟩
  refine i1 e Ex hl env [] F σ H _ _ hh ht fun J H1 F1 env1 items keep hh1 src q1 => ?_
  have ok' := ok.on hh1
  refine ⟨fun i m σ' H' => ∃ env' F', Holds G.K (e.at F1) env' [] F' σ' H' ∧ i + m = items.length ∧ forD g tb keep Ex E (items.drop i) env', ⟨items.length, env1, F1, hh1.on hh1 (Same.refl _), by omega, q1⟩, ?_⟩
  rintro i m σ2 H2 ⟨env2, F2, hh2, em, q2⟩
  obtain ⟨s1, s2⟩ := src (e.at F1) env2 [] F2 σ2 H2 i hh2 hh2.s1 (forD_keep q2)
  cases hd : items[i]? with
  | none =>
    have hi : items.length ≤ i := List.getElem?_eq_none_iff.mp hd
    rw [List.drop_eq_nil_of_le hi] at q2
    exact .inl ⟨s1 (by omega), ok'.nx env2 F2 σ2 H2 hh2 q2.2⟩
  | some d =>
    obtain ⟨hi, ed⟩ := List.getElem?_eq_some_iff.mp hd
    rw [List.drop_eq_getElem_cons hi, ed] at q2
    obtain ⟨_, q2⟩ := q2
    obtain ⟨go, yl⟩ := s2 d hd
    refine .inr ⟨go, fun σ' H' => ∃ env' F', Holds G.K (e.at F1) env' [] F' σ' H' ∧ forD g tb keep Ex E (items.drop (i + 1)) env', fun σ' H' ⟨env', F', a1, a3⟩ => ⟨m - 1, by omega, env', F', a1, by omega, a3⟩, fun x H3 hy => ?_⟩
    obtain ⟨F3, gr, rd⟩ := yl x H3 hy
    refine i2 (e.at F1) env2 [] F3 σ2 H3 x d _ _ (hh2.grow gr) rd q2 fun env4 σ4 hh4 _ q4 => ?_
    exact i3 (e.at F1) Ex (hl.on hh1) env4 F3 σ4 H3 _ _ hh4 q4 ⟨fun env5 F5 σ5 H5 hh5 q5 => ⟨env5, F5, hh5, q5⟩, ok'.rt, fun env5 F5 σ5 H5 hh5 q5 => ok'.nx env5 F5 σ5 H5 hh5 q5, fun env5 F5 σ5 H5 hh5 q5 => ⟨env5, F5, hh5, q5⟩⟩⟩

/-! ### while -/
def sWhile (c : DTT) (body : DTS) : DTS := fun Ex E env => ∃ I : Nat → Env' → Prop, (∃ m, I m env) ∧ ∀ m env, I m env → c Ex env fun b env1 =>
  if b = true then body Ex { E with nx := fun env' => ∃ m', m' < m ∧ I m' env', ct := fun env' => ∃ m', m' < m ∧ I m' env', bk := E.nx } env1 else E.nx env1
theorem ds_while {c : Expr} {body : List Stmt} {tc : DTT} {tb : DTS} (hc : DTe G N sc k c tc) (hb : DSs G N sc k body tb) : DS G N sc k (.While c body [] pos) (sWhile tc tb) := ⟨fun W => by
  obtain ⟨tt, p1, i1⟩ := hc.ex W
  obtain ⟨ts, p2, i2⟩ := hb.ex W
  refine ⟨tWhile tt ts, fun X S => ps_while S.own (p1 X S) (p2 X S), fun e Ex hl env F σ H E Dn hh ht ok => ?_⟩
  obtain ⟨I, ⟨m0, h0⟩, turn⟩ := ht
  refine ⟨fun m σ' H' => ∃ env' F', Holds G.K e env' [] F' σ' H' ∧ I m env', ⟨m0, env, F, hh, h0⟩, ?_⟩
  rintro m σ1 H1 ⟨env1, F1, hh1, q1⟩
  refine i1 e Ex hl env1 [] F1 σ1 H1 _ _ hh1 (turn m env1 q1) fun b H2 F2 env2 hh2 q2 => ?_
  cases b with
  | true =>
    rw [if_pos rfl] at q2 ⊢
    refine ⟨fun σ' H' => ∃ m', m' < m ∧ ∃ env' F', Holds G.K e env' [] F' σ' H' ∧ I m' env', fun σ' H' z => z, ?_⟩
    exact i2 e Ex hl env2 F2 σ1 H2 _ _ hh2 q2 ⟨fun env5 F5 σ5 H5 hh5 ⟨m', hm, q5⟩ => ⟨m', hm, env5, F5, hh5, q5⟩, ok.rt, fun env5 F5 σ5 H5 hh5 q5 => ok.nx env5 F5 σ5 H5 hh5 q5, fun env5 F5 σ5 H5 hh5 ⟨m', hm, q5⟩ => ⟨m', hm, env5, F5, hh5, q5⟩⟩
  | false =>
    rw [if_neg Bool.false_ne_true] at q2 ⊢
    exact ok.nx env2 F2 σ1 H2 hh2 q2⟩
end
end HD

/-! HD6: comprehensions, a def by its body. -/
namespace HD
open PySem L2

def wipeE (env : Env') : List Nat → Env'
  | [] => env
  | v :: vs => (wipeE env vs).set v .un
section
variable {K : PySem.W.Frag} {e : Ent} {env : Env'} {T : Tmp} {F : Hp} {σ : St} {H : Hp}
theorem Holds.wipe1 (h : Holds K e env T F σ H) (i : Nat) : Holds K e (env.set i .un) T F (σ.set i none) H := by
  have h1 := h.unset i
  refine ⟨h1.fh, by rw [List.length_set, List.length_set]; exact h.len, fun j sl q => ?_, h1.temps, h1.nd, h1.s1, h1.s2, h1.s3⟩
  by_cases ij : i = j
  · subst ij
    rw [List.getElem?_set] at q
    rw [if_pos rfl] at q
    split at q
    · cases q
      exact .inl rfl
    · cases q
  · rcases h1.slots j sl q with z | ⟨v, hv, ok⟩
    · exact .inl z
    · exact .inr ⟨v, by rw [List.getElem?_set_ne ij]; exact hv, ok⟩
theorem Holds.wipe (h : Holds K e env T F σ H) : ∀ vs : List Nat, Holds K e (wipeE env vs) T F (wipe σ vs) H
  | [] => h
  | v :: vs => (Holds.wipe h vs).wipe1 v
theorem Holds.unwipe {vs : List Nat} (h : Holds K e env T F (L2.wipe σ vs) H) : Holds K e env T F σ H :=
  ⟨h.fh, by rw [h.len, wipe_length], fun j sl q => by
    rcases h.slots j sl q with z | ⟨v, hv, ok⟩
    · exact .inl z
    · exact .inr ⟨v, (wipe_some hv).1, ok⟩, h.temps, h.nd, h.s1, h.s2, h.s3⟩
end
theorem wipe_in {σ : St} {i : Nat} : ∀ {vs : List Nat}, i ∈ vs → i < σ.length → (wipe σ vs)[i]? = some none
  | [], h, _ => nomatch h
  | v :: vs, h, hl => by
    unfold wipe
    rw [List.getElem?_set]
    by_cases e : v = i
    · rw [if_pos e, if_pos (by rw [wipe_length, e]; exact hl)]
    · rw [if_neg e]
      rcases List.mem_cons.mp h with z | z
      · exact absurd z.symm e
      · exact wipe_in z hl
theorem wipe_only {σ σ2 : St} {vs : List Nat} (h : Only vs (wipe σ vs) σ2) : wipe σ2 vs = wipe σ vs := by
  have hl : σ2.length = σ.length := by rw [h.2, wipe_length]
  refine List.ext_getElem? fun i => ?_
  by_cases m : i ∈ vs
  · by_cases il : i < σ.length
    · rw [wipe_in m il, wipe_in m (by rw [hl]; exact il)]
    · rw [List.getElem?_eq_none (by rw [wipe_length, hl]; omega), List.getElem?_eq_none (by rw [wipe_length]; omega)]
  · rw [wipe_out m, h.1 i m]
section
variable {G : GG} {N : List Str} {sc : SC} {k : Nat}
theorem Sit.blk {W : WX} {X : Cx} (S : Sit G N sc W k X) (s : Shared) (H : Hp) (scope : Scope) (C : Addr) (cl : List (Str × Addr)) (fp : List Addr) : Sit G N (lcS scope sc) (fun _ _ _ _ => False) k (X.blk s H scope (compEnvC scope cl C X.env) fp) where
  prog := S.prog
  w := S.w
  K := S.K
  mg := S.mg
  base := S.base
  nms := S.nms
  nd := S.nd
  scp := by
    show relabel scope X.env = relab scope sc.sc
    unfold relabel relab
    rw [← S.scp]
    rfl
  calm := S.calm
  room := S.room
  tk := L2.takes0
  fn := fun x h => h
  own := PassesOwn.never
  stk := fun z => by cases z
  gd := S.gd
def dYes : DTT := fun _ env Q => Q true env
structure DTl (G : GG) (N : List Str) (sc : SC) (k : Nat) (ifs : List Expr) (t : DTT) : Prop where
  ex : ∀ W : WX, ∃ te, (∀ X, Sit G N sc W k X → PTs X ifs te) ∧ ImT G.K W te t
theorem dtl_nil : DTl G N sc k [] dYes := ⟨fun W => ⟨tYes, fun X S => pts_nil, fun e Ex hl env T F σ H Q R hh ht hR => hR true H F env hh ht⟩⟩
theorem dtl_one {c : Expr} {t : DTT} (h : DTe G N sc k c t) : DTl G N sc k [c] t := ⟨fun W => by
  obtain ⟨te, p1, i1⟩ := h.ex W
  exact ⟨te, fun X S => pts_one (p1 X S), i1⟩⟩
abbrev noX : DX := fun _ _ => False
def lcD (g : DTG) (tt : DTT) (te : DT) (vs : List Nat) (keep : Env' → Prop) (Q : Sl → Env' → Prop) : List D → List D → Env' → Prop
  | [], acc, env => keep env ∧ ∀ a, Q (.lst a acc) env
  | d :: ds, acc, env => keep env ∧ acc.length < sizeLine ∧ g d env fun env1 => tt noX env1 fun b env2 =>
      if b = true then te noX env2 fun x env3 => frzD env3 x fun d' env4 => lcD g tt te vs keep Q ds (acc ++ [d']) (wipeE env4 vs) else lcD g tt te vs keep Q ds acc (wipeE env2 vs)
def dLc (ti : DTI) (g : DTG) (tt : DTT) (te : DT) (vs : List Nat) : DT := fun Ex env Q => ti Ex env fun items keep env1 => lcD g tt te vs keep Q items [] (wipeE env1 vs)
theorem lcD_keep {g : DTG} {tt : DTT} {te : DT} {vs : List Nat} {keep : Env' → Prop} {Q : Sl → Env' → Prop} : ∀ {ds acc : List D} {env : Env'}, lcD g tt te vs keep Q ds acc env → keep env
  | [], _, _, h => h.1
  | _ :: _, _, _, h => h.1
theorem im_lc {K : PySem.W.Frag} {W : WX} {wi : TI} {gg : TG} {tt' : TT} {te' : TE} {ti : DTI} {g : DTG} {tt : DTT} {te : DT} {vs : List Nat} (i1 : ImI K W wi ti) (i2 : ImG K vs gg g) (i3 : ImT K (fun _ _ _ _ => False) tt' tt) (i4 : Im K (fun _ _ _ _ => False) te' te) : Im K W (tLc wi gg tt' te' vs) (dLc ti g tt te vs) := fun e Ex hl env T F σ H Q R hh ht hR => by
  refine i1 e Ex hl env T F σ H _ _ hh ht fun J H1 F1 env1 items keep hh1 src q1 => fun D hD => ?_
  have nl : Link K (e.at F1) (fun _ _ _ _ => False) noX := fun _ _ _ _ _ _ z => z
  have h0 : Holds K e env1 ((V.ref D, Sl.lst D []) :: T) F1 σ (upd H1 D (.lst [])) := hh1.push (Grow.loose hh1.fh hD) ⟨rfl, hh1.fh.free hD, [], upd_same, rfl⟩ fun a ha => by
    rw [List.mem_singleton.mp ha]
    exact hD
  refine ⟨fun i m H' => ∃ env' F' acc, Holds K (e.at F1) env' ((V.ref D, Sl.lst D acc) :: T) F' (wipe σ vs) H' ∧ i + m = items.length ∧ lcD g tt te vs keep Q (items.drop i) acc env',
    ⟨items.length, wipeE env1 vs, F1, [], (hh1.on h0 (Same.refl _)).wipe vs, by omega, q1⟩, ?_⟩
  rintro i m H2 ⟨env2, F2, acc, hh2, em, q2⟩
  obtain ⟨s1, s2⟩ := src (e.at F1) env2 _ F2 _ H2 i hh2 hh2.s1 (lcD_keep q2)
  cases hd : items[i]? with
  | none =>
    have hi : items.length ≤ i := List.getElem?_eq_none_iff.mp hd
    rw [List.drop_eq_nil_of_le hi] at q2
    exact .inl ⟨s1 (by omega), hR _ H2 F2 env2 _ (hh1.off hh2.unwipe) (q2.2 D)⟩
  | some d =>
    obtain ⟨hi, ed⟩ := List.getElem?_eq_some_iff.mp hd
    rw [List.drop_eq_getElem_cons hi, ed] at q2
    obtain ⟨_, hz, q2⟩ := q2
    obtain ⟨go, yl⟩ := s2 d hd
    refine .inr ⟨go, fun H' => ∃ env' F' acc, Holds K (e.at F1) env' ((V.ref D, Sl.lst D acc) :: T) F' (wipe σ vs) H' ∧ lcD g tt te vs keep Q (items.drop (i + 1)) acc env', fun H' ⟨env', F', acc', a1, a3⟩ => ⟨m - 1, by omega, env', F', acc', a1, by omega, a3⟩, fun x H3 hy => ?_⟩
    obtain ⟨F3, gr, rd⟩ := yl x H3 hy
    refine i2 (e.at F1) env2 _ F3 _ H3 x d _ _ (hh2.grow gr) rd q2 fun env4 σ4 hh4 on4 q4 => ⟨wipe_only on4, ?_⟩
    refine i3 (e.at F1) noX nl env4 _ F3 σ4 H3 _ _ hh4 q4 fun b H5 F5 env5 hh5 q5 => ?_
    cases b with
    | false =>
      rw [if_neg Bool.false_ne_true] at q5 ⊢
      have z := hh5.wipe vs
      rw [wipe_only on4] at z
      exact ⟨_, F5, acc, z, q5⟩
    | true =>
      rw [if_pos rfl] at q5 ⊢
      refine i4 (e.at F1) noX nl env5 _ F5 σ4 H5 _ _ hh5 q5 fun y H6 F6 env6 sl hh6 q6 => ?_
      obtain ⟨d', F7, env7, _, hh7, rd', q7⟩ := hh6.frz1 q6
      obtain ⟨_, _, us, hu, hr⟩ := hh7.temps (V.ref D, Sl.lst D acc) List.mem_cons_self
      refine ⟨us, hu, by rw [← hr.length]; exact hz, ?_⟩
      have z := (hh7.writeT (hr.append (.one rd'))).wipe vs
      rw [wipe_only on4] at z
      exact ⟨_, F7, _, z, q7⟩
variable {elt tg iter : Expr} {ifs : List Expr} {scope : Scope} {own : List (Str × Nat)} {pos : Pos} {ti : DTI} {g : DTG} {tt : DTT} {te : DT}
theorem de_lc (own : List (Str × Nat)) (hi : DI G N sc k tg iter ti) (ok : blkC N sc.sc scope own = true) (hg : DG G N (lcS scope sc) tg (own.map (·.2)) g) (ht : DTl G N (lcS scope sc) k ifs tt) (he : DE G N (lcS scope sc) k elt te) (hs : ∀ env x, foldedSetIterable iter env x = pure x := by intro _ _; rfl) :
    DE G N sc k (.ListComp elt [⟨tg, iter, ifs, 0⟩] scope pos) (dLc ti g tt te (own.map (·.2))) := ⟨fun W => by
  obtain ⟨wi, p1, i1⟩ := hi.ex W
  obtain ⟨gg, p2, i2⟩ := hg.ex
  obtain ⟨tt', p3, i3⟩ := ht.ex fun _ _ _ _ => False
  obtain ⟨te', p4, i4⟩ := he.ex fun _ _ _ _ => False
  refine ⟨tLc wi gg tt' te' (own.map (·.2)), fun X S => ?_, im_lc i1 i2 i3 i4⟩
  exact pe_lc S.calm (by rw [S.nms]; exact S.nd) (p1 X S) (by rw [S.nms, S.scp]; exact blkOk_by ok) (fun s H C cl fp => p2 _ _ _ (S.blk s H scope C cl fp)) (fun s H C cl fp => p3 _ (S.blk s H scope C cl fp)) (fun s H C cl fp => p4 _ (S.blk s H scope C cl fp)) (hs _)⟩
/-- y = [..], y a local -/
theorem ds_setLc (own : List (Str × Nat)) {y : Str} {py spos : Pos} (i : Nat) (hi : DI G N sc k tg iter ti) (ok : blkC N sc.sc scope own = true) (hg : DG G N (lcS scope sc) tg (own.map (·.2)) g) (ht : DTl G N (lcS scope sc) k ifs tt) (he : DE G N (lcS scope sc) k elt te) (hy : N[i]? = some y := by rfl) (hyl : sc.sc.names.lookup y = some .local := by rfl)
    (hk : sc.sc.kind = .function := by rfl) (hl : (py.line == pos.line) = true := by rfl) (ha : (scope.names.any fun (n, k) => n == y && (k == .local || k == .cell)) = false := by decide +kernel) (hs : ∀ env x, foldedSetIterable iter env x = pure x := by intro _ _; rfl) :
    DS G N sc k (.Assign [.Name y py] (.ListComp elt [⟨tg, iter, ifs, 0⟩] scope pos) spos) (sSet i (dLc ti g tt te (own.map (·.2)))) := ⟨fun W => by
  obtain ⟨wi, p1, i1⟩ := hi.ex W
  obtain ⟨gg, p2, i2⟩ := hg.ex
  obtain ⟨tt', p3, i3⟩ := ht.ex fun _ _ _ _ => False
  obtain ⟨te', p4, i4⟩ := he.ex fun _ _ _ _ => False
  refine ⟨tAsg (tLc wi gg tt' te' (own.map (·.2))) (gName i), fun X S => ?_, imS_set i (im_lc i1 i2 i3 i4)⟩
  have hyX : X.env.scope.names.lookup y = some .local := by
    rw [S.scp]
    exact hyl
  exact ps_setLc S.calm (by rw [S.nms]; exact S.nd) (by rw [S.nms]; exact hy) hyX (sw_true (by rw [S.scp]; exact hk) hyX hl ha) (p1 X S) (by rw [S.nms, S.scp]; exact blkOk_by ok) (fun s H C cl fp => p2 _ _ _ (S.blk s H scope C cl fp)) (fun s H C cl fp => p3 _ (S.blk s H scope C cl fp)) (fun s H C cl fp => p4 _ (S.blk s H scope C cl fp)) (hs _)⟩

theorem ds_setLcE (own : List (Str × Nat)) {y : Str} {py spos : Pos} (i : Nat) (hi : DI G N sc k tg iter ti) (ok : blkC N sc.sc scope own = true) (hg : DG G N (lcS scope sc) tg (own.map (·.2)) g) (ht : DTl G N (lcS scope sc) k ifs tt) (he : DE G N (lcS scope sc) k elt te) (hy : N[i]? = some y := by rfl) (hyl : sc.sc.names.lookup y = some .local := by rfl)
    (hk : sc.sc.kind = .function := by rfl) (hl : (py.line == pos.line) = true := by rfl) (ha : (scope.names.any fun (n, k) => n == y && (k == .local || k == .cell)) = false := by decide +kernel) (hs : ∀ env x, foldedSetIterable iter env x = pure x := by intro _ _; rfl) :
    DS G N sc k (.Assign [.Name y py] (.ListComp elt [⟨tg, iter, ifs, 0⟩] scope pos) spos) (sSetE i (dLc ti g tt te (own.map (·.2)))) := ⟨fun W => by
  obtain ⟨wi, p1, i1⟩ := hi.ex W
  obtain ⟨gg, p2, i2⟩ := hg.ex
  obtain ⟨tt', p3, i3⟩ := ht.ex fun _ _ _ _ => False
  obtain ⟨te', p4, i4⟩ := he.ex fun _ _ _ _ => False
  refine ⟨tAsg (tLc wi gg tt' te' (own.map (·.2))) (gName i), fun X S => ?_, imS_setE i (im_lc i1 i2 i3 i4)⟩
  have hyX : X.env.scope.names.lookup y = some .local := by
    rw [S.scp]
    exact hyl
  exact ps_setLc S.calm (by rw [S.nms]; exact S.nd) (by rw [S.nms]; exact hy) hyX (sw_true (by rw [S.scp]; exact hk) hyX hl ha) (p1 X S) (by rw [S.nms, S.scp]; exact blkOk_by ok) (fun s H C cl fp => p2 _ _ _ (S.blk s H scope C cl fp)) (fun s H C cl fp => p3 _ (S.blk s H scope C cl fp)) (fun s H C cl fp => p4 _ (S.blk s H scope C cl fp)) (hs _)⟩

/-! ### a def -/
theorem start_holds {K : PySem.W.Frag} {e : Ent} {args : Env'} {F H : Hp} {vs : List V} (N : List Str) (h : Holds K e args [] F (vs.map some) H) : Holds K e (args ++ List.replicate (N.length - vs.length) .un) [] F (L2.start N vs) H := by
  have own : ownedE (args ++ List.replicate (N.length - vs.length) Sl.un) = ownedE args := by
    unfold ownedE
    rw [List.flatMap_append]
    have z : (List.replicate (N.length - vs.length) Sl.un).flatMap Sl.owned = [] := by
      rw [List.flatMap_eq_nil_iff]
      intro x hx
      rw [List.eq_of_mem_replicate hx]
      rfl
    rw [z, List.append_nil]
  have hl : args.length = vs.length := by
    have z := h.len
    rw [List.length_map] at z
    exact z
  refine ⟨h.fh, ?_, fun i sl q => ?_, h.temps, by rw [own]; exact h.nd, h.s1, h.s2, by rw [own]; exact h.s3⟩
  · unfold L2.start
    rw [List.length_append, List.length_append, List.length_replicate, List.length_replicate, h.len]
  · by_cases hi : i < args.length
    · rw [List.getElem?_append_left hi] at q
      rcases h.slots i sl q with z | ⟨v, hv, ok⟩
      · exact .inl z
      · refine .inr ⟨v, ?_, ok⟩
        unfold L2.start
        rw [List.getElem?_append_left (by rw [List.length_map, ← hl]; exact hi)]
        exact hv
    · rw [List.getElem?_append_right (by omega)] at q
      rw [List.getElem?_replicate] at q
      split at q
      · cases q
        exact .inl rfl
      · cases q
/-- the ends of a body that keeps a specification -/
abbrev endsOf (args : Env') (Qd : Sl → List Sl → Prop) : DEnds := { nx := fun env => Qd (.ext .non) (finals args env), rt := fun r env => Qd r (finals args env) }
abbrev exOf (args : Env') (Xd : Str → List Sl → Prop) : DX := fun c env => Xd c (finals args env)
theorem fn_ok {st : Stmt} {x qual : Str} {f : Addr} {fd : FuncData} {ps : List Str} {tb : DTS} {spec : DSpec} (F : Fun G.K x qual st f fd) (S : FnScope N ps (defScope st)) (hb : DSs G N (fnS (defScope st)) k (defBody st) tb)
    (h : ∀ args Qd Xd, spec args Qd Xd → args.length = ps.length → tb (exOf args Xd) (endsOf args Qd) (args ++ List.replicate (N.length - args.length) .un)) : FnG G.P G.w G.K G.mg G.base (L2.CX G.P G.w) (k + 1) f fd ps (toSp G.K ps.length spec) := by
  refine fnG_of F S (fun vs H Q E h => ?_) (fun cdv A outer s H vs Q E gd hr hsp => ?_)
  · obtain ⟨_, _, _, _, hl, _⟩ := h
    exact hl
  · obtain ⟨F0, args, Qd, Xd, hl, hA, hs, hQ, hX⟩ := hsp
    obtain ⟨ts, p1, i1⟩ := hb.ex fun cls d _ H => E cls d H
    have al : args.length = vs.length := by
      have z := hA.len
      rw [List.length_map] at z
      exact z
    refine ⟨ts, p1 _ ?_, ?_⟩
    · exact ⟨rfl, rfl, rfl, rfl, rfl, rfl, S.nd, rfl, rfl, hr, takes_of rfl rfl rfl rfl, fun _ _ => rfl, passes_of rfl, fun _ => ⟨rfl, rfl⟩, gd⟩
    · have hh := start_holds N hA
      rw [← al] at hh
      refine i1 (entOf F0 H args) (exOf args Xd) (fun c env F' σ' H' hh' q => hX c H' F' _ (hA.finals hh') q) _ F0 _ H (endsOf args Qd) _ hh (h args Qd Xd hs (al.trans hl)) ⟨fun env F' σ' H' hh' q => ?_, fun env F' σ' H' v r hh' q => hQ v H' F' r _ (hA.finals hh') q, fun _ _ _ _ _ z => z, fun _ _ _ _ _ z => z⟩
      exact hQ .non H' F' (.ext .non) _ (hA.finals (hh'.pushE rfl)) q
end
end HD

/-! HD7: zip of lists and tuples in any mix; enumerate. -/
namespace HD
open PySem L2

/-- a sequence: a tuple (true) or a list -/
def SqX (b : Bool) (K : PySem.W.Frag) (H : Hp) (a : Addr) (xs : List V) : Prop := if b = true then SqT K H a xs else SqL K H a xs
def ItX (b : Bool) (h : Heap) (it a : Addr) (i : Nat) : Prop := if b = true then h.IsTupleIter it a i else h.IsListIter it a i
def IsX (b : Bool) (h : Heap) (a : Addr) (items : Array Value) : Prop := if b = true then h.IsTuple a items else h.IsList a items
def objX (b : Bool) (a : Addr) : Obj := if b = true then { cls := .type "tuple_iterator", data := .fields #[.ref a, .int 0 0] } else { cls := .type "list_iterator", data := .fields #[.ref a, .int 0 0] }
theorem IsX.lt {b : Bool} {h : Heap} {a : Addr} {items : Array Value} (x : IsX b h a items) : a < h.objs.size := by
  cases b with
  | true =>
    obtain ⟨o, e, _⟩ := (x : h.IsTuple a items)
    exact Heap.lt_size e
  | false =>
    obtain ⟨o, e, _⟩ := (x : h.IsList a items)
    exact Heap.lt_size e
theorem draws_X {prog : Program} {w : World} {A : Around} (b : Bool) (hh : A.handled = none) (it l : Addr) (hne : l ≠ it) (items : Array Value) : Draws prog w A it [it, l] items.size (fun i v => items[i]? = some v) (fun i h => ItX b h it l i ∧ IsX b h l items) := by
  cases b with
  | true => exact Draws.tuple hh it l hne items
  | false => exact Draws.list hh it l hne items
theorem begins_X (b : Bool) (l : Addr) (items : Array Value) : Begins (.ref l) (objX b l) fun h => IsX b h l items := by
  cases b with
  | true => exact begins_tuple l items
  | false => exact begins_list l items
theorem itX_new {b : Bool} {h : Heap} {it a : Addr} (e : h.get? it = some (objX b a)) : ItX b h it a 0 := by
  cases b with
  | true => exact ⟨_, e, rfl, rfl⟩
  | false => exact ⟨_, e, rfl, rfl⟩
theorem ItX.at {b : Bool} {h h' : Heap} {it a : Addr} {i : Nat} (x : ItX b h it a i) (k : ∀ o, h.get? it = some o → h'.get? it = some o) : ItX b h' it a i := by
  cases b with
  | true => exact Heap.IsTupleIter.at (h := h) x k
  | false => exact Heap.IsListIter.at (h := h) x k
theorem ItX.obj {b : Bool} {h : Heap} {it a : Addr} {i : Nat} (x : ItX b h it a i) : ∃ o, h.get? it = some o ∧ ∀ v, o.data ≠ .cell v := by
  cases b with
  | true =>
    obtain ⟨o, e, _, d⟩ := (x : h.IsTupleIter it a i)
    exact ⟨o, e, fun v q => by rw [d] at q; cases q⟩
  | false =>
    obtain ⟨o, e, _, d⟩ := (x : h.IsListIter it a i)
    exact ⟨o, e, fun v q => by rw [d] at q; cases q⟩
theorem Inv.seqX {X : Cx} {pins : List (Addr × Obj)} {σ : L2.St} {H : Hp} {s : Shared} {b : Bool} {a : Addr} {xs : List V} (I : L2.Inv X pins σ H s) (h : SqX b X.K H a xs) : ∃ its : List Value, Vals xs its ∧ IsX b s.heap a its.toArray := by
  cases b with
  | true =>
    obtain ⟨its, r, p, _⟩ := I.tuple h
    exact ⟨its, r, p⟩
  | false =>
    obtain ⟨its, r, p, _⟩ := I.list h
    exact ⟨its, r, p.isList⟩
theorem seqX_inj {X : Cx} {pins : List (Addr × Obj)} {σ : L2.St} {H : Hp} {s : Shared} {b : Bool} {a : Addr} {xs ys : List V} (I : L2.Inv X pins σ H s) (h : SqX b X.K H a xs) (h' : SqX b X.K H a ys) : xs = ys := by
  cases b with
  | true => exact I.tuple_inj h h'
  | false => exact I.list_inj h h'
def ItzX (b1 b2 : Bool) (K : PySem.W.Frag) (a b : Addr) : It :=
  ⟨fun i H => ∃ (xs ys : List V) (x y : V), SqX b1 K H a xs ∧ SqX b2 K H b ys ∧ xs[i]? = some x ∧ ys[i]? = some y,
    fun i H v H' => ∃ T x y, v = .ref T ∧ H T = none ∧ H' = upd H T (.tup [x, y]) ∧ (∀ xs, SqX b1 K H a xs → xs[i]? = some x) ∧ ∀ ys, SqX b2 K H b ys → ys[i]? = some y,
    fun i H => ∃ xs ys : List V, SqX b1 K H a xs ∧ SqX b2 K H b ys ∧ i = min xs.length ys.length⟩
theorem turn_zipX {P : Program} {w : World} {K : PySem.W.Frag} {elts : List Expr} {kk : Nat} {tpos : Pos} {b1 b2 : Bool} {a b n : Addr} (la : a < n) (lb : b < n) :
    Turn P w K (.Tuple elts kk tpos) (ItzX b1 b2 K a b) [n + 4, n + 2, n + 3, n, n + 1] (n + 4) (fun i h => IsZip h (n + 4) (n + 2) (n + 3) .none ∧ IsTupOf2 h (n + 2) (.ref n) (.ref (n + 1)) ∧ (∃ x y, IsTupOf2 h (n + 3) x y) ∧ ItX b1 h n a i ∧ ItX b2 h (n + 1) b i) where
  mem := by simp
  obj := fun i h st c hc => by
    obtain ⟨hz, hTI, ⟨x, y, hTO⟩, h1, h2⟩ := st
    have e' : c = n + 4 ∨ c = n + 2 ∨ c = n + 3 ∨ c = n ∨ c = n + 1 := by simpa using hc
    rcases e' with q | q | q | q | q
    · rw [q]
      exact ⟨_, hz, fun v q => nomatch q⟩
    · rw [q]
      exact ⟨_, hTI, fun v q => nomatch q⟩
    · rw [q]
      exact ⟨_, hTO, fun v q => nomatch q⟩
    · rw [q]
      exact h1.obj
    · rw [q]
      exact h2.obj
  keep := fun i h h' st k => by
    obtain ⟨hz, hTI, ⟨x, y, hTO⟩, h1, h2⟩ := st
    exact ⟨k (n + 4) (by simp) _ hz, k (n + 2) (by simp) _ hTI, ⟨x, y, k (n + 3) (by simp) _ hTO⟩, h1.at fun o q => k n (by simp) o q, h2.at fun o q => k (n + 1) (by simp) o q⟩
  item := by
    intro X hP hw hK hc i pins s σ H E I hf st hg
    subst hP hw hK
    obtain ⟨hz, hTI, hTO, h1, h2⟩ := st
    obtain ⟨xs, ys, x, y, hqx, hqy, hx, hy⟩ := hg
    obtain ⟨its, rv, p1⟩ := Inv.seqX I hqx
    obtain ⟨its2, rv2, p2⟩ := Inv.seqX I hqy
    obtain ⟨u, hu, ru⟩ := rv.get hx
    obtain ⟨u2, hu2, ru2⟩ := rv2.get hy
    have hh := I.ok.hd hc
    have Z := GoesN.zip2 (elts := elts) (x1 := kk) (pos := tpos) (zip_sep2 (N := n) (fp1 := [a]) (fp2 := [b]) (fun c hc => by rw [List.mem_singleton.mp hc]; exact la) (fun c hc => by rw [List.mem_singleton.mp hc]; exact lb))
      (draws_X (prog := X.prog) (w := X.w) (A := X.A.in1) b1 hh n a (Nat.ne_of_lt la) its.toArray) (draws_X (prog := X.prog) (w := X.w) (A := X.A.in1) b2 hh (n + 1) b (Nat.ne_of_lt (Nat.lt_succ_of_lt lb)) its2.toArray)
    have hi1 : i < its.length := (List.getElem?_eq_some_iff.mp hu).1
    have hi2 : i < its2.length := (List.getElem?_eq_some_iff.mp hu2).1
    refine Z.goes i s _ E (by rw [List.size_toArray, List.size_toArray]; omega) ⟨hz, hTI, hTO, ⟨h1, p1⟩, ⟨h2, p2⟩⟩ fun v h' tk hY st' hk htk => ?_
    obtain ⟨T, x', y', rfl, hT, hx', hy', hTup⟩ := hY
    rw [List.getElem?_toArray, hu] at hx'
    rw [List.getElem?_toArray, hu2] at hy'
    cases hx'
    cases hy'
    obtain ⟨hz', hTI', hTO', ⟨h1', _⟩, ⟨h2', _⟩⟩ := st'
    have new : ObjOk X.prog X.w (upd H T (.tup [x, y])) h' T (.tup [x, y]) := ⟨by show 2 ≤ sizeLine; decide, [u, u2], .cons ru (.cons ru2 .nil), hTup⟩
    have I1 : L2.Inv X pins σ (upd H T (.tup [x, y])) { s with heap := h', toks := tk } :=
      I.turnedNew (t' := tk) (ch := [n + 4, n + 2, n + 3, n, n + 1]) (fun c o hb q => hk c o (fun m => hb (by
        have m' : c = n + 4 ∨ c = n + 3 ∨ c = n ∨ c = n + 1 := by simpa using m
        rcases m' with m | m | m | m <;> simp [m])) q) hf hT new
    refine ⟨.ref T, _, I1, rfl, ⟨T, x, y, rfl, I.hok.fresh hT, rfl, fun l hl => by rw [seqX_inj I hl hqx]; exact hx, fun l hl => by rw [seqX_inj I hl hqy]; exact hy⟩, ⟨hz', hTI', hTO', h1', h2'⟩, fun c hcm => ?_⟩
    have hlt : c < s.heap.objs.size := by
      have e' : c = n + 4 ∨ c = n + 2 ∨ c = n + 3 ∨ c = n ∨ c = n + 1 := by simpa using hcm
      obtain ⟨a1, a2, hTO⟩ := hTO
      rcases e' with q | q | q | q | q
      · rw [q]; exact Heap.lt_size hz
      · rw [q]; exact Heap.lt_size hTI
      · rw [q]; exact Heap.lt_size hTO
      · rw [q]; obtain ⟨_, e1, _⟩ := h1.obj; exact Heap.lt_size e1
      · rw [q]; obtain ⟨_, e1, _⟩ := h2.obj; exact Heap.lt_size e1
    rw [upd_ne (Nat.ne_of_lt (Nat.lt_of_lt_of_le hlt hT))]
    exact (hf c hcm).1
  done := by
    intro X hP hw hK hc i pins s σ H E I hf st hg
    subst hP hw hK
    obtain ⟨hz, hTI, hTO, h1, h2⟩ := st
    obtain ⟨xs, ys, hqx, hqy, hend⟩ := hg
    obtain ⟨its, rv, p1⟩ := Inv.seqX I hqx
    obtain ⟨its2, rv2, p2⟩ := Inv.seqX I hqy
    have hh := I.ok.hd hc
    have Z := GoesN.zip2 (elts := elts) (x1 := kk) (pos := tpos) (zip_sep2 (N := n) (fp1 := [a]) (fp2 := [b]) (fun c hc => by rw [List.mem_singleton.mp hc]; exact la) (fun c hc => by rw [List.mem_singleton.mp hc]; exact lb))
      (draws_X (prog := X.prog) (w := X.w) (A := X.A.in1) b1 hh n a (Nat.ne_of_lt la) its.toArray) (draws_X (prog := X.prog) (w := X.w) (A := X.A.in1) b2 hh (n + 1) b (Nat.ne_of_lt (Nat.lt_succ_of_lt lb)) its2.toArray)
    have en : i = min its.toArray.size its2.toArray.size := by
      rw [List.size_toArray, List.size_toArray, ← rv.length, ← rv2.length]
      exact hend
    rw [en] at h1 h2
    refine Z.stops s _ E ⟨hz, hTI, hTO, ⟨h1, p1⟩, ⟨h2, p2⟩⟩ fun h' tk hk htk => ?_
    exact I.turnedL (t' := tk) (ch := [n + 4, n + 2, n + 3, n, n + 1]) (fun c o hb q => hk c o (fun m => hb (by
        have m' : c = n + 4 ∨ c = n + 3 ∨ c = n ∨ c = n + 1 := by simpa using m
        rcases m' with m | m | m | m <;> simp [m])) q) hf
  self := fun A i s Q E st h => wpAny_pyIter_zip st.1 h
def iZipX (K : PySem.W.Frag) (ta : TA) : TI := fun σ H R => ta σ H fun vs H1 => ∃ b1 b2 a b xs ys, vs = [.ref a, .ref b] ∧ SqX b1 K H1 a xs ∧ SqX b2 K H1 b ys ∧ R (ItzX b1 b2 K a b) H1
theorem pi_zipX {X : Cx} {e e2 : Expr} {ta : TA} {p pos tpos : Pos} {elts : List Expr} {kk : Nat} (hg : Gl X "zip") (hm : X.mg "zip" = none) (ha : PA X [e, e2] ta)
    (hs : starEach [e, e2] X.env = (false, eval e X.env) :: starEach [e2] X.env) (hpl : (backTo pos (starEach [e2] X.env)).any (·.1) = false) :
    PI X (.Tuple elts kk tpos) (.Call (.Name "zip" p) [e, e2] [] pos) (iZipX X.K ta) := by
  refine ⟨fun pins s σ H R I h => ?_⟩
  refine PyProof.Rows.Call_ (ld_blt I hg hm PyProof.Rows.boot_zip (PyProof.Rows.callWith_type1 (thn (ha.run pos pins s σ H _ I h) fun us s1 ⟨vs, H1, I1, r1, q1⟩ => ?_) hs hpl))
  obtain ⟨b1, b2, a, b, xs, ys, ex, hqx, hqy, q⟩ := q1
  subst ex
  obtain ⟨u1, u2, rfl, ru1, ru2⟩ := vals2 r1
  cases ru1
  cases ru2
  obtain ⟨its, rv, p1⟩ := Inv.seqX I1 hqx
  obtain ⟨its2, rv2, p2⟩ := Inv.seqX I1 hqy
  refine zip_begins2 (begins_X b1 a its.toArray) (begins_X b2 b its2.toArray) p1 p2 fun h' hz hTI hTO g1 g2 hsz hk => wpAny_pyIter_zip hz ?_
  have I2 : L2.Inv X pins σ H1 { s1 with heap := h' } := I1.kept (t' := s1.toks) hk
  refine ⟨s1.heap.objs.size + 4, [s1.heap.objs.size + 4, s1.heap.objs.size + 2, s1.heap.objs.size + 3, s1.heap.objs.size, s1.heap.objs.size + 1], _, _, H1, rfl, I2, turn_zipX p1.lt p2.lt, ⟨hz, hTI, ⟨_, _, hTO⟩, itX_new g1, itX_new g2⟩, fun c hcm => ?_, q⟩
  have e' : c = s1.heap.objs.size + 4 ∨ c = s1.heap.objs.size + 2 ∨ c = s1.heap.objs.size + 3 ∨ c = s1.heap.objs.size ∨ c = s1.heap.objs.size + 1 := by simpa using hcm
  have hle : s1.heap.objs.size ≤ c := by
    rcases e' with z | z | z | z | z
    · rw [z]; exact Nat.le_add_right _ _
    · rw [z]; exact Nat.le_add_right _ _
    · rw [z]; exact Nat.le_add_right _ _
    · rw [z]; exact Nat.le_refl _
    · rw [z]; exact Nat.le_add_right _ _
  exact I1.fpOk hle (I1.hok.fresh hle)

/-! ### over data -/
/-- what zip walks: its items, and what must stand -/
def seqD (env : Env') (x : Sl) (q : List D → (Env' → Prop) → Prop) : Prop := match x with
  | .ext (.tup ds) => q ds fun _ => True
  | x => iterD env x q
def dZip (ta tb : DT) : DTI := fun Ex env Q => ta Ex env fun x env1 => tb Ex env1 fun y env2 => seqD env2 x fun xs k1 => seqD env2 y fun ys k2 => Q ((xs.zip ys).map fun p => D.tk [p.1, p.2]) (fun env' => k1 env' ∧ k2 env') env2
/-- a sequence stands while k holds of the slots -/
def Stands (K : PySem.W.Frag) (b : Bool) (a : Addr) (ds : List D) (k : Env' → Prop) (F0 : Hp) : Prop :=
  ∀ (e : Ent) (env : Env') (T : Tmp) (F : Hp) (σ : L2.St) (H : Hp), Holds K e env T F σ H → Same F0 F → k env → ∃ vs, SqX b K H a vs ∧ Reps K F ds vs
theorem Stands.mono {K : PySem.W.Frag} {b : Bool} {a : Addr} {ds : List D} {k : Env' → Prop} {F0 F1 : Hp} (h : Stands K b a ds k F0) (sm : Same F0 F1) : Stands K b a ds k F1 := fun e env T F σ H hh s kk => h e env T F σ H hh (sm.trans s) kk
/-- the top temp as a sequence -/
theorem Holds.seqD {K : PySem.W.Frag} {e : Ent} {env : Env'} {T : Tmp} {F : Hp} {σ : L2.St} {H : Hp} {v : V} {x : Sl} {q : List D → (Env' → Prop) → Prop} (h : Holds K e env ((v, x) :: T) F σ H) (w : HD.seqD env x q) :
    ∃ b a ds k F1, v = .ref a ∧ q ds k ∧ Same F F1 ∧ Holds K e env T F1 σ H ∧ Stands K b a ds k F1 ∧ k env := by
  have fz : ∀ (ds : List D) (F1 : Hp), Same F F1 → Holds K e env ((v, .ext (.lst ds)) :: T) F1 σ H → q ds (fun _ => True) → ∃ b a ds k F1, v = .ref a ∧ q ds k ∧ Same F F1 ∧ Holds K e env T F1 σ H ∧ Stands K b a ds k F1 ∧ k env := fun ds F1 sm h1 w => by
    obtain ⟨a, vs, rfl, hb, hr⟩ := h1.temps (v, .ext (.lst ds)) List.mem_cons_self
    exact ⟨false, a, ds, _, F1, rfl, w, sm, h1.pop, fun e' env' T' F' σ' H' hh s _ => ⟨vs, SqL.of (hh.fh _ _ (s _ _ hb)), hr.same s⟩, trivial⟩
  cases x with
  | un => exact w.elim
  | reg _ _ => exact w.elim
  | ext d =>
    cases d with
    | tup ds =>
      obtain ⟨a, vs, rfl, hb, hr⟩ := h.temps (v, .ext (.tup ds)) List.mem_cons_self
      exact ⟨true, a, ds, _, F, rfl, w, Same.refl _, h.pop, fun e' env' T' F' σ' H' hh s _ => ⟨vs, SqT.same hh.fh (SqT.same s hb.sq), hr.same s⟩, trivial⟩
    | lst ds => exact fz ds F (Same.refl _) h w
    | _ => exact w.elim
  | lst b ds =>
    obtain ⟨F1, sm, h1⟩ := h.freezeT
    exact fz ds F1 sm h1 w
  | al i b =>
    have ev : v = .ref b := h.temps (v, .al i b) List.mem_cons_self
    have w' : (match env[i]? with | some (.lst c ds) => c = b ∧ q ds (fun env' => env'[i]? = some (.lst b ds)) | _ => False) := w
    split at w'
    · rename_i c ds hc
      obtain ⟨rfl, w'⟩ := w'
      refine ⟨false, c, ds, _, F, ev, w', Same.refl _, h.pop, fun e' env' T' F' σ' H' hh s kk => ?_, hc⟩
      rcases hh.slots i _ kk with z | ⟨u, hu, e1, e2, vs, hv, hr⟩
      · cases z
      · exact ⟨vs, SqL.of hv, hr⟩
    · exact w'.elim
theorem src_zip {K : PySem.W.Frag} {b1 b2 : Bool} {a b : Addr} {xs ys : List D} {k1 k2 : Env' → Prop} {F0 : Hp} (h1 : Stands K b1 a xs k1 F0) (h2 : Stands K b2 b ys k2 F0) : Src K (ItzX b1 b2 K a b) ((xs.zip ys).map fun p => D.tk [p.1, p.2]) (fun env => k1 env ∧ k2 env) F0 := fun e env T F σ H i hh sm kk => by
  obtain ⟨vs, s1, r1⟩ := h1 e env T F σ H hh sm kk.1
  obtain ⟨us, s2, r2⟩ := h2 e env T F σ H hh sm kk.2
  refine ⟨fun hi => ⟨vs, us, s1, s2, ?_⟩, fun d hd => ?_⟩
  · rw [List.length_map, List.length_zip, r1.length, r2.length] at hi
    exact hi.symm
  · rw [List.getElem?_map] at hd
    cases hz : (xs.zip ys)[i]? with
    | none =>
      rw [hz] at hd
      cases hd
    | some p =>
      rw [hz] at hd
      have ed := Option.some.inj hd
      obtain ⟨hx, hy⟩ := List.getElem?_zip_eq_some.mp hz
      obtain ⟨v, hv, rv⟩ := r1.get hx
      obtain ⟨u, hu, ru⟩ := r2.get hy
      refine ⟨⟨vs, us, v, u, s1, s2, hv, hu⟩, fun x H2 hyl => ?_⟩
      obtain ⟨T', x1, x2, rfl, nT, rfl, f1, f2⟩ := hyl
      have e1 := f1 _ s1
      rw [hv] at e1
      cases e1
      have e2 := f2 _ s2
      rw [hu] at e2
      cases e2
      have g := Grow.frozen (o := .tup [v, u]) hh.fh nT
      refine ⟨_, g, ?_⟩
      rw [← ed]
      exact ⟨T', [v, u], rfl, SqT.of upd_same, ⟨v, [u], rfl, Rep.same g.ff rv, u, [], rfl, Rep.same g.ff ru, rfl⟩⟩
section
variable {G : GG} {N : List Str} {sc : SC} {k : Nat} {a b : Expr} {ta tb : DT} {p pos tpos : Pos} {elts : List Expr} {kk : Nat}
theorem di_zip (ha : DE G N sc k a ta) (hb : DE G N sc k b tb) (hm : G.mg "zip" = none) (hg : GlS sc "zip" := by rfl) (hs : NoStar a [b] := by intro _; rfl) (hs2 : NoStar b [] := by intro _; rfl) (hpl : ∀ env, (backTo pos (starEach [b] env)).any (·.1) = false := by intro _; rfl) :
    DI G N sc k (.Tuple elts kk tpos) (.Call (.Name "zip" p) [a, b] [] pos) (dZip ta tb) := ⟨fun W => by
  obtain ⟨te, p1, i1⟩ := ha.ex W
  obtain ⟨tf, p2, i2⟩ := hb.ex W
  refine ⟨iZipX G.K (tCons te (tCons tf tNil)), fun X S => ?_, fun e Ex hl env T F σ H Q R hh ht hR => ?_⟩
  · rw [← S.K]
    exact pi_zipX (S.gl hg) (by rw [S.mg]; exact hm) (pa_cons (p1 X S) (pa_cons (p2 X S) pa_nil (hs2 _)) (hs _)) (hs _) (hpl _)
  · refine i1 e Ex hl env T F σ H _ _ hh ht fun v H1 F1 env1 x hh1 q1 => ?_
    refine i2 e Ex hl env1 _ F1 σ H1 _ _ hh1 q1 fun u H2 F2 env2 y hh2 q2 => ?_
    obtain ⟨b1, a1, xs, k1, F3, rfl, q3, sm3, hh3, st1, kk1⟩ := (hh2.perm (List.Perm.swap _ _ _)).seqD q2
    obtain ⟨b2, a2, ys, k2, F4, rfl, q4, sm4, hh4, st2, kk2⟩ := hh3.seqD q3
    have st1' := st1.mono sm4
    obtain ⟨vs, s1, _⟩ := st1' e env2 T F4 σ H2 hh4 (Same.refl _) kk1
    obtain ⟨us, s2, _⟩ := st2 e env2 T F4 σ H2 hh4 (Same.refl _) kk2
    exact ⟨b1, b2, a1, a2, vs, us, rfl, s1, s2, hR _ H2 F4 env2 _ _ hh4 (src_zip st1' st2) q4⟩⟩
end
end HD

/-! HD8: built-in functions and methods over data. -/
namespace HD
open PySem L2

def dCB (f : List D → (Sl → Prop) → Prop) (t : DTA) : DT := fun Ex env Q => t Ex env fun xs env1 => wds env1 xs fun ds => f ds fun sl => Q sl env1
theorem im_cb {K : PySem.W.Frag} {W : WX} {r : List V → Hp → VK → Prop} {f : List D → (Sl → Prop) → Prop} {ta : TA} {t : DTA} (hr : Pr K r f) (h : ImA K W ta t) : Im K W (tCB r ta) (dCB f t) := fun e Ex hl env T F σ H Q R hh ht hR => by
  refine h e Ex hl env T F σ H _ _ hh ht fun vs H1 F1 env1 xs le hh1 q1 => ?_
  obtain ⟨ds, rr, q2⟩ := hh1.wds le (fun p hp => List.mem_append_left _ hp) q1
  exact hr F1 H1 vs ds _ R hh1.fh rr q2 ((hh1.sub (List.sublist_append_right _ _)).done hR)
abbrev RR := Program → World → PySem.W.Frag → List V → Hp → VK → Prop
/-- a built-in function, a built-in class -/
def BR (id : String) (f : List D → (Sl → Prop) → Prop) : Prop := ∃ r : RR, (∀ P w K, Pr K (r P w K) f) ∧ ∀ X : Cx, X.calm = true → X.A.units + 64 < cLine → CallR X (.builtin id) (r X.prog X.w X.K)
def TR (T : String) (f : List D → (Sl → Prop) → Prop) : Prop := ∃ r : RR, (∀ P w K, Pr K (r P w K) f) ∧ ∀ X : Cx, X.calm = true → X.A.units + 64 < cLine → CallR X (.type T) (r X.prog X.w X.K)
section
variable {G : GG} {N : List Str} {sc : SC} {k : Nat} {e : Expr} {es : List Expr} {x : Str} {id T : String} {f : List D → (Sl → Prop) → Prop} {t : DTA} {p pos : Pos}
theorem de_cb (hr : BR id f) (hm : G.mg x = none) (ha : DAs G N sc k (e :: es) t) (hv : bootBuiltins x = some (.builtin id) := by decide +kernel) (hg : GlS sc x := by rfl) (hn : x ≠ "__name__" := by decide) (hdb : (x == ("__debug__" : Str)) = false := by decide)
    (he : NoStar e es := by intro _; rfl) (hpl : ∀ env, (backTo pos (starEach es env)).any (·.1) = false := by intro _; rfl) : DE G N sc k (.Call (.Name x p) (e :: es) [] pos) (dCB f t) := ⟨fun W => by
  obtain ⟨r, h1, h2⟩ := hr
  obtain ⟨ta, p1, i1⟩ := ha.ex W
  refine ⟨tCB (r G.P G.w G.K) ta, fun X S => ?_, im_cb (h1 _ _ _) i1⟩
  have c := h2 X S.calm S.units
  rw [S.prog, S.w, S.K] at c
  exact pe_callB c (S.gl hg) (by rw [S.mg]; exact hm) hv (p1 X S) hn hdb (he _) (hpl _)⟩
theorem de_ct (hr : TR T f) (hm : G.mg x = none) (ha : DAs G N sc k (e :: es) t) (hv : bootBuiltins x = some (.type T) := by decide +kernel) (hg : GlS sc x := by rfl) (hn : x ≠ "__name__" := by decide) (hdb : (x == ("__debug__" : Str)) = false := by decide)
    (he : NoStar e es := by intro _; rfl) (hpl : ∀ env, (backTo pos (starEach es env)).any (·.1) = false := by intro _; rfl) : DE G N sc k (.Call (.Name x p) (e :: es) [] pos) (dCB f t) := ⟨fun W => by
  obtain ⟨r, h1, h2⟩ := hr
  obtain ⟨ta, p1, i1⟩ := ha.ex W
  refine ⟨tCB (r G.P G.w G.K) ta, fun X S => ?_, im_cb (h1 _ _ _) i1⟩
  have c := h2 X S.calm S.units
  rw [S.prog, S.w, S.K] at c
  exact pe_callTy c (S.gl hg) (by rw [S.mg]; exact hm) hv (p1 X S) hn hdb (he _) (hpl _)⟩
end
/-! ### len -/
def fLen : List D → (Sl → Prop) → Prop
  | [.lst ds], Q => Q (.ext (.int ds.length))
  | [.tup ds], Q => Q (.ext (.int ds.length))
  | [.fz ds], Q => Q (.ext (.int ds.length))
  | [.tk ds], Q => Q (.ext (.int ds.length))
  | [.str z], Q => z.length ≤ sizeLine ∧ Q (.ext (.int z.length))
  | _, _ => False
theorem b_len : BR "len" fLen := ⟨fun _ _ K xs H Q => (∃ p ys, xs = [.ref p] ∧ (SqL K H p ys ∨ SqT K H p ys) ∧ Q (.int ys.length) H) ∨ (∃ z, xs = [.str z] ∧ z.length ≤ sizeLine ∧ Q (.int z.length) H), fun _ _ K F H vs ds Q R fh hr hf ha => by
    unfold fLen at hf
    split at hf
    · obtain ⟨v, rfl, r⟩ := hr.one
      obtain ⟨a, vs, rfl, e1, r1⟩ := r.lst fh
      refine .inl ⟨a, vs, rfl, .inl (SqL.of e1), ?_⟩
      rw [← r1.length]
      exact ha.int fh hf
    · obtain ⟨v, rfl, r⟩ := hr.one
      obtain ⟨a, vs, rfl, e1, _, r1⟩ := r.tup fh
      refine .inl ⟨a, vs, rfl, .inr e1, ?_⟩
      rw [← r1.length]
      exact ha.int fh hf
    · obtain ⟨v, rfl, r⟩ := hr.one
      obtain ⟨a, vs, rfl, e1, r1⟩ := r.fz fh
      refine .inl ⟨a, vs, rfl, .inl e1, ?_⟩
      rw [← r1.length]
      exact ha.int fh hf
    · obtain ⟨v, rfl, r⟩ := hr.one
      obtain ⟨a, vs, rfl, e1, _, r1⟩ := r.tk fh
      refine .inl ⟨a, vs, rfl, .inr e1, ?_⟩
      rw [← r1.length]
      exact ha.int fh hf
    · obtain ⟨v, rfl, r⟩ := hr.one
      exact .inr ⟨_, by rw [r.str], hf.1, ha.int fh hf.2⟩
    · exact hf.elim, fun X _ _ => call_len_seq.or call_len_str⟩
/-! ### min, max -/
def fMin : List D → (Sl → Prop) → Prop
  | [.int i, .int j], Q => Q (.ext (.int (if j < i then j else i)))
  | [.lst ds], Q => ∃ ns : List Int, ds = ns.map D.int ∧ ns ≠ [] ∧ ∀ m, m ∈ ns → (∀ y, y ∈ ns → m ≤ y) → Q (.ext (.int m))
  | _, _ => False
def fMax : List D → (Sl → Prop) → Prop
  | [.int i, .int j], Q => Q (.ext (.int (if j > i then j else i)))
  | [.lst ds], Q => ∃ ns : List Int, ds = ns.map D.int ∧ ns ≠ [] ∧ ∀ m, m ∈ ns → (∀ y, y ∈ ns → y ≤ m) → Q (.ext (.int m))
  | _, _ => False
theorem b_min : BR "min" fMin := ⟨fun _ _ K xs H Q => (∃ i j, xs = [.int i, .int j] ∧ Q (.int (if j < i then j else i)) H) ∨ rMin K xs H Q, fun _ _ K F H vs ds Q R fh hr hf ha => by
    unfold fMin at hf
    split at hf
    · obtain ⟨v, u, rfl, r1, r2⟩ := hr.two
      exact .inl ⟨_, _, by rw [r1.int, r2.int], ha.int fh hf⟩
    · obtain ⟨v, rfl, r⟩ := hr.one
      obtain ⟨ns, rfl, ne, q⟩ := hf
      obtain ⟨a, vs, rfl, e1, r1⟩ := r.lst fh
      have z := r1.ints
      subst z
      exact .inr ⟨a, ns, rfl, SqL.of e1, List.length_pos_iff.mpr ne, fun m h1 h2 => ha.int fh (q m h1 h2)⟩
    · exact hf.elim, fun X hc _ => (call_min2 hc).or (cr_min hc)⟩
theorem b_max : BR "max" fMax := ⟨fun _ _ K xs H Q => (∃ i j, xs = [.int i, .int j] ∧ Q (.int (if j > i then j else i)) H) ∨ rMax K xs H Q, fun _ _ K F H vs ds Q R fh hr hf ha => by
    unfold fMax at hf
    split at hf
    · obtain ⟨v, u, rfl, r1, r2⟩ := hr.two
      exact .inl ⟨_, _, by rw [r1.int, r2.int], ha.int fh hf⟩
    · obtain ⟨v, rfl, r⟩ := hr.one
      obtain ⟨ns, rfl, ne, q⟩ := hf
      obtain ⟨a, vs, rfl, e1, r1⟩ := r.lst fh
      have z := r1.ints
      subst z
      exact .inr ⟨a, ns, rfl, SqL.of e1, List.length_pos_iff.mpr ne, fun m h1 h2 => ha.int fh (q m h1 h2)⟩
    · exact hf.elim, fun X hc _ => (call_max2 hc).or (cr_max hc)⟩
/-! ### sum, all, any, sorted -/
def fSum : List D → (Sl → Prop) → Prop
  | [.lst ds], Q => ∃ ns : List Int, ds = ns.map D.int ∧ Q (.ext (.int ns.sum))
  | _, _ => False
theorem b_sum : BR "sum" fSum := ⟨fun _ _ K => rSum K, fun _ _ K F H vs ds Q R fh hr hf ha => by
    unfold fSum at hf
    split at hf
    · obtain ⟨v, rfl, r⟩ := hr.one
      obtain ⟨ns, rfl, q⟩ := hf
      obtain ⟨a, vs, rfl, e1, r1⟩ := r.lst fh
      have z := r1.ints
      subst z
      exact ⟨a, ns, rfl, SqL.of e1, ha.int fh q⟩
    · exact hf.elim, fun X hc _ => cr_sum hc⟩
def fAll : List D → (Sl → Prop) → Prop
  | [.lst ds], Q => ∃ bs : List Bool, ds = bs.map D.bl ∧ Q (.ext (.bl (bs.all id)))
  | _, _ => False
def fAny : List D → (Sl → Prop) → Prop
  | [.lst ds], Q => ∃ bs : List Bool, ds = bs.map D.bl ∧ Q (.ext (.bl (bs.any id)))
  | _, _ => False
theorem b_all : BR "all" fAll := ⟨fun _ _ K => rAll K, fun _ _ K F H vs ds Q R fh hr hf ha => by
    unfold fAll at hf
    split at hf
    · obtain ⟨v, rfl, r⟩ := hr.one
      obtain ⟨ns, rfl, q⟩ := hf
      obtain ⟨a, vs, rfl, e1, r1⟩ := r.lst fh
      have z := r1.bls
      subst z
      exact ⟨a, ns, rfl, SqL.of e1, ha.bl fh q⟩
    · exact hf.elim, fun X hc _ => cr_all hc⟩
theorem b_any : BR "any" fAny := ⟨fun _ _ K => rAny K, fun _ _ K F H vs ds Q R fh hr hf ha => by
    unfold fAny at hf
    split at hf
    · obtain ⟨v, rfl, r⟩ := hr.one
      obtain ⟨ns, rfl, q⟩ := hf
      obtain ⟨a, vs, rfl, e1, r1⟩ := r.lst fh
      have z := r1.bls
      subst z
      exact ⟨a, ns, rfl, SqL.of e1, ha.bl fh q⟩
    · exact hf.elim, fun X hc _ => cr_any hc⟩
def fSorted : List D → (Sl → Prop) → Prop
  | [.lst ds], Q => ∃ ns : List Int, ds = ns.map D.int ∧ ∀ (ns' : List Int) (a : Addr), ns'.Perm ns → ns'.Pairwise (· ≤ ·) → Q (.lst a (ns'.map D.int))
  | _, _ => False
theorem b_sorted : BR "sorted" fSorted := ⟨fun _ _ K => rSortedI K, fun _ _ K F H vs ds Q R fh hr hf ha => by
    unfold fSorted at hf
    split at hf
    · obtain ⟨v, rfl, r⟩ := hr.one
      obtain ⟨ns, rfl, q⟩ := hf
      obtain ⟨a, vs, rfl, e1, r1⟩ := r.lst fh
      have z := r1.ints
      subst z
      exact ⟨a, ns, rfl, SqL.of e1, fun ns' p h1 h2 n => ha.lst fh n (Reps.of_ints ns') (q ns' p h1 h2)⟩
    · exact hf.elim, fun X _ _ => cr_sortedI⟩
/-! ### tuple, list -/
def fTuple : List D → (Sl → Prop) → Prop
  | [.lst ds], Q => Q (.ext (.tup ds))
  | [.tup ds], Q => Q (.ext (.tup ds))
  | _, _ => False
theorem t_tuple : TR "tuple" fTuple := ⟨fun _ _ K xs H Q => ∃ p ys, xs = [.ref p] ∧ ((SqL K H p ys ∧ newT H ys Q) ∨ (SqT K H p ys ∧ Q (.ref p) H)), fun _ _ K F H vs ds Q R fh hr hf ha => by
    unfold fTuple at hf
    split at hf
    · obtain ⟨v, rfl, r⟩ := hr.one
      obtain ⟨a, vs, rfl, e1, r1⟩ := r.lst fh
      exact ⟨a, vs, rfl, .inl ⟨SqL.of e1, ha.tup fh r1 hf⟩⟩
    · obtain ⟨v, rfl, r⟩ := hr.one
      obtain ⟨a, vs, rfl, e1, e2, r1⟩ := r.tup fh
      exact ⟨a, vs, rfl, .inr ⟨e1, ha.ext (d := .tup _) fh ⟨a, vs, rfl, e2, r1⟩ hf⟩⟩
    · exact hf.elim, fun X _ _ => call_tupleF⟩
def fList : List D → (Sl → Prop) → Prop
  | [.lst ds], Q => ∀ a, Q (.lst a ds)
  | [.tup ds], Q => ∀ a, Q (.lst a ds)
  | [.fz ds], Q => ∀ a, Q (.lst a ds)
  | _, _ => False
theorem t_list : TR "list" fList := ⟨fun _ _ K xs H Q => ∃ p ys, xs = [.ref p] ∧ (SqL K H p ys ∨ SqT K H p ys) ∧ ∀ l, H l = none → Q (.ref l) (upd H l (.lst ys)), fun _ _ K F H vs ds Q R fh hr hf ha => by
    unfold fList at hf
    split at hf
    · obtain ⟨v, rfl, r⟩ := hr.one
      obtain ⟨a, vs, rfl, e1, r1⟩ := r.lst fh
      exact ⟨a, vs, rfl, .inl (SqL.of e1), fun l n => ha.lst fh n r1 (hf l)⟩
    · obtain ⟨v, rfl, r⟩ := hr.one
      obtain ⟨a, vs, rfl, e1, e2, r1⟩ := r.tup fh
      exact ⟨a, vs, rfl, .inr e1, fun l n => ha.lst fh n r1 (hf l)⟩
    · obtain ⟨v, rfl, r⟩ := hr.one
      obtain ⟨a, vs, rfl, e1, r1⟩ := r.fz fh
      exact ⟨a, vs, rfl, .inl e1, fun l n => ha.lst fh n r1 (hf l)⟩
    · exact hf.elim, fun X _ _ => call_list_of⟩
/-! ### isinstance -/
def D.ty : D → String
  | .non => "NoneType"
  | .bl _ => "bool"
  | .int _ => "int"
  | .str _ => "str"
  | .lst _ => "list"
  | .fz _ => "list"
  | .tup _ => "tuple"
  | .tk _ => "tuple"
  | .val _ => "?"
  | .exc _ => "?"
  | .glo _ => "?"
theorem tyX_of {K : PySem.W.Frag} {H : Hp} {d : D} {v : V} (n : d.noVal = true) (h : Rep K H d v) : TyX K H v (.type d.ty) ∨ ∃ ds, d = .fz ds := by
  cases d with
  | non =>
    have e : v = .non := h
    rw [e]
    exact .inl (.base .non)
  | bl b =>
    have e : v = .bl b := h
    rw [e]
    exact .inl (.base (.bl b))
  | int b =>
    have e : v = .int b := h
    rw [e]
    exact .inl (.base (.int b))
  | str b =>
    have e : v = .str b := h
    rw [e]
    exact .inl (.base (.str b))
  | val u => cases n
  | exc c => cases n
  | glo c => cases n
  | fz ds => exact .inr ⟨ds, rfl⟩
  | lst ds =>
    obtain ⟨a, xs, rfl, hs, _⟩ := h
    exact .inl (.base (.lst hs))
  | tup ds =>
    obtain ⟨a, xs, rfl, hs, _⟩ := h
    left
    rcases hs.sq with (hs | ⟨o, hs⟩) | ⟨o, its, m, hs, hc, _⟩
    · exact .base (.tup hs)
    · exact .fTuple hs
    · exact .kTuple hs hc
  | tk ds =>
    obtain ⟨a, xs, rfl, hs, _⟩ := h
    left
    rcases hs with (hs | ⟨o, hs⟩) | ⟨o, its, m, hs, hc, _⟩
    · exact .base (.tup hs)
    · exact .fTuple hs
    · exact .kTuple hs hc
theorem tyX_T {K : PySem.W.Frag} {F H : Hp} {d : D} {v : V} (fh : Same F H) (n : d.noVal = true) (h : RepT K F H d v) (nf : ∀ ds, d ≠ .fz ds) : TyX K H v (.type d.ty) := by
  rcases tyX_of n (h.rep fh) with z | ⟨ds, z⟩
  · exact z
  · exact absurd z (nf ds)
def rIsiS (K : PySem.W.Frag) : List V → Hp → VK → Prop := fun xs H Q => ∃ (x : V) (tp : Addr) (cs : List V) (t : Value) (us : List Value) (b : Bool), xs = [x, .ref tp] ∧ SqT K H tp cs ∧ Paired ClsV cs us ∧ TyX K H x t ∧ PySem.W.kitAny K t us = some b ∧ Q (.bl b) H
theorem call_isiS {X : Cx} : CallR X (.builtin "isinstance") (rIsiS X.K) := by
  intro pins s σ H xs us Q I r h
  obtain ⟨x, tp, cs, t, ws, b, rfl, hT, k, ty, e, q⟩ := h
  obtain ⟨u1, u2, rfl, r1, r2⟩ := vals2 r
  cases (show u2 = Value.ref tp from r2)
  obtain ⟨P, Z, p, hx⟩ := kit_of I r1 ty
  obtain ⟨its, rv, ⟨o, h1, h2, n, h3⟩, _⟩ := I.tuple hT
  have e3 := ClsV.all k rv
  subst e3
  obtain ⟨oc, od, dt, sl⟩ := o
  simp only at h2 h3
  subst h2 h3
  exact PySem.W.kia_tup Z I.kIn p h1 e hx fun tk => ⟨.bl b, H, I.tok tk, rfl, q⟩
def D.isFz : D → Bool
  | .fz _ => true
  | _ => false
def fIsi : List D → (Sl → Prop) → Prop
  | [d, .val (.ty T)], Q => d.noVal = true ∧ d.isFz = false ∧ ∃ b, kitB d.ty T = some b ∧ Q (.ext (.bl b))
  | [d, .tup [.val (.ty T), .val (.ty U)]], Q => d.noVal = true ∧ d.isFz = false ∧ ∃ b c, kitB d.ty T = some b ∧ kitB d.ty U = some c ∧ Q (.ext (.bl (b || c)))
  | _, _ => False
theorem b_isi : BR "isinstance" fIsi := ⟨fun _ _ K xs H Q => rIsi K xs H Q ∨ rIsiS K xs H Q, fun _ _ K F H vs ds Q R fh hr hf ha => by
    unfold fIsi at hf
    split at hf
    · rename_i d T
      obtain ⟨v, u, rfl, r1, r2⟩ := hr.two
      obtain ⟨n, nf, b, hb, q⟩ := hf
      rw [r2.val]
      exact .inl ⟨v, _, _, _, b, rfl, .ty T, tyX_T fh n r1 (fun ds z => by subst z; cases nf), kit_ty hb, ha.bl fh q⟩
    · rename_i d T U
      obtain ⟨v, u, rfl, r1, r2⟩ := hr.two
      obtain ⟨n, nf, b, c, hb, hc, q⟩ := hf
      obtain ⟨a, vs, rfl, e1, _, rr⟩ := r2.tup fh
      obtain ⟨v1, w1, rfl, h1, h2⟩ := rr
      obtain ⟨v2, w2, rfl, h3, h4⟩ := h2
      have z1 : v1 = .ty T := h1
      have z2 : v2 = .ty U := h3
      have z3 : w2 = [] := h4
      subst z1 z2 z3
      refine .inr ⟨v, a, _, _, [.type T, .type U], (b || c), rfl, e1, .cons (.ty T) (.cons (.ty U) .nil), tyX_T fh n r1 (fun ds z => by subst z; cases nf), ?_, ha.bl fh q⟩
      cases b with
      | true => exact kitAny_cons (kit_ty hb) (fun z => nomatch z) (fun _ => rfl)
      | false => exact kitAny_cons (kit_ty hb) (fun _ => kitAny_cons (kit_ty hc) (fun z => by subst z; exact kitAny_nil) (fun z => by subst z; rfl)) (fun z => nomatch z)
    · exact hf.elim, fun X _ _ => call_isi.or call_isiS⟩
/-! ### str of an int -/
def fStr : List D → (Sl → Prop) → Prop
  | [.int i], Q => i.natAbs.log2 < 1920 ∧ Q (.ext (.str (toString i)))
  | _, _ => False
theorem t_str : TR "str" fStr := ⟨fun _ _ K xs H Q => ∃ i, xs = [.int i] ∧ i.natAbs.log2 < 1920 ∧ Q (.str (toString i)) H, fun _ _ K F H vs ds Q R fh hr hf ha => by
    unfold fStr at hf
    split at hf
    · obtain ⟨v, rfl, r⟩ := hr.one
      exact ⟨_, by rw [r.int], hf.1, ha.str fh hf.2⟩
    · exact hf.elim, fun X _ _ => call_str_int⟩
/-! ### list(range(..)), tuple(range(..)) -/
section
variable {G : GG} {N : List Str} {sc : SC} {k : Nat} {a b : Expr} {ta tb : DT} {p p2 pos pos2 : Pos}
structure DRg (G : GG) (N : List Str) (sc : SC) (k : Nat) (e : Expr) (t : DX → Env' → (Int → Int → Env' → Prop) → Prop) : Prop where
  ex : ∀ W : WX, ∃ te, (∀ X, Sit G N sc W k X → PRg X e te) ∧ ∀ (e : Ent) (Ex : DX), Link G.K e W Ex → ∀ (env : Env') (T : Tmp) (F : Hp) (σ : L2.St) (H : Hp) (Q : Int → Int → Env' → Prop) (R : Int → Int → Hp → Prop),
    Holds G.K e env T F σ H → t Ex env Q → (∀ i j H' F' env', Holds G.K e env' T F' σ H' → Q i j env' → R i j H') → te σ H R
def dRg1 (t : DT) : DX → Env' → (Int → Int → Env' → Prop) → Prop := fun Ex env Q => t Ex env fun x env1 => match x with
  | .ext (.int n) => Q 0 n env1
  | _ => False
def dRg2 (t u : DT) : DX → Env' → (Int → Int → Env' → Prop) → Prop := fun Ex env Q => t Ex env fun x env1 => u Ex env1 fun y env2 => match x, y with
  | .ext (.int n), .ext (.int m) => Q n m env2
  | _, _ => False
theorem drg_1 (h : DE G N sc k a ta) (hm : G.mg "range" = none) (hg : GlS sc "range" := by rfl) (na : NoStar a [] := by intro _; rfl) : DRg G N sc k (.Call (.Name "range" p) [a] [] pos) (dRg1 ta) := ⟨fun W => by
  obtain ⟨te, p1, i1⟩ := h.ex W
  refine ⟨tRg1 te, fun X S => prg_1 (S.gl hg) (by rw [S.mg]; exact hm) (p1 X S) (na _), fun e Ex hl env T F σ H Q R hh ht hR => ?_⟩
  refine i1 e Ex hl env T F σ H _ _ hh ht fun v H1 F1 env1 x hh1 q1 => ?_
  cases x with
  | ext d =>
    cases d with
    | int n => exact ⟨n, hh1.temps (v, .ext (.int n)) List.mem_cons_self, hR 0 n H1 F1 env1 hh1.pop q1⟩
    | _ => exact q1.elim
  | _ => exact q1.elim⟩
theorem drg_2 (h : DE G N sc k a ta) (h2 : DE G N sc k b tb) (hm : G.mg "range" = none) (hg : GlS sc "range" := by rfl) (na : NoStar a [b] := by intro _; rfl) (nb : NoStar b [] := by intro _; rfl) (hp : ∀ env, (backTo pos (starEach [b] env)).any (·.1) = false := by intro _; rfl) : DRg G N sc k (.Call (.Name "range" p) [a, b] [] pos) (dRg2 ta tb) := ⟨fun W => by
  obtain ⟨te, p1, i1⟩ := h.ex W
  obtain ⟨tf, p2, i2⟩ := h2.ex W
  refine ⟨tRg2 te tf, fun X S => prg_2 (S.gl hg) (by rw [S.mg]; exact hm) (p1 X S) (p2 X S) (na _) (nb _) (hp _), fun e Ex hl env T F σ H Q R hh ht hR => ?_⟩
  refine i1 e Ex hl env T F σ H _ _ hh ht fun v H1 F1 env1 x hh1 q1 => ?_
  refine i2 e Ex hl env1 _ F1 σ H1 _ _ hh1 q1 fun u H2 F2 env2 y hh2 q2 => ?_
  split at q2
  · rename_i n m
    exact ⟨n, m, hh2.temps (v, .ext (.int n)) (List.mem_cons_of_mem _ List.mem_cons_self), hh2.temps (u, .ext (.int m)) List.mem_cons_self, hR n m H2 F2 env2 hh2.pop.pop q2⟩
  · exact q2.elim⟩
theorem Reps.rg {K : PySem.W.Frag} {F : Hp} (lo hi : Int) : Reps K F (rgD lo hi) (rgV lo hi) := by
  unfold rgD rgV
  refine Reps.of_get (by rw [List.length_map, List.length_map]) fun i d v h1 h2 => ?_
  rw [List.getElem?_map] at h1 h2
  cases e : (List.range (hi - lo).toNat)[i]? with
  | none =>
    rw [e] at h1
    cases h1
  | some j =>
    rw [e] at h1 h2
    cases h1
    cases h2
    exact rfl
def dLstRg (t : DX → Env' → (Int → Int → Env' → Prop) → Prop) : DT := fun Ex env Q => t Ex env fun lo hi env1 => RgOk lo hi ∧ ∀ a, Q (.lst a (rgD lo hi)) env1
def dTupRg (t : DX → Env' → (Int → Int → Env' → Prop) → Prop) : DT := fun Ex env Q => t Ex env fun lo hi env1 => RgOk lo hi ∧ Q (.ext (.tup (rgD lo hi))) env1
theorem de_listRg {e : Expr} {t : DX → Env' → (Int → Int → Env' → Prop) → Prop} (h : DRg G N sc k e t) (hm : G.mg "list" = none) (hg : GlS sc "list" := by rfl) (na : NoStar e [] := by intro _; rfl) : DE G N sc k (.Call (.Name "list" p) [e] [] pos) (dLstRg t) := ⟨fun W => by
  obtain ⟨te, p1, i1⟩ := h.ex W
  refine ⟨tLstRg te, fun X S => pe_listRg S.calm (S.gl hg) (by rw [S.mg]; exact hm) (p1 X S) (na _), fun e Ex hl env T F σ H Q R hh ht hR => ?_⟩
  refine i1 e Ex hl env T F σ H _ _ hh ht fun lo hi H1 F1 env1 hh1 q1 => ⟨q1.1, fun q n => ?_⟩
  exact (hh1.done hR).lst hh1.fh n (Reps.rg lo hi) (q1.2 q)⟩
theorem de_tupRg {e : Expr} {t : DX → Env' → (Int → Int → Env' → Prop) → Prop} (h : DRg G N sc k e t) (hm : G.mg "tuple" = none) (hg : GlS sc "tuple" := by rfl) (na : NoStar e [] := by intro _; rfl) : DE G N sc k (.Call (.Name "tuple" p) [e] [] pos) (dTupRg t) := ⟨fun W => by
  obtain ⟨te, p1, i1⟩ := h.ex W
  refine ⟨tTupRgF te, fun X S => pe_tupRgF S.calm (S.gl hg) (by rw [S.mg]; exact hm) (p1 X S) (na _), fun e Ex hl env T F σ H Q R hh ht hR => ?_⟩
  refine i1 e Ex hl env T F σ H _ _ hh ht fun lo hi H1 F1 env1 hh1 q1 => ⟨q1.1, ?_⟩
  exact (hh1.done hR).tup hh1.fh (Reps.rg lo hi) q1.2⟩
end
end HD

/-! HD9: methods of lists and tuples, sets of ints, written dicts, over data. -/
namespace HD
open PySem PyProof.Rows L2

section
variable {X : Cx} {o e : Expr} {es : List Expr} {to : TE} {t : TA} {name : Str} {apos cpos : Pos}
/-- what a method's call asks of the written text -/
abbrev FewArgs (o : Expr) (name : Str) (e : Expr) (es : List Expr) (cpos : Pos) : Prop := ∀ env, attributeBase o name env (eval o env) = eval o env ∧
  ((backTo cpos (starEach (e :: es) env)).all (fun x => !x.1) && (backToKw cpos (keywordEach [] env)).all (fun x => x.1.isSome) && decide ((e :: es).length + ([] : List Keyword).length + (if ([] : List Keyword).isEmpty then 0 else 1) < 30)) = true ∧
  starEach (e :: es) env = (false, eval e env) :: starEach es env ∧ (backTo cpos (starEach es env)).any (·.1) = false
/-- o.index(e) of a tuple or a list -/
def tIndex (K : PySem.W.Frag) (rT rL : V → List V → Hp → VK → Prop) (to : TE) (t : TA) : TE := fun σ H Q => to σ H fun x H1 => ((∃ p xs, x = .ref p ∧ TupD K H1 p xs) ∧ t σ H1 fun xs H2 => rT x xs H2 Q) ∨ ((∃ p xs, x = .ref p ∧ SqL K H1 p xs) ∧ t σ H1 fun xs H2 => rL x xs H2 Q)
theorem pe_bmX {idT idL : String} {rT rL : V → List V → Hp → VK → Prop} (sT : Slot "tuple" name idT) (sL : Slot "list" name idL) (tyT : typeOf (.builtin idT) = pure (.type "method_descriptor")) (tyL : typeOf (.builtin idL) = pure (.type "method_descriptor")) (mT : MtR X idT rT) (mL : MtR X idL rL)
    (ho : PE X o to) (ha : PA X (e :: es) t) (hw : FewArgs o name e es cpos) (hline : (apos.endLine == cpos.line) = true) : PE X (.Call (.Attribute o name apos) (e :: es) [] cpos) (tIndex X.K rT rL to t) := by
  obtain ⟨hbase, hfew, hs, hplain⟩ := hw X.env
  refine ⟨fun pins s σ H Q I h => ?_⟩
  refine wpAny_Call_method_late hbase hfew hline rfl (thn (ho.run pins s σ H _ I h) fun v s1 ⟨x, H1, I1, r1, q1⟩ => ?_)
  rcases q1 with ⟨⟨p, xs, rfl, hT⟩, q1⟩ | ⟨⟨p, xs, rfl, hL⟩, q1⟩
  · obtain ⟨its, _, pt, _⟩ := I1.tuple hT.sq
    cases r1
    refine ⟨"tuple", idT, PySem.F.plainAttrs_tuple, sT, tyT, pt.typeIs, fun a ea => ?_, ?_⟩
    · cases ea
      exact hT.noDict I1
    · have hA := ha.run cpos pins s1 σ H1 _ I1 q1
      rw [hs] at hA ⊢
      refine Calls.callWith_builtin (by show (false || (backTo cpos (starEach es X.env)).any (·.1)) = false; rw [hplain] <;> rfl) (Calls.evalArgs_plain ?_)
      exact thn hA fun us s2 ⟨vs, H2, I2, r2, q2⟩ => mT pins s2 σ H2 (.ref p) vs _ us Q I2 rfl r2 q2
  · have ty : tyV X.K "list" (.ref p) H1 := .inl ⟨rfl, xs, hL⟩
    obtain ⟨h1, h2⟩ := tyV_is I1 r1 ty
    refine ⟨"list", idL, PySem.F.plainAttrs_list, sL, tyL, h1, h2, ?_⟩
    have hA := ha.run cpos pins s1 σ H1 _ I1 q1
    rw [hs] at hA ⊢
    refine Calls.callWith_builtin (by show (false || (backTo cpos (starEach es X.env)).any (·.1)) = false; rw [hplain] <;> rfl) (Calls.evalArgs_plain ?_)
    exact thn hA fun us s2 ⟨vs, H2, I2, r2, q2⟩ => mL pins s2 σ H2 _ vs _ us Q I2 r1 r2 q2
/-- t.index(x), flat things -/
def rIndexT (K : PySem.W.Frag) : V → List V → Hp → VK → Prop := fun x xs H Q => ∃ (a : Addr) (ys : List V) (y : V) (j : Nat) (z : V), x = V.ref a ∧ xs = [y] ∧ SqT K H a ys ∧ flatV y = true ∧ ys.all flatV = true ∧ ys[j]? = some z ∧ eqV z y = true ∧
  (∀ m z', m < j → ys[m]? = some z' → eqV z' y = false) ∧ Q (.int (j : Nat)) H
theorem mt_indexT : MtR X "tuple.index" (rIndexT X.K) := by
  intro pins s σ H x xs v us Q I rx rs h
  obtain ⟨p, ys, y, j, z, rfl, rfl, hq, fy, fys, hz, hit, hno, q⟩ := h
  cases rx
  obtain ⟨u, rfl, ru⟩ := vals1 rs
  obtain ⟨its, r, pl, _⟩ := I.tuple hq
  obtain ⟨⟨cls, dd, dt, sl⟩, ho, hc, n, hd⟩ := pl
  simp only at hc hd
  subst hc
  subst hd
  have hl : its.toArray.size = ys.length := by rw [List.size_toArray, ← r.length]
  have hj : j < its.toArray.size := by rw [hl]; exact (List.getElem?_eq_some_iff.mp hz).1
  have key : ∀ (m : Nat) (hm : m < its.toArray.size) (w : V), ys[m]? = some w → eqU y its.toArray[m] = eqV w y := fun m hm w hw => by
    obtain ⟨iv, hiv, riv⟩ := r.get hw
    have e : its.toArray[m] = iv := by
      have e2 := (List.getElem?_eq_some_iff.mp hiv).2
      rw [← e2]
      simp
    rw [e]
    exact eqU_of riv (List.all_eq_true.mp fys w (List.mem_of_getElem? hw))
  refine call_meets PySem.F.slot_tuple_index ⟨_, ho, rfl⟩ PySem.F.entry_tuple_index (PySem.F.args_tuple_index_2 _ _) (TI.tuple_indexAt p its.toArray n dd sl u (eqU y) j hj ?_ ?_)
    ⟨ho, fun w hw => mem_eqAt ru fy r fys w (by simpa using hw), ⟨.int (j : Nat), H, I.tok _, ⟨_, rfl⟩, q⟩⟩
  · rw [key j hj z hz]
    exact hit
  · intro m hm hmj
    have hm' : m < ys.length := by rw [← hl]; exact hm
    rw [key m hm ys[m] (List.getElem?_eq_getElem hm')]
    exact hno m _ hmj (List.getElem?_eq_getElem hm')
end
/-- the first place of a thing -/
def D.at? (d : D) (ds : List D) : Option Nat := ds.findIdx? fun z => eqV z.toV d.toV
def D.isSq : D → Bool
  | .tup _ => true
  | .lst _ => true
  | _ => false
def fIdx (d d' : D) (q : Sl → Prop) : Prop := match d with
  | .tup ds => d'.flat = true ∧ ds.all D.flat = true ∧ ∃ j, d'.at? ds = some j ∧ q (.ext (.int (j : Nat)))
  | .lst ds => d'.flat = true ∧ ds.all D.flat = true ∧ ∃ j, d'.at? ds = some j ∧ q (.ext (.int (j : Nat)))
  | _ => False
def dIndex (to ta : DT) : DT := fun Ex env Q => to Ex env fun x env1 => wd env1 x (fun d => d.isSq = true) ∧ ta Ex env1 fun y env2 => wd env2 x fun d => wd env2 y fun d' => fIdx d d' fun sl => Q sl env2
theorem at?_spec {K : PySem.W.Frag} {F : Hp} {d : D} {ds : List D} {vs : List V} {j : Nat} (r : Reps K F ds vs) (fd : d.flat = true) (fs : ds.all D.flat = true) (h : d.at? ds = some j) :
    flatV d.toV = true ∧ vs.all flatV = true ∧ ∃ z, vs[j]? = some z ∧ eqV z d.toV = true ∧ ∀ m z', m < j → vs[m]? = some z' → eqV z' d.toV = false := by
  obtain ⟨e1, e2⟩ := flat_reps r fs
  unfold D.at? at h
  obtain ⟨hj, h1, h2⟩ := List.findIdx?_eq_some_iff_getElem.mp h
  have fv : flatV d.toV = true := by
    cases d <;> first
      | rfl
      | exact nomatch fd
  refine ⟨fv, e2, ds[j].toV, ?_, h1, fun m z' hm hz => ?_⟩
  · rw [e1, List.getElem?_map, List.getElem?_eq_getElem hj]
    rfl
  · rw [e1, List.getElem?_map] at hz
    have hm' : m < ds.length := Nat.lt_trans hm hj
    rw [List.getElem?_eq_getElem hm'] at hz
    cases hz
    have z := h2 m hm
    simpa using z
section
variable {G : GG} {N : List Str} {sc : SC} {k : Nat} {a b : Expr} {ta tb : DT} {apos cpos p p2 pos pos2 : Pos}
theorem de_index (ha : DE G N sc k a ta) (hb : DE G N sc k b tb) (hw : FewArgs a "index" b [] cpos := by intro _; exact ⟨rfl, rfl, rfl, rfl⟩) (hline : (apos.endLine == cpos.line) = true := by rfl) : DE G N sc k (.Call (.Attribute a "index" apos) [b] [] cpos) (dIndex ta tb) := ⟨fun W => by
  obtain ⟨te, p1, i1⟩ := ha.ex W
  obtain ⟨tf, p2, i2⟩ := hb.ex W
  refine ⟨tIndex G.K (rIndexT G.K) (rIndex G.K) te (tCons tf tNil), fun X S => ?_, fun e Ex hl env T F σ H Q R hh ht hR => ?_⟩
  · rw [← S.K]
    exact pe_bmX PySem.F.slot_tuple_index PySem.F.slot_list_index PySem.F.type_tuple_index PySem.F.type_list_index mt_indexT mt_index (p1 X S) (pa_cons (p2 X S) pa_nil (hw X.env).2.2.1) hw hline
  · refine i1 e Ex hl env T F σ H _ _ hh ht fun v H1 F1 env1 x hh1 q1 => ?_
    obtain ⟨q0, q1⟩ := q1
    obtain ⟨d0, rd0, _⟩ := hh1.wd (v := v) (sl := x) List.mem_cons_self q0
    have finT : ∀ (u : V) (H2 F2 : Hp) (env2 : Env') (y : Sl) (ds : List D), Holds G.K e env2 ((u, y) :: (v, x) :: T) F2 σ H2 → RepT G.K F2 H2 (.tup ds) v → (HD.wd env2 y fun d' => fIdx (.tup ds) d' fun sl => Q sl env2) → rIndexT G.K v [u] H2 R := fun u H2 F2 env2 y ds hh2 rd q3 => by
      obtain ⟨d', rd', f1, f2, j, hj, q5⟩ := hh2.wd (v := u) (sl := y) List.mem_cons_self q3
      obtain ⟨c, vs, rfl, e1, _, r1⟩ := rd.tup hh2.fh
      obtain ⟨x1, _⟩ := flat_rep (rd'.rep hh2.fh) f1
      obtain ⟨g1, g2, z, g3, g4, g5⟩ := at?_spec r1 f1 f2 hj
      rw [x1]
      exact ⟨c, vs, _, j, z, rfl, rfl, e1, g1, g2, g3, g4, g5, (hh2.pop.pop.done hR).int hh2.fh q5⟩
    have finL : ∀ (u : V) (H2 F2 : Hp) (env2 : Env') (y : Sl) (ds : List D), Holds G.K e env2 ((u, y) :: (v, x) :: T) F2 σ H2 → RepT G.K F2 H2 (.lst ds) v → (HD.wd env2 y fun d' => fIdx (.lst ds) d' fun sl => Q sl env2) → rIndex G.K v [u] H2 R := fun u H2 F2 env2 y ds hh2 rd q3 => by
      obtain ⟨d', rd', f1, f2, j, hj, q5⟩ := hh2.wd (v := u) (sl := y) List.mem_cons_self q3
      obtain ⟨c, vs, rfl, e1, r1⟩ := rd.lst hh2.fh
      obtain ⟨x1, _⟩ := flat_rep (rd'.rep hh2.fh) f1
      obtain ⟨g1, g2, z, g3, g4, g5⟩ := at?_spec r1 f1 f2 hj
      rw [x1]
      exact ⟨c, vs, _, j, z, rfl, rfl, SqL.of e1, g1, g2, g3, g4, g5, (hh2.pop.pop.done hR).int hh2.fh q5⟩
    have never : ∀ (d : D), (∀ ds, d ≠ .tup ds) → (∀ ds, d ≠ .lst ds) → ∀ d' (q : Sl → Prop), ¬ fIdx d d' q := fun d h1 h2 d' q z => by
      cases d <;> first
        | exact h1 _ rfl
        | exact h2 _ rfl
        | exact z
    cases x with
    | un => exact q0.elim
    | ext d =>
      have rd : Rep G.K F1 d v := hh1.temps (v, .ext d) List.mem_cons_self
      by_cases ht : ∃ ds, d = .tup ds
      · obtain ⟨ds, rfl⟩ := ht
        obtain ⟨c, vs, rfl, e2, _⟩ := rd
        refine .inl ⟨⟨c, vs, rfl, TupD.same hh1.fh e2⟩, ?_⟩
        exact i2 e Ex hl env1 _ F1 σ H1 _ _ hh1 q1 fun u H2 F2 env2 y hh2 q2 => finT u H2 F2 env2 y ds hh2 (.inl (hh2.temps (_, .ext (.tup ds)) (List.mem_cons_of_mem _ List.mem_cons_self))) q2
      · by_cases hl' : ∃ ds, d = .lst ds
        · obtain ⟨ds, rfl⟩ := hl'
          obtain ⟨c, vs, rfl, e2, _⟩ := rd
          refine .inr ⟨⟨c, vs, rfl, SqL.of (hh1.fh _ _ e2)⟩, ?_⟩
          exact i2 e Ex hl env1 _ F1 σ H1 _ _ hh1 q1 fun u H2 F2 env2 y hh2 q2 => finL u H2 F2 env2 y ds hh2 (.inl (hh2.temps (_, .ext (.lst ds)) (List.mem_cons_of_mem _ List.mem_cons_self))) q2
        · have q0' : d.isSq = true := q0
          cases d <;> first
            | exact absurd ⟨_, rfl⟩ ht
            | exact absurd ⟨_, rfl⟩ hl'
            | exact nomatch q0'
    | lst b ds =>
      obtain ⟨rfl, _, vs, hv, _⟩ := hh1.temps (v, .lst b ds) List.mem_cons_self
      refine .inr ⟨⟨b, vs, rfl, SqL.of hv⟩, ?_⟩
      refine i2 e Ex hl env1 _ F1 σ H1 _ _ hh1 q1 fun u H2 F2 env2 y hh2 q2 => ?_
      obtain ⟨_, _, us, hu, hr⟩ := hh2.temps (V.ref b, .lst b ds) (List.mem_cons_of_mem _ List.mem_cons_self)
      exact finL u H2 F2 env2 y ds hh2 (.inr ⟨b, ds, us, rfl, rfl, hu, hr⟩) q2
    | reg _ _ => exact q0.elim
    | al i b =>
      obtain rfl : v = .ref b := hh1.temps (v, .al i b) List.mem_cons_self
      have q0' : (match env1[i]? with | some (.lst c ds) => c = b ∧ (D.lst ds).isSq = true | _ => False) := q0
      split at q0'
      · rename_i c ds0 hc
        obtain ⟨rfl, _⟩ := q0'
        rcases hh1.slots i _ hc with z | ⟨_, _, _, _, vs, hv, _⟩
        · cases z
        · refine .inr ⟨⟨c, vs, rfl, SqL.of hv⟩, ?_⟩
          refine i2 e Ex hl env1 _ F1 σ H1 _ _ hh1 q1 fun u H2 F2 env2 y hh2 q2 => ?_
          have w' : (match env2[i]? with | some (.lst c' ds) => c' = c ∧ HD.wd env2 y (fun d' => fIdx (.lst ds) d' fun sl => Q sl env2) | _ => False) := q2
          split at w'
          · rename_i c' ds hc'
            obtain ⟨rfl, w'⟩ := w'
            rcases hh2.slots i _ hc' with z | ⟨_, _, _, _, us, hu, hr⟩
            · cases z
            · exact finL u H2 F2 env2 y ds hh2 (.inr ⟨c', ds, us, rfl, rfl, hu, hr⟩) w'
          · exact w'.elim
      · exact q0'.elim⟩
end
end HD

/-! HD10: changes of a slot's list; sets of ints; a written dict asked. -/
namespace HD
open PySem PyProof.Rows L2

/-- slot i's list, changed: f gets its items, hands on a result and the new items -/
abbrev DMut := List D → (D → List D → Prop) → Prop
def mutD (env : Env') (i : Nat) (a : Addr) (f : DMut) (Q : Sl → Env' → Prop) : Prop := match env[i]? with
  | some (.lst b ds) => b = a ∧ f ds fun d ds' => Q (.ext d) (env.set i (.lst a ds'))
  | _ => False
/-- the value rule changes the list at a alone -/
def PrM (K : PySem.W.Frag) (r : V → List V → Hp → VK → Prop) (vs : List V) (a : Addr) (F H : Hp) (ds : List D) (f : DMut) : Prop :=
  ∀ (q : D → List D → Prop) (R : VK), f ds q → (∀ v d us ds', Rep K F d v → Reps K F ds' us → q d ds' → R v (upd H a (.lst us))) → r (.ref a) vs H R
theorem Holds.mut {K : PySem.W.Frag} {e : Ent} {env : Env'} {T : Tmp} {F : Hp} {σ : L2.St} {H : Hp} {i : Nat} {a : Addr} {f : DMut} {Q : Sl → Env' → Prop} {R : VK} {r : V → List V → Hp → VK → Prop} {vs : List V} (h : Holds K e env T F σ H) (w : mutD env i a f Q)
    (hr : ∀ ds us, H a = some (.lst us) → Reps K F ds us → PrM K r vs a F H ds f) (hR : ∀ v H' F' env' sl, Holds K e env' ((v, sl) :: T) F' σ H' → Q sl env' → R v H') : r (.ref a) vs H R := by
  unfold mutD at w
  split at w
  · rename_i b ds hb
    obtain ⟨rfl, w⟩ := w
    rcases h.slots i _ hb with z | ⟨u, hu, e1, e2, us, hv, rr⟩
    · cases z
    · refine hr ds us hv rr _ R w fun v d us' ds' rd rs q => ?_
      exact hR v _ F _ (.ext d) ((h.write hb rs).pushE rd) q
  · exact w.elim
section
variable {G : GG} {N : List Str} {sc : SC} {k : Nat} {a b : Expr} {ta tb : DT} {apos cpos p p2 pos pos2 py : Pos} {x : Str}
abbrev VisV (N : List Str) (sc : SC) (i : Nat) (x : Str) : Prop := N[i]? = some x ∧ Vis sc.sc x ∧ (x == ("__debug__" : Str)) = false ∧ (x == ("__classdict__" : Str)) = false
/-- x.append(e) -/
def dAppend (i : Nat) (t : DT) : DT := fun Ex env Q => match env[i]? with
  | some (.lst a _) => t Ex env fun x env1 => frzD env1 x fun d env2 => mutD env2 i a (fun ds q => ds.length < sizeLine ∧ q .non (ds ++ [d])) Q
  | _ => False
theorem de_append (i : Nat) (hb : DE G N sc k b tb) (hw : FewArgs (.Name x py) "append" b [] cpos := by intro _; exact ⟨rfl, rfl, rfl, rfl⟩) (hv : VisV N sc i x := by exact ⟨rfl, by first | exact Or.inl rfl | exact Or.inr (Or.inl rfl) | exact Or.inr (Or.inr rfl), by decide, by decide⟩) (hline : (apos.endLine == cpos.line) = true := by rfl) :
    DE G N sc k (.Call (.Attribute (.Name x py) "append" apos) [b] [] cpos) (dAppend i tb) := ⟨fun W => by
  obtain ⟨tf, p2, i2⟩ := hb.ex W
  refine ⟨tBM G.K "list" rAppend (tVar i) (tCons tf tNil), fun X S => ?_, fun e Ex hl env T F σ H Q R hh ht hR => ?_⟩
  · obtain ⟨hbase, hfew, hs, hplain⟩ := hw X.env
    rw [← S.K]
    exact pe_bm PySem.F.plainAttrs_list PySem.F.slot_list_append PySem.F.type_list_append mt_append (pe_var (by rw [S.nms]; exact hv.1) (S.vis hv.2.1) hv.2.2.1 hv.2.2.2) (pa_cons (p2 X S) pa_nil hs) hbase hfew hline hs hplain
  · unfold dAppend at ht
    split at ht
    · rename_i c ds0 hc
      rcases hh.slots i _ hc with z | ⟨v0, hv0, e0, _, us0, hu0, _⟩
      · cases z
      · subst e0
        refine ⟨_, hv0, .inl ⟨rfl, us0, SqL.of hu0⟩, ?_⟩
        refine i2 e Ex hl env T F σ H _ _ hh ht fun u H2 F2 env2 y hh2 q2 => ?_
        obtain ⟨d, F3, env3, _, hh3, rd, q3⟩ := hh2.frz1 q2
        show rAppend (.ref c) [u] H2 R
        refine hh3.mut q3 (fun ds us hu rr q R' hf hk => ?_) hR
        obtain ⟨hz, hf⟩ := hf
        exact ⟨c, us, u, rfl, rfl, hu, by rw [← rr.length]; exact hz, hk .non .non _ _ rfl (rr.append (.one rd)) hf⟩
    · exact ht.elim⟩
/-- x.extend(e), e a list -/
def dExtend (i : Nat) (t : DT) : DT := fun Ex env Q => match env[i]? with
  | some (.lst a _) => t Ex env fun x env1 => wd env1 x fun d => match d with
    | .lst es => mutD env1 i a (fun ds q => ds.length + es.length ≤ sizeLine ∧ q .non (ds ++ es)) Q
    | _ => False
  | _ => False
theorem de_extend (i : Nat) (hb : DE G N sc k b tb) (hw : FewArgs (.Name x py) "extend" b [] cpos := by intro _; exact ⟨rfl, rfl, rfl, rfl⟩) (hv : VisV N sc i x := by exact ⟨rfl, by first | exact Or.inl rfl | exact Or.inr (Or.inl rfl) | exact Or.inr (Or.inr rfl), by decide, by decide⟩) (hline : (apos.endLine == cpos.line) = true := by rfl) :
    DE G N sc k (.Call (.Attribute (.Name x py) "extend" apos) [b] [] cpos) (dExtend i tb) := ⟨fun W => by
  obtain ⟨tf, p2, i2⟩ := hb.ex W
  refine ⟨tBM G.K "list" rExtend (tVar i) (tCons tf tNil), fun X S => ?_, fun e Ex hl env T F σ H Q R hh ht hR => ?_⟩
  · obtain ⟨hbase, hfew, hs, hplain⟩ := hw X.env
    rw [← S.K]
    exact pe_bm PySem.F.plainAttrs_list PySem.F.slot_list_extend PySem.F.type_list_extend mt_extend (pe_var (by rw [S.nms]; exact hv.1) (S.vis hv.2.1) hv.2.2.1 hv.2.2.2) (pa_cons (p2 X S) pa_nil hs) hbase hfew hline hs hplain
  · unfold dExtend at ht
    split at ht
    · rename_i c ds0 hc
      rcases hh.slots i _ hc with z | ⟨v0, hv0, e0, _, us0, hu0, _⟩
      · cases z
      · subst e0
        refine ⟨_, hv0, .inl ⟨rfl, us0, SqL.of hu0⟩, ?_⟩
        refine i2 e Ex hl env T F σ H _ _ hh ht fun u H2 F2 env2 y hh2 q2 => ?_
        obtain ⟨d, rd, q3⟩ := hh2.wd (v := u) (sl := y) List.mem_cons_self q2
        cases d with
        | lst es =>
          obtain ⟨c2, us2, rfl, hu2, rr2⟩ := rd.lst hh2.fh
          show rExtend (.ref c) [.ref c2] H2 R
          refine hh2.pop.mut q3 (fun ds us hu rr q R' hf hk => ?_) hR
          obtain ⟨hz, hf⟩ := hf
          exact ⟨c, c2, us, us2, rfl, rfl, hu, hu2, by rw [← rr.length, ← rr2.length]; exact hz, hk .non .non _ _ rfl (rr.append rr2) hf⟩
        | _ => exact q3.elim
    · exact ht.elim⟩
/-- x.pop(e) -/
def dPopAt (i : Nat) (t : DT) : DT := fun Ex env Q => match env[i]? with
  | some (.lst a _) => t Ex env fun x env1 => match x with
    | .ext (.int n) => mutD env1 i a (fun ds q => 0 ≤ n ∧ n < 2 ^ 63 ∧ ∃ d, ds[n.toNat]? = some d ∧ q d (ds.eraseIdx n.toNat)) Q
    | _ => False
  | _ => False
theorem de_popAt (i : Nat) (hb : DE G N sc k b tb) (hw : FewArgs (.Name x py) "pop" b [] cpos := by intro _; exact ⟨rfl, rfl, rfl, rfl⟩) (hv : VisV N sc i x := by exact ⟨rfl, by first | exact Or.inl rfl | exact Or.inr (Or.inl rfl) | exact Or.inr (Or.inr rfl), by decide, by decide⟩) (hline : (apos.endLine == cpos.line) = true := by rfl) :
    DE G N sc k (.Call (.Attribute (.Name x py) "pop" apos) [b] [] cpos) (dPopAt i tb) := ⟨fun W => by
  obtain ⟨tf, p2, i2⟩ := hb.ex W
  refine ⟨tBM G.K "list" rPopAt (tVar i) (tCons tf tNil), fun X S => ?_, fun e Ex hl env T F σ H Q R hh ht hR => ?_⟩
  · obtain ⟨hbase, hfew, hs, hplain⟩ := hw X.env
    rw [← S.K]
    exact pe_bm PySem.F.plainAttrs_list PySem.F.slot_list_pop PySem.F.type_list_pop mt_popAt (pe_var (by rw [S.nms]; exact hv.1) (S.vis hv.2.1) hv.2.2.1 hv.2.2.2) (pa_cons (p2 X S) pa_nil hs) hbase hfew hline hs hplain
  · unfold dPopAt at ht
    split at ht
    · rename_i c ds0 hc
      rcases hh.slots i _ hc with z | ⟨v0, hv0, e0, _, us0, hu0, _⟩
      · cases z
      · subst e0
        refine ⟨_, hv0, .inl ⟨rfl, us0, SqL.of hu0⟩, ?_⟩
        refine i2 e Ex hl env T F σ H _ _ hh ht fun u H2 F2 env2 y hh2 q2 => ?_
        cases y with
        | ext d =>
          cases d with
          | int n =>
            have eu : u = .int n := hh2.temps (u, .ext (.int n)) List.mem_cons_self
            show rPopAt (.ref c) [u] H2 R
            refine hh2.pop.mut q2 (fun ds us hu rr q R' hf hk => ?_) hR
            obtain ⟨h0, h1, d, hd, hf⟩ := hf
            obtain ⟨v, hv', rd⟩ := rr.get hd
            have hlt : n.toNat < us.length := (List.getElem?_eq_some_iff.mp hv').1
            refine ⟨c, us, n, n.toNat, v, rfl, by rw [eu], hu, Int.le_trans (by decide) h0, h1, ?_, hv', hk v d _ _ rd (rr.eraseIdx _) hf⟩
            obtain ⟨m, rfl⟩ := Int.eq_ofNat_of_zero_le h0
            exact (ixN_seq (n := us.length) (i := (m : Int)) (j := m) (by
              unfold ixN
              rw [if_pos h0, if_pos (by rw [Int.toNat_natCast] at hlt; omega)]
              rfl)).1
          | _ => exact q2.elim
        | _ => exact q2.elim
    · exact ht.elim⟩
/-- x.pop() -/
def dPop (i : Nat) : DT := fun Ex env Q => match env[i]? with
  | some (.lst a _) => mutD env i a (fun ds q => ∃ d, ds[ds.length - 1]? = some d ∧ q d ds.dropLast) Q
  | _ => False
theorem de_pop (i : Nat) (hbase : ∀ env, attributeBase (.Name x py) "pop" env (eval (.Name x py) env) = eval (.Name x py) env := by intro _; rfl) (hv : VisV N sc i x := by exact ⟨rfl, by first | exact Or.inl rfl | exact Or.inr (Or.inl rfl) | exact Or.inr (Or.inr rfl), by decide, by decide⟩) (hline : (apos.endLine == cpos.line) = true := by rfl) :
    DE G N sc k (.Call (.Attribute (.Name x py) "pop" apos) [] [] cpos) (dPop i) := ⟨fun W => by
  refine ⟨tBM0 G.K "list" rPop (tVar i), fun X S => ?_, fun e Ex hl env T F σ H Q R hh ht hR => ?_⟩
  · rw [← S.K]
    exact pe_bm0 PySem.F.plainAttrs_list PySem.F.slot_list_pop PySem.F.type_list_pop mt_pop (pe_var (by rw [S.nms]; exact hv.1) (S.vis hv.2.1) hv.2.2.1 hv.2.2.2) (hbase _) hline
  · unfold dPop at ht
    split at ht
    · rename_i c ds0 hc
      rcases hh.slots i _ hc with z | ⟨v0, hv0, e0, _, us0, hu0, _⟩
      · cases z
      · subst e0
        refine ⟨_, hv0, .inl ⟨rfl, us0, SqL.of hu0⟩, ?_⟩
        refine hh.mut ht (fun ds us hu rr q R' hf hk => ?_) hR
        obtain ⟨d, hd, hf⟩ := hf
        obtain ⟨v, hv', rd⟩ := rr.get hd
        exact ⟨c, us, v, rfl, rfl, hu, by rw [← rr.length]; exact hv', hk v d _ _ rd rr.dropLast hf⟩
    · exact ht.elim⟩
/-- x[i] = e -/
def sSetItem (i : Nat) (tI te : DT) : DTS := fun Ex E env => te Ex env fun y env0 => frzD env0 y fun d env1 => match env1[i]? with
  | some (.lst a _) => tI Ex env1 fun z env2 => match z with
    | .ext (.int n) => match env2[i]? with
      | some (.lst b ds) => b = a ∧ ∃ j, ixN ds.length n = some j ∧ E.nx (env2.set i (.lst a (ds.set j d)))
      | _ => False
    | _ => False
  | _ => False
theorem ds_setitem {spos : Pos} (i : Nat) (hb : DE G N sc k b tb) (ha : DE G N sc k a ta) (hv : VisV N sc i x := by exact ⟨rfl, by first | exact Or.inl rfl | exact Or.inr (Or.inl rfl) | exact Or.inr (Or.inr rfl), by decide, by decide⟩)
    (hs : ∀ env, swapsWithSole [.Subscript (.Name x py) b spos] a pos.line env = pure false := by intro _; rfl) (hw : ∀ env, swappedStores [.Subscript (.Name x py) b spos] a env = pure none := by intro _; rfl)
    (h1 : ∀ env, (assignEach [.Subscript (.Name x py) b spos] env).map (·.2) = [assign (.Subscript (.Name x py) b spos) env] := by intro _; rfl)
    (h2 : ∀ env v, assign (.Subscript (.Name x py) b spos) env v = (do
      let ov ← holding [v] (eval (.Name x py) env)
      let iv ← holding [v, ov] (eval b env)
      standAt spos
      holding [v, ov, iv] (setItem ov iv v)
      release [v, ov, iv] []) := by intro _ _; rfl) :
    DS G N sc k (.Assign [.Subscript (.Name x py) b spos] a pos) (sSetItem i tb ta) := ⟨fun W => by
  obtain ⟨te, p1, i1⟩ := ha.ex W
  obtain ⟨tf, p2, i2⟩ := hb.ex W
  refine ⟨tAsg te (gSub (tVar i) tf rSetL), fun X S => ?_, fun e Ex hl env F σ H E Dn hh ht ok => ?_⟩
  · exact ps_asg (p1 X S) (pg_sub (pe_var (by rw [S.nms]; exact hv.1) (S.vis hv.2.1) hv.2.2.1 hv.2.2.2) (p2 X S) set_list (h2 _)) (hs _) (hw _) (h1 _)
  · refine i1 e Ex hl env [] F σ H _ _ hh ht fun v H1 F1 env0 y hh1 q1 => ?_
    obtain ⟨d, F2, env1, _, hh2, rd, q2⟩ := hh1.frz1 q1
    split at q2
    · rename_i c ds0 hc
      rcases hh2.slots i _ hc with z | ⟨v0, hv0, e0, _⟩
      · cases z
      · subst e0
        refine ⟨_, hv0, ?_⟩
        refine i2 e Ex hl env1 [(v, .ext d)] F2 σ H1 _ _ (hh2.pushE rd) q2 fun u H3 F3 env3 z hh3 q3 => ?_
        have rd3 : Rep G.K F3 d v := hh3.temps (v, .ext d) (List.mem_cons_of_mem _ List.mem_cons_self)
        cases z with
        | ext dz =>
          cases dz with
          | int n =>
            have eu : u = .int n := hh3.temps (u, .ext (.int n)) List.mem_cons_self
            have q3' : (match env3[i]? with | some (.lst b ds) => b = c ∧ ∃ j, ixN ds.length n = some j ∧ E.nx (env3.set i (.lst c (ds.set j d))) | _ => False) := q3
            split at q3'
            · rename_i c' ds hc'
              obtain ⟨rfl, j, hj, q4⟩ := q3'
              rcases hh3.slots i _ hc' with z | ⟨_, _, _, _, us, hu, rr⟩
              · cases z
              · exact ⟨c', us, n, j, rfl, eu, hu, by rw [← rr.length]; exact hj, ok.nx _ F3 σ _ (hh3.bare.write hc' (rr.set j rd3)) q4⟩
            · exact q3'.elim
          | _ => exact q3.elim
        | _ => exact q3.elim
    · exact q2.elim⟩
end

/-! ### sets of ints: sorted(set(t)) -/
def rSetT (K : PySem.W.Frag) (w : World) : List V → Hp → VK → Prop := fun xs H Q => ∃ (a : Addr) (ns : List Int), xs = [.ref a] ∧ SqT K H a (ns.map V.int) ∧ ns.length + 1 < scanBound ∧ ∀ (p : Addr) (c : Nat), H p = none → c ≤ ns.length → Q (.ref p) (upd H p (SetO w p (fun j => decide (j ∈ ns)) c))
theorem cr_setT {X : Cx} (hc : X.calm = true) : CallR X (.type "set") (rSetT X.K X.w) := by
  intro pins s σ H xs us Q I r h
  obtain ⟨a, ns, rfl, hq, hb, q⟩ := h
  rw [Vals.ref1 r]
  obtain ⟨its, r', pl, _⟩ := I.tuple hq
  refine call_set_tupI ns (I.ok.hd hc) (show s.heap.IsTuple a its.toArray from pl) (by rw [List.toList_toArray]; exact intsAre_of r') hb fun h' tk c R hc' hk => ?_
  have hn : H s.heap.objs.size = none := I.hok.fresh (Nat.le_refl _)
  exact ⟨.ref s.heap.objs.size, _, I.laid (t' := tk) hk (Nat.le_refl _) (setO_new R), rfl, q _ c hn hc'⟩
section
variable {G : GG} {N : List Str} {sc : SC} {k : Nat} {a : Expr} {ta : DT} {p p2 pos pos2 : Pos}
def dSortSet (t : DT) : DT := fun Ex env Q => t Ex env fun x env1 => wd env1 x fun d => match d with
  | .tup ds => ∃ ns : List Int, ds = ns.map D.int ∧ ns.length < 64 ∧ ∀ (ns' : List Int) (b : Addr), ns'.Pairwise (· < ·) → (∀ n : Int, n ∈ ns' ↔ n ∈ ns) → Q (.lst b (ns'.map D.int)) env1
  | _ => False
theorem de_sortset (ha : DE G N sc k a ta) (hm : G.mg "sorted" = none) (hm2 : G.mg "set" = none) (hg : GlS sc "sorted" := by rfl) (hg2 : GlS sc "set" := by rfl) (n1 : NoStar a [] := by intro _; rfl) (n2 : NoStar (.Call (.Name "set" p2) [a] [] pos2) [] := by intro _; rfl) (hp1 : ∀ env, (backTo pos (starEach [] env)).any (·.1) = false := by intro _; rfl) (hp2 : ∀ env, (backTo pos2 (starEach [] env)).any (·.1) = false := by intro _; rfl) :
    DE G N sc k (.Call (.Name "sorted" p) [.Call (.Name "set" p2) [a] [] pos2] [] pos) (dSortSet ta) := ⟨fun W => by
  obtain ⟨te, p1, i1⟩ := ha.ex W
  refine ⟨tCB (rSortedSet G.w) (tCons (tCB (rSetT G.K G.w) (tCons te tNil)) tNil), fun X S => ?_, fun e Ex hl env T F σ H Q R hh ht hR => ?_⟩
  · have c1 := cr_sortedSet (X := X) S.calm
    have c2 := cr_setT (X := X) S.calm
    rw [S.w] at c1
    rw [S.w, S.K] at c2
    exact pe_callB c1 (S.gl hg) (by rw [S.mg]; exact hm) (by decide +kernel) (pa_cons (pe_callTy c2 (S.gl hg2) (by rw [S.mg]; exact hm2) (by decide +kernel) (pa_cons (p1 X S) pa_nil (n1 _)) (by decide) (by decide) (n1 _) (hp2 _)) pa_nil (n2 _)) (by decide) (by decide) (n2 _) (hp1 _)
  · refine i1 e Ex hl env T F σ H _ _ hh ht fun v H1 F1 env1 x hh1 q1 => ?_
    obtain ⟨d, rd, q2⟩ := hh1.wd (v := v) (sl := x) List.mem_cons_self q1
    cases d with
    | tup ds =>
      obtain ⟨ns, rfl, hl64, q⟩ := q2
      obtain ⟨c, vs, rfl, e1, _, r1⟩ := rd.tup hh1.fh
      have z := r1.ints
      subst z
      refine ⟨c, ns, rfl, e1, Nat.lt_of_lt_of_le (Nat.add_lt_add_right hl64 1) (by decide), fun p' cn hn hc => ?_⟩
      refine ⟨p', _, cn, rfl, upd_same, Nat.lt_of_le_of_lt hc hl64, fun ns' p'' h1 h2 h3 hn2 => ?_⟩
      have aft := (hh1.pop.done hR).more (o := SetO G.w p' (fun j => decide (j ∈ ns)) cn) hh1.fh hn
      refine aft.lst (Grow.loose hh1.fh hn).fh hn2 (Reps.of_ints ns') (q ns' p'' h1 fun n => ?_)
      rw [h2 n]
      exact decide_eq_true_iff
    | _ => exact q2.elim⟩
end
end HD

/-! HD11: a written table asked by a text; the law's own end. -/
namespace HD
open PySem PyProof.Rows L2

abbrev Tab := List (Str × Int)
def tabV (t : Tab) : List (Key × V) := t.map fun p => (Sum.inr p.1, V.int p.2)
theorem merge_fresh : ∀ (more acc : List (Key × V)), (∀ q ∈ more, ∀ p ∈ acc, p.1 ≠ q.1) → (more.map (·.1)).Nodup → mergeK acc more = acc ++ more
  | [], acc, _, _ => by
    show acc = acc ++ []
    rw [List.append_nil]
  | q :: more, acc, h, nd => by
    have e : putK acc q.1 q.2 = acc ++ [q] := by
      unfold putK
      rw [if_neg]
      intro z
      obtain ⟨p, hp, hq⟩ := List.any_eq_true.mp z
      exact h q List.mem_cons_self p hp (of_decide_eq_true hq)
    show mergeK (putK acc q.1 q.2) more = acc ++ q :: more
    rw [List.map_cons, List.nodup_cons] at nd
    rw [e, merge_fresh more (acc ++ [q]) (fun r hr p hp => ?_) nd.2, List.append_assoc]
    · rfl
    · rcases List.mem_append.mp hp with hp | hp
      · exact h r (List.mem_cons_of_mem _ hr) p hp
      · rw [List.mem_singleton.mp hp]
        intro z
        exact nd.1 (by rw [z]; exact List.mem_map_of_mem hr)
theorem tab_val : ∀ (t : Tab) (w : Str) (n : Int), t.lookup w = some n → valV (tabV t) (Sum.inr w) = some (.int n)
  | [], _, _, h => by cases h
  | (k, m) :: t, w, n, h => by
    unfold valV tabV
    rw [List.map_cons, List.find?_cons]
    rw [List.lookup_cons] at h
    by_cases e : w = k
    · subst e
      simp only [beq_self_eq_true] at h
      rw [decide_eq_true rfl]
      cases h
      rfl
    · have e1 : (w == k) = false := beq_eq_false_iff_ne.mpr e
      rw [e1] at h
      have e2 : decide ((Sum.inr k : Key) = Sum.inr w) = false := decide_eq_false fun z => e (Sum.inr.inj z).symm
      show Option.map _ (match decide ((Sum.inr k : Key) = Sum.inr w) with | true => some _ | false => _) = _
      rw [e2]
      exact tab_val t w n h
def dTable (tab : Tab) (i : Nat) : DT := fun _ env Q => match env[i]? with
  | some (.ext (.str w)) => ∃ n, tab.lookup w = some n ∧ Q (.ext (.int n)) env
  | _ => False
section
variable {G : GG} {N : List Str} {sc : SC} {k : Nat} {x : Str} {px pos dpos : Pos} {keys : List (Option Expr)} {values : List Expr} {trs : List (TE × TE)}
theorem de_table (tab : Tab) (i : Nat) (hp : ∀ X : Cx, PPs X dpos keys values trs) (hc : ∀ (σ : L2.St) (H : Hp) (Q : List (V × V) → Hp → Prop), Q (tab.map fun p => (V.str p.1, V.int p.2)) H → tPairs trs σ H Q)
    (hnd : (tab.map (·.1)).Nodup) (h15 : tab.length ≤ 15) (hall : keys.all (·.isSome) = true := by rfl) (hl : keys.length = values.length := by rfl) (h0 : keys ≠ [] := by intro z; cases z) (hk15 : keys.length ≤ 15 := by decide)
    (hv : VisV N sc i x := by exact ⟨rfl, by first | exact Or.inl rfl | exact Or.inr (Or.inl rfl) | exact Or.inr (Or.inr rfl), by decide, by decide⟩) (hs : NoSl (.Name x px) := by intro _ _; rfl) :
    DE G N sc k (.Subscript (.Dict keys values dpos) (.Name x px) pos) (dTable tab i) := ⟨fun W => by
  refine ⟨tDGet (tDisp trs) (tVar i), fun X S => ?_, fun e Ex hl env T F σ H Q R hh ht hR => ?_⟩
  · exact pe_dget (Nat.lt_of_le_of_lt (Nat.add_le_add_left (by decide : 1 ≤ 64) _) S.units) (pe_disp (hp X) hall hl h0 hk15) (pe_var (by rw [S.nms]; exact hv.1) (S.vis hv.2.1) hv.2.2.1 hv.2.2.2) hs
  · unfold dTable at ht
    split at ht
    · rename_i w hw
      obtain ⟨n, hn, q⟩ := ht
      rcases hh.slots i _ hw with z | ⟨v, hv', ok⟩
      · cases z
      · have ev : v = .str w := ok
        subst ev
        intro p hp'
        refine hc _ _ _ ⟨upd_same, tabV tab, ?_, by unfold tabV; rw [List.length_map]; exact h15, ?_⟩
        · unfold tabV
          rw [List.map_map]
          rfl
        · refine ⟨.str w, hv', p, .int n, rfl, ?_, ?_⟩
          · have nd : ((tabV tab).map (·.1)).Nodup := by
              unfold tabV
              rw [List.map_map]
              have z : (fun p : Str × Int => (Sum.inr p.1 : Key)) = (Sum.inr ∘ fun p : Str × Int => p.1) := rfl
              show (tab.map fun p => (Sum.inr p.1 : Key)).Nodup
              rw [z, ← List.map_map]
              exact List.Pairwise.map _ (fun a b h => fun e => h (Sum.inr.inj e)) hnd
            have z : valV (mergeK [] (tabV tab)) (Sum.inr w : Key) = some (.int n) := by
              rw [merge_fresh (tabV tab) [] (fun q _ p hp => nomatch hp) nd, List.nil_append]
              exact tab_val tab w n hn
            have g : DGet (upd (upd H p (.dK [])) p (.dK (mergeK [] (tabV tab)))) p (kV (Sum.inr w)) (valV (mergeK [] (tabV tab)) (Sum.inr w)) := DGet.k upd_same
            rw [z] at g
            exact g
          · rw [upd_upd]
            have aft := (hh.done hR).more (o := .dK (mergeK [] (tabV tab))) hh.fh hp'
            exact aft.int (Grow.loose hh.fh hp').fh q
    · exact ht.elim⟩
end
/-! ### built-ins that the module leaves as they are -/
structure Blt (G : GG) : Prop where
  len : G.mg "len" = none
  range : G.mg "range" = none
  sorted : G.mg "sorted" = none
  set : G.mg "set" = none
  tuple : G.mg "tuple" = none
  list : G.mg "list" = none
  dict : G.mg "dict" = none
  zip : G.mg "zip" = none
  enumerate : G.mg "enumerate" = none
  all : G.mg "all" = none
  any : G.mg "any" = none
  sum : G.mg "sum" = none
  min : G.mg "min" = none
  max : G.mg "max" = none
  isinstance : G.mg "isinstance" = none
  str : G.mg "str" = none
  int : G.mg "int" = none
  repr : G.mg "repr" = none
  bool : G.mg "bool" = none
/-- the law's own specification -/
def lawSpec (n : Nat) : DSpec := fun args Q _ => ∃ ns : List Int, args = [.ext (.fz (ns.map D.int))] ∧ ns.length ≤ n ∧ ∀ fin, Q (.ext (.bl true)) fin
theorem law_sp {K : PySem.W.Frag} {n : Nat} {H : Hp} {a : Addr} {ns : List Int} (hl : ns.length ≤ n) (hS : SqL K H a (ns.map V.int)) : toSp K 1 (lawSpec n) [.ref a] H (fun v _ => v = .bl true) fun _ _ _ => False := by
  have r : Reps K H [.fz (ns.map D.int)] [.ref a] := ⟨_, _, rfl, ⟨a, _, rfl, hS, Reps.of_ints ns⟩, rfl⟩
  refine ⟨H, [.ext (.fz (ns.map D.int))], fun r _ => r = .ext (.bl true), fun _ _ => False, rfl, argsE (Same.refl _) r, ⟨ns, rfl, hl, fun _ => rfl⟩, fun v H' F' r fin hf hq => ?_, fun _ _ _ _ _ z => z⟩
  subst hq
  exact hf.temps (v, .ext (.bl true)) List.mem_cons_self
theorem cx_no {P : Program} {w : World} (H : Hp) (s : Shared) (e : Value) (s' : Shared) (h : L2.CX P w [] H s (fun _ _ _ => False) e s') : False := by
  obtain ⟨_, _, _, _, _, _, _, _, _, _, _, _, z⟩ := h
  exact z
end HD

/-! HD12: a walk over a list or a tuple, whichever it is. -/
namespace HD
open PySem PyProof.Rows L2

def iSeq (K : PySem.W.Frag) (tl : TE) : TI := fun σ H R => tl σ H fun x H1 => ∃ a, x = .ref a ∧ (((∃ xs, SqL K H1 a xs) ∧ R (Itl K a) H1) ∨ ((∃ xs, SqT K H1 a xs) ∧ R (Itt K a) H1))
theorem pi_seq {X : Cx} {tg l : Expr} {tl : TE} (hl : PE X l tl) : PI X tg l (iSeq X.K tl) := by
  refine ⟨fun pins s σ H R I h => ?_⟩
  refine thn (hl.run pins s σ H _ I h) fun v s1 ⟨x, H1, I1, r1, q1⟩ => ?_
  obtain ⟨a, ex, q1⟩ := q1
  subst ex
  cases r1
  have fp : ∀ b ∈ [s1.heap.objs.size], FpOk X pins H1 b := fun b hb => by
    have eb : b = s1.heap.objs.size := by simpa using hb
    subst eb
    exact I1.fpOk (Nat.le_refl _) (I1.hok.fresh (Nat.le_refl _))
  rcases q1 with ⟨⟨xs, hq⟩, q⟩ | ⟨⟨xs, hq⟩, q⟩
  · obtain ⟨its, rv, p, hz⟩ := I1.list hq
    refine wpAny_pyIter_list p.isList ?_
    exact ⟨s1.heap.objs.size, [s1.heap.objs.size], _, _, H1, rfl, I1.kept (t' := s1.toks) fun b o e => Heap.get?_push_of_some _ e, turn_list a _, ⟨_, Heap.get?_push_size _ rfl, rfl, rfl⟩, fp, q⟩
  · obtain ⟨its, rv, p, hz⟩ := I1.tuple hq
    refine wpAny_pyIter_tuple (show s1.heap.IsTuple a its.toArray from p) ?_
    exact ⟨s1.heap.objs.size, [s1.heap.objs.size], _, _, H1, rfl, I1.kept (t' := s1.toks) fun b o e => Heap.get?_push_of_some _ e, turn_tuple a _, ⟨_, Heap.get?_push_size _ rfl, rfl, rfl⟩, fp, q⟩
def dSeq (t : DT) : DTI := fun Ex env Q => t Ex env fun x env1 => seqD env1 x fun ds keep => Q ds keep env1
theorem src_stands {K : PySem.W.Frag} {b : Bool} {a : Addr} {ds : List D} {k : Env' → Prop} {F0 : Hp} (h : Stands K b a ds k F0) : Src K (if b = true then Itt K a else Itl K a) ds k F0 := fun e env T F σ H i hh sm kk => by
  obtain ⟨vs, s1, r⟩ := h e env T F σ H hh sm kk
  cases b with
  | true =>
    refine ⟨fun hi => ⟨vs, s1, by rw [← r.length]; exact Nat.le_of_eq hi⟩, fun d hd => ?_⟩
    obtain ⟨v, hv, rd⟩ := r.get hd
    refine ⟨⟨vs, v, s1, hv⟩, fun x H2 hy => ?_⟩
    obtain ⟨rfl, hx⟩ := hy
    have e1 := hx _ s1
    rw [hv] at e1
    cases e1
    exact ⟨F, Grow.refl hh.fh, rd⟩
  | false =>
    refine ⟨fun hi => ⟨vs, s1, by rw [← r.length]; exact Nat.le_of_eq hi⟩, fun d hd => ?_⟩
    obtain ⟨v, hv, rd⟩ := r.get hd
    refine ⟨⟨vs, v, s1, hv⟩, fun x H2 hy => ?_⟩
    obtain ⟨rfl, hx⟩ := hy
    have e1 := hx _ s1
    rw [hv] at e1
    cases e1
    exact ⟨F, Grow.refl hh.fh, rd⟩
section
variable {G : GG} {N : List Str} {sc : SC} {k : Nat} {a : Expr} {ta : DT}
theorem di_seq {tg : Expr} (h : DE G N sc k a ta) : DI G N sc k tg a (dSeq ta) := ⟨fun W => by
  obtain ⟨te, p1, i1⟩ := h.ex W
  refine ⟨iSeq G.K te, fun X S => by rw [← S.K]; exact pi_seq (p1 X S), fun e Ex hl env T F σ H Q R hh ht hR => ?_⟩
  refine i1 e Ex hl env T F σ H _ _ hh ht fun v H1 F1 env1 x hh1 q1 => ?_
  obtain ⟨b, c, ds, kp, F2, rfl, q2, _, hh2, st, kk⟩ := hh1.seqD q1
  have src := src_stands st
  obtain ⟨vs, s1, _⟩ := st e env1 T F2 σ H1 hh2 (Same.refl _) kk
  cases b with
  | true => exact ⟨c, rfl, .inr ⟨⟨vs, s1⟩, hR _ H1 F2 env1 ds kp hh2 src q2⟩⟩
  | false => exact ⟨c, rfl, .inl ⟨⟨vs, s1⟩, hR _ H1 F2 env1 ds kp hh2 src q2⟩⟩⟩
end
end HD

/-! what a reading asks, and helpers -/
namespace HD
open PySem L2
theorem eqv_refl {d : D} (h : d.cmp) : d.eqv d = true := PySem.SeqAt.eqv_refl d.py (PySem.SeqAt.canLay_of_shaped h.2)
/-- a reading keeps a specification -/
def Meets (t : DTS) (n m : Nat) (sp : DSpec) : Prop := ∀ args Qd Xd, sp args Qd Xd → t (exOf args Xd) (endsOf args Qd) (args ++ List.replicate m .un)
theorem finals1 (x : Sl) (env : Env') : finals [x] env = [fin1 x env[0]?] := rfl
theorem finals2 (x y : Sl) (env : Env') : finals [x, y] env = [fin1 x env[0]?, fin1 y env[1]?] := rfl
theorem finals3 (x y z : Sl) (env : Env') : finals [x, y, z] env = [fin1 x env[0]?, fin1 y env[1]?, fin1 z env[2]?] := rfl
theorem finals4 (x y z u : Sl) (env : Env') : finals [x, y, z, u] env = [fin1 x env[0]?, fin1 y env[1]?, fin1 z env[2]?, fin1 u env[3]?] := rfl
theorem finals5 (x y z u v : Sl) (env : Env') : finals [x, y, z, u, v] env = [fin1 x env[0]?, fin1 y env[1]?, fin1 z env[2]?, fin1 u env[3]?, fin1 v env[4]?] := rfl
theorem finals6 (x y z u v w : Sl) (env : Env') : finals [x, y, z, u, v, w] env = [fin1 x env[0]?, fin1 y env[1]?, fin1 z env[2]?, fin1 u env[3]?, fin1 v env[4]?, fin1 w env[5]?] := rfl
theorem fin1_ext (d : D) (o : Option Sl) : fin1 (.ext d) o = .ext d := rfl
theorem fin1_lst (a : Addr) (ds es : List D) : fin1 (.lst a ds) (some (.lst a es)) = .lst a es := if_pos rfl
theorem fEq_ii (i j : Int) (Q : Sl → Prop) : fEq (.int i) (.int j) Q = Q (.ext (.bl (i == j))) := rfl
theorem fEq_ss (i j : Str) (Q : Sl → Prop) : fEq (.str i) (.str j) Q = Q (.ext (.bl (i == j))) := rfl
theorem fEq_bb (i j : Bool) (Q : Sl → Prop) : fEq (.bl i) (.bl j) Q = Q (.ext (.bl (i == j))) := rfl
theorem fEq_tt (i j : List D) (Q : Sl → Prop) : fEq (.tup i) (.tup j) Q = (D.cmp (.tup i) ∧ D.cmp (.tup j) ∧ Q (.ext (.bl (D.eqv (.tup i) (.tup j))))) := rfl
theorem fEq_ll (i j : List D) (Q : Sl → Prop) : fEq (.lst i) (.lst j) Q = (D.cmp (.lst i) ∧ D.cmp (.lst j) ∧ Q (.ext (.bl (D.eqv (.lst i) (.lst j))))) := rfl
theorem fNe_ii (i j : Int) (Q : Sl → Prop) : fNe (.int i) (.int j) Q = Q (.ext (.bl (!(i == j)))) := rfl
theorem fNe_ss (i j : Str) (Q : Sl → Prop) : fNe (.str i) (.str j) Q = Q (.ext (.bl (!(i == j)))) := rfl
theorem fNe_bb (i j : Bool) (Q : Sl → Prop) : fNe (.bl i) (.bl j) Q = Q (.ext (.bl (!(i == j)))) := rfl
theorem fNe_tt (i j : List D) (Q : Sl → Prop) : fNe (.tup i) (.tup j) Q = (D.cmp (.tup i) ∧ D.cmp (.tup j) ∧ Q (.ext (.bl (!D.eqv (.tup i) (.tup j))))) := rfl
theorem fNe_ll (i j : List D) (Q : Sl → Prop) : fNe (.lst i) (.lst j) Q = (D.cmp (.lst i) ∧ D.cmp (.lst j) ∧ Q (.ext (.bl (!D.eqv (.lst i) (.lst j))))) := rfl
/-- a token whose type names what is to be left alone -/
inductive Tok {α : Type _} (Q : α) : Type where
  | mk
def CallS (spec : DSpec) (args : List Sl) (Q : Sl → List Sl → Prop) (X : Str → List Sl → Prop) (_ : Tok Q) (_ : Tok X) : Prop := spec args Q X
def GetS (o : Option D) (k : D → Prop) (_ : Tok k) : Prop := ∃ d, o = some d ∧ k d
def AtS (o : Option Sl) (k1 : D → Prop) (k2 : Addr → List D → Prop) (_ : Tok k1) (_ : Tok k2) : Prop := match o with
  | some (.ext d) => k1 d
  | some (.lst a ds) => k2 a ds
  | _ => False
theorem GetS_some (d : D) (k : D → Prop) (t : Tok k) : GetS (some d) k t = k d := propext ⟨fun ⟨_, e, h⟩ => by cases e; exact h, fun h => ⟨d, rfl, h⟩⟩
theorem AtS_ext (d : D) (k1 : D → Prop) (k2 : Addr → List D → Prop) (t : Tok k1) (u : Tok k2) : AtS (some (.ext d)) k1 k2 t u = k1 d := rfl
theorem AtS_lst (a : Addr) (ds : List D) (k1 : D → Prop) (k2 : Addr → List D → Prop) (t : Tok k1) (u : Tok k2) : AtS (some (.lst a ds)) k1 k2 t u = k2 a ds := rfl
abbrev AtL (o : Option Sl) (k2 : Addr → List D → Prop) : Prop := AtS o (fun _ => False) k2 .mk .mk
theorem AtL_eq (o : Option Sl) (k2 : Addr → List D → Prop) : (match o with | some (.lst a ds) => k2 a ds | _ => False) = AtS o (fun _ => False) k2 .mk .mk := by
  unfold AtS
  rcases o with _ | (_ | _ | _ | _ | _) <;> rfl
theorem dCall_w (spec : DSpec) (ta : DTA) (Ex : DX) (env : Env') (Q : Sl → Env' → Prop) : dCall spec ta Ex env Q = ta Ex env fun xs env1 => wds env1 xs fun ds =>
  CallS spec (ds.map .ext) (fun r _ => (anyAl xs = false ∨ r.imm = true) ∧ r.plain ∧ Q r env1) (fun c _ => Ex c env1) .mk .mk := rfl
theorem dCallJ_w (spec : DSpec) (i : Nat) (ta : DTA) (Ex : DX) (env : Env') (Q : Sl → Env' → Prop) : dCallJ spec i ta Ex env Q = AtL env[i]? fun a _ => ta Ex env fun xs env1 => AtL env1[i]? fun b ds => b = a ∧ frozs env1 xs fun es => CallS spec (.lst a ds :: es.map .ext)
        (fun r fin => match fin with | s' :: _ => s'.plain ∧ r.plain ∧ Q r (env1.set i s') | [] => False) (fun c fin => match fin with | s' :: _ => s'.plain ∧ Ex c (env1.set i s') | [] => False) .mk .mk := by
  simp only [AtL, ← AtL_eq] <;> rfl
theorem dVar_w (i : Nat) (Ex : DX) (env : Env') (Q : Sl → Env' → Prop) : dVar i Ex env Q = AtS env[i]? (fun d => Q (.ext d) env) (fun a _ => Q (.al i a) env) .mk .mk := by
  unfold dVar AtS
  rcases env[i]? with _ | (_ | _ | _ | _ | _) <;> rfl
theorem wd_ext (env : Env') (d : D) (k : D → Prop) : wd env (.ext d) k = k d := rfl
theorem wd_lst (env : Env') (a : Addr) (ds : List D) (k : D → Prop) : wd env (.lst a ds) k = k (.lst ds) := rfl
theorem wd_al (env : Env') (i : Nat) (a : Addr) (k : D → Prop) : wd env (.al i a) k = AtL env[i]? fun b ds => b = a ∧ k (.lst ds) := by
  simp only [AtL, ← AtL_eq] <;> rfl
theorem frzD_ext (env : Env') (d : D) (q : D → Env' → Prop) : frzD env (.ext d) q = q d env := rfl
theorem frzD_lst (env : Env') (a : Addr) (ds : List D) (q : D → Env' → Prop) : frzD env (.lst a ds) q = q (.lst ds) env := rfl
theorem frzD_al (env : Env') (i : Nat) (a : Addr) (q : D → Env' → Prop) : frzD env (.al i a) q = AtL env[i]? fun b ds => b = a ∧ q (.lst ds) (env.set i (.ext (.lst ds))) := by
  simp only [AtL, ← AtL_eq, frzD]
  rcases env[i]? with _ | (_ | d | _ | _ | _) <;> try rfl
  cases d <;> rfl
theorem retD_ext (env : Env') (d : D) (q : Sl → Env' → Prop) : retD env (.ext d) q = q (.ext d) env := rfl
theorem retD_lst (env : Env') (a : Addr) (ds : List D) (q : Sl → Env' → Prop) : retD env (.lst a ds) q = q (.lst a ds) env := rfl
theorem retD_al (env : Env') (i : Nat) (a : Addr) (q : Sl → Env' → Prop) : retD env (.al i a) q = AtL env[i]? fun b ds => b = a ∧ q (.lst a ds) (env.set i .un) := by
  simp only [AtL, ← AtL_eq] <;> rfl
theorem seqD_tup (env : Env') (ds : List D) (q : List D → (Env' → Prop) → Prop) : seqD env (.ext (.tup ds)) q = q ds fun _ => True := rfl
theorem seqD_elst (env : Env') (ds : List D) (q : List D → (Env' → Prop) → Prop) : seqD env (.ext (.lst ds)) q = q ds fun _ => True := rfl
theorem seqD_lst (env : Env') (a : Addr) (ds : List D) (q : List D → (Env' → Prop) → Prop) : seqD env (.lst a ds) q = q ds fun _ => True := rfl
theorem seqD_al (env : Env') (i : Nat) (a : Addr) (q : List D → (Env' → Prop) → Prop) : seqD env (.al i a) q = AtL env[i]? fun b ds => b = a ∧ q ds fun env' => env'[i]? = some (.lst a ds) := by
  simp only [AtL, ← AtL_eq] <;> rfl
theorem mutD_w (env : Env') (i : Nat) (a : Addr) (f : DMut) (Q : Sl → Env' → Prop) : mutD env i a f Q = AtL env[i]? fun b ds => b = a ∧ f ds fun d ds' => Q (.ext d) (env.set i (.lst a ds')) := by
  simp only [AtL, ← AtL_eq] <;> rfl
theorem dAppend_w (i : Nat) (t : DT) (Ex : DX) (env : Env') (Q : Sl → Env' → Prop) : dAppend i t Ex env Q = AtL env[i]? fun a _ => t Ex env fun x env1 => frzD env1 x fun d env2 => mutD env2 i a (fun ds q => ds.length < sizeLine ∧ q .non (ds ++ [d])) Q := by
  simp only [AtL, ← AtL_eq] <;> rfl
def extD (env : Env') (i : Nat) (a : Addr) (d : D) (Q : Sl → Env' → Prop) : Prop := match d with
    | .lst es => mutD env i a (fun ds q => ds.length + es.length ≤ sizeLine ∧ q .non (ds ++ es)) Q
    | _ => False
theorem extD_lst (env : Env') (i : Nat) (a : Addr) (es : List D) (Q : Sl → Env' → Prop) : extD env i a (.lst es) Q = mutD env i a (fun ds q => ds.length + es.length ≤ sizeLine ∧ q .non (ds ++ es)) Q := rfl
theorem dExtend_w (i : Nat) (t : DT) (Ex : DX) (env : Env') (Q : Sl → Env' → Prop) : dExtend i t Ex env Q = AtL env[i]? fun a _ => t Ex env fun x env1 => wd env1 x fun d => extD env1 i a d Q := by
  simp only [AtL, ← AtL_eq] <;> rfl
def popD (env : Env') (i : Nat) (a : Addr) (x : Sl) (Q : Sl → Env' → Prop) : Prop := match x with
    | .ext (.int n) => mutD env i a (fun ds q => 0 ≤ n ∧ n < 2 ^ 63 ∧ ∃ d, ds[n.toNat]? = some d ∧ q d (ds.eraseIdx n.toNat)) Q
    | _ => False
theorem popD_int (env : Env') (i : Nat) (a : Addr) (n : Int) (Q : Sl → Env' → Prop) : popD env i a (.ext (.int n)) Q = mutD env i a (fun ds q => 0 ≤ n ∧ n < 2 ^ 63 ∧ GetS ds[n.toNat]? (fun d => q d (ds.eraseIdx n.toNat)) .mk) Q := rfl
theorem dPopAt_w (i : Nat) (t : DT) (Ex : DX) (env : Env') (Q : Sl → Env' → Prop) : dPopAt i t Ex env Q = AtL env[i]? fun a _ => t Ex env fun x env1 => popD env1 i a x Q := by
  simp only [AtL, ← AtL_eq] <;> rfl
theorem dPop_w (i : Nat) (Ex : DX) (env : Env') (Q : Sl → Env' → Prop) : dPop i Ex env Q = AtL env[i]? fun a _ => mutD env i a (fun ds q => GetS ds[ds.length - 1]? (fun d => q d ds.dropLast) .mk) Q := by
  simp only [AtL, ← AtL_eq] <;> rfl
def setD (env2 : Env') (i : Nat) (a : Addr) (d : D) (z : Sl) (q : Env' → Prop) : Prop := match z with
    | .ext (.int n) => AtL env2[i]? fun b ds => b = a ∧ ∃ j, ixN ds.length n = some j ∧ q (env2.set i (.lst a (ds.set j d)))
    | _ => False
def NatS (o : Option Nat) (k : Nat → Prop) (_ : Tok k) : Prop := ∃ j, o = some j ∧ k j
theorem NatS_some (j : Nat) (k : Nat → Prop) (t : Tok k) : NatS (some j) k t = k j := propext ⟨fun ⟨_, e, h⟩ => by cases e; exact h, fun h => ⟨j, rfl, h⟩⟩
theorem setD_int (env2 : Env') (i : Nat) (a : Addr) (d : D) (n : Int) (q : Env' → Prop) : setD env2 i a d (.ext (.int n)) q = AtL env2[i]? fun b ds => b = a ∧ NatS (ixN ds.length n) (fun j => q (env2.set i (.lst a (ds.set j d)))) .mk := rfl
theorem sSetItem_w (i : Nat) (tI te : DT) (Ex : DX) (E : DEnds) (env : Env') : sSetItem i tI te Ex E env = te Ex env fun y env0 => frzD env0 y fun d env1 => AtL env1[i]? fun a _ => tI Ex env1 fun z env2 => setD env2 i a d z E.nx := by
  simp only [AtL, ← AtL_eq, setD, sSetItem] <;> rfl
theorem dTable_w (tab : Tab) (i : Nat) (Ex : DX) (env : Env') (Q : Sl → Env' → Prop) : dTable tab i Ex env Q = AtS env[i]? (fun d => match d with | .str w => ∃ n, tab.lookup w = some n ∧ Q (.ext (.int n)) env | _ => False) (fun _ _ => False) .mk .mk := by
  unfold dTable AtS
  rcases env[i]? with _ | (_ | d | _ | _ | _) <;> try rfl
  cases d <;> rfl
theorem fIx_l (ds : List D) (i : Int) (Q : Sl → Prop) : fIx (.lst ds) (.int i) Q = GetS (atI ds i) (fun d => Q (.ext d)) .mk := rfl
theorem fIx_t (ds : List D) (i : Int) (Q : Sl → Prop) : fIx (.tup ds) (.int i) Q = GetS (atI ds i) (fun d => Q (.ext d)) .mk := rfl
theorem fIx_k (ds : List D) (i : Int) (Q : Sl → Prop) : fIx (.tk ds) (.int i) Q = GetS (atI ds i) (fun d => Q (.ext d)) .mk := rfl
theorem fIx_f (ds : List D) (i : Int) (Q : Sl → Prop) : fIx (.fz ds) (.int i) Q = GetS (atI ds i) (fun d => Q (.ext d)) .mk := rfl
def BoolS (o : Option Bool) (k : Bool → Prop) (_ : Tok k) : Prop := ∃ b, o = some b ∧ k b
theorem BoolS_some (b : Bool) (k : Bool → Prop) (t : Tok k) : BoolS (some b) k t = k b := propext ⟨fun ⟨_, e, h⟩ => by cases e; exact h, fun h => ⟨b, rfl, h⟩⟩
theorem fIsi1 (d : D) (T : String) (Q : Sl → Prop) : fIsi [d, .val (.ty T)] Q = (d.noVal = true ∧ d.isFz = false ∧ BoolS (kitB d.ty T) (fun b => Q (.ext (.bl b))) .mk) := rfl
theorem fIsi2 (d : D) (T U : String) (Q : Sl → Prop) : fIsi [d, .tup [.val (.ty T), .val (.ty U)]] Q = (d.noVal = true ∧ d.isFz = false ∧ BoolS (kitB d.ty T) (fun b => BoolS (kitB d.ty U) (fun c => Q (.ext (.bl (b || c)))) .mk) .mk) := by
  simp only [fIsi, BoolS]
  refine propext ⟨fun ⟨h1, h2, b, c, h3, h4, q⟩ => ⟨h1, h2, b, h3, c, h4, q⟩, fun ⟨h1, h2, b, h3, c, h4, q⟩ => ⟨h1, h2, b, c, h3, h4, q⟩⟩
theorem kb_non_tuple : kitB (D.ty .non) "tuple" = some false := by decide +kernel
theorem kb_non_list : kitB (D.ty .non) "list" = some false := by decide +kernel
theorem kb_non_bool : kitB (D.ty .non) "bool" = some false := by decide +kernel
theorem kb_non_int : kitB (D.ty .non) "int" = some false := by decide +kernel
theorem kb_non_str : kitB (D.ty .non) "str" = some false := by decide +kernel
theorem kb_bl_tuple (b : Bool) : kitB (D.ty (.bl b)) "tuple" = some false := show kitB "bool" "tuple" = some false by decide +kernel
theorem kb_bl_list (b : Bool) : kitB (D.ty (.bl b)) "list" = some false := show kitB "bool" "list" = some false by decide +kernel
theorem kb_bl_bool (b : Bool) : kitB (D.ty (.bl b)) "bool" = some true := show kitB "bool" "bool" = some true by decide +kernel
theorem kb_bl_int (b : Bool) : kitB (D.ty (.bl b)) "int" = some true := show kitB "bool" "int" = some true by decide +kernel
theorem kb_bl_str (b : Bool) : kitB (D.ty (.bl b)) "str" = some false := show kitB "bool" "str" = some false by decide +kernel
theorem kb_int_tuple (i : Int) : kitB (D.ty (.int i)) "tuple" = some false := show kitB "int" "tuple" = some false by decide +kernel
theorem kb_int_list (i : Int) : kitB (D.ty (.int i)) "list" = some false := show kitB "int" "list" = some false by decide +kernel
theorem kb_int_bool (i : Int) : kitB (D.ty (.int i)) "bool" = some false := show kitB "int" "bool" = some false by decide +kernel
theorem kb_int_int (i : Int) : kitB (D.ty (.int i)) "int" = some true := show kitB "int" "int" = some true by decide +kernel
theorem kb_int_str (i : Int) : kitB (D.ty (.int i)) "str" = some false := show kitB "int" "str" = some false by decide +kernel
theorem kb_str_tuple (x : Str) : kitB (D.ty (.str x)) "tuple" = some false := show kitB "str" "tuple" = some false by decide +kernel
theorem kb_str_list (x : Str) : kitB (D.ty (.str x)) "list" = some false := show kitB "str" "list" = some false by decide +kernel
theorem kb_str_bool (x : Str) : kitB (D.ty (.str x)) "bool" = some false := show kitB "str" "bool" = some false by decide +kernel
theorem kb_str_int (x : Str) : kitB (D.ty (.str x)) "int" = some false := show kitB "str" "int" = some false by decide +kernel
theorem kb_str_str (x : Str) : kitB (D.ty (.str x)) "str" = some true := show kitB "str" "str" = some true by decide +kernel
theorem kb_lst_tuple (ds : List D) : kitB (D.ty (.lst ds)) "tuple" = some false := show kitB "list" "tuple" = some false by decide +kernel
theorem kb_lst_list (ds : List D) : kitB (D.ty (.lst ds)) "list" = some true := show kitB "list" "list" = some true by decide +kernel
theorem kb_lst_bool (ds : List D) : kitB (D.ty (.lst ds)) "bool" = some false := show kitB "list" "bool" = some false by decide +kernel
theorem kb_lst_int (ds : List D) : kitB (D.ty (.lst ds)) "int" = some false := show kitB "list" "int" = some false by decide +kernel
theorem kb_lst_str (ds : List D) : kitB (D.ty (.lst ds)) "str" = some false := show kitB "list" "str" = some false by decide +kernel
theorem kb_tup_tuple (ds : List D) : kitB (D.ty (.tup ds)) "tuple" = some true := show kitB "tuple" "tuple" = some true by decide +kernel
theorem kb_tup_list (ds : List D) : kitB (D.ty (.tup ds)) "list" = some false := show kitB "tuple" "list" = some false by decide +kernel
theorem kb_tup_bool (ds : List D) : kitB (D.ty (.tup ds)) "bool" = some false := show kitB "tuple" "bool" = some false by decide +kernel
theorem kb_tup_int (ds : List D) : kitB (D.ty (.tup ds)) "int" = some false := show kitB "tuple" "int" = some false by decide +kernel
theorem kb_tup_str (ds : List D) : kitB (D.ty (.tup ds)) "str" = some false := show kitB "tuple" "str" = some false by decide +kernel
def BlS (z : Sl) (k : Bool → Prop) (_ : Tok k) : Prop := match z with
  | .ext (.bl b) => k b
  | _ => False
theorem BlS_bl (b : Bool) (k : Bool → Prop) (t : Tok k) : BlS (.ext (.bl b)) k t = k b := rfl
theorem bl_match (z : Sl) (p q : Prop) : (match z with
  | .ext (.bl true) => p
  | .ext (.bl false) => q
  | _ => False) = BlS z (fun b => if b = true then p else q) .mk := by
  unfold BlS
  rcases z with _ | (_ | b | _ | _ | _ | _ | _ | _ | _ | _ | _) | _ | _ <;> try rfl
  cases b <;> simp
theorem dChain_w (f f' : D → D → (Sl → Prop) → Prop) (ta tb tc : DT) (Ex : DX) (env : Env') (Q : Sl → Env' → Prop) : dChain f f' ta tb tc Ex env Q = ta Ex env fun x env1 => tb Ex env1 fun y env2 => wd env2 x fun d => wd env2 y fun d' => f d d' fun z =>
  BlS z (fun b => if b = true then (tc Ex env2 fun w env3 => wd env3 y fun d1 => wd env3 w fun d2 => f' d1 d2 fun sl => Q sl env3) else Q (.ext (.bl false)) env2) .mk := by
  simp only [← bl_match] <;> rfl
theorem dAndV_w (ta tb : DT) (Ex : DX) (env : Env') (Q : Sl → Env' → Prop) : dAndV ta tb Ex env Q = ta Ex env fun x env1 => BlS x (fun b => if b = true then tb Ex env1 Q else Q (.ext (.bl false)) env1) .mk := by
  simp only [← bl_match] <;> rfl
theorem dOrV_w (ta tb : DT) (Ex : DX) (env : Env') (Q : Sl → Env' → Prop) : dOrV ta tb Ex env Q = ta Ex env fun x env1 => BlS x (fun b => if b = true then Q (.ext (.bl true)) env1 else tb Ex env1 Q) .mk := by
  have e : ∀ (z : Sl) (p q : Prop), (match z with
    | .ext (.bl false) => q
    | .ext (.bl true) => p
    | _ => False) = BlS z (fun b => if b = true then p else q) .mk := by
    intro z p q
    unfold BlS
    rcases z with _ | (_ | b | _ | _ | _ | _ | _ | _ | _ | _ | _) | _ | _ <;> try rfl
    cases b <;> simp
  simp only [← e] <;> rfl
/-- ints, naturals -/
abbrev iD (l : List Int) : List D := l.map D.int
abbrev nD (l : List Nat) : List D := l.map fun n : Nat => D.int (n : Int)
theorem nD_cons (x : Nat) (l : List Nat) : nD (x :: l) = D.int (x : Int) :: nD l := rfl
theorem nD_nil : nD [] = [] := rfl
theorem iD_cons (x : Int) (l : List Int) : iD (x :: l) = D.int x :: iD l := rfl
theorem iD_nil : iD [] = [] := rfl
theorem nD_app (a b : List Nat) : nD (a ++ b) = nD a ++ nD b := List.map_append
theorem iD_app (a b : List Int) : iD (a ++ b) = iD a ++ iD b := List.map_append
theorem nD_len (a : List Nat) : (nD a).length = a.length := List.length_map _
theorem iD_len (a : List Int) : (iD a).length = a.length := List.length_map _
theorem cmulN {i j : Int} {a b : Nat} (hi : i.natAbs < 2 ^ a) (hj : j.natAbs < 2 ^ b) (h : a + b < 1000000) : CMulW i j := by
  unfold CMulW
  have h1 : i.natAbs.log2 ≤ a := by
    rcases Nat.eq_zero_or_pos i.natAbs with z | z
    · rw [z]; exact Nat.zero_le _
    · exact Nat.le_of_lt ((Nat.log2_lt (by omega)).2 hi)
  have h2 : j.natAbs.log2 ≤ b := by
    rcases Nat.eq_zero_or_pos j.natAbs with z | z
    · rw [z]; exact Nat.zero_le _
    · exact Nat.le_of_lt ((Nat.log2_lt (by omega)).2 hj)
  omega
theorem cmul64 {i j : Int} (h1 : -18446744073709551616 < i) (h2 : i < 18446744073709551616) (h3 : -18446744073709551616 < j) (h4 : j < 18446744073709551616) : CMulW i j :=
  cmulN (a := 64) (b := 64) (by omega) (by omega) (by decide)
theorem atN {α : Type} {xs : List α} {n : Nat} {x : α} (h : xs[n]? = some x) : atI xs (n : Int) = some x := by
  have hl : n < xs.length := (List.getElem?_eq_some_iff.1 h).1
  have e : ixN xs.length (n : Int) = some n := by
    unfold ixN
    rw [if_pos (by omega), if_pos (by omega)]
    simp
  unfold atI
  rw [e]
  exact h
theorem ixN_nat {n i : Nat} (h : i < n) : ixN n (i : Int) = some i := by
  unfold ixN
  rw [if_pos (by omega), if_pos (by omega)]
  simp
theorem atI_int {α : Type} {xs : List α} {i : Int} {x : α} (h0 : 0 ≤ i) (h : xs[i.toNat]? = some x) : atI xs i = some x := by
  have := atN h
  rwa [Int.toNat_of_nonneg h0] at this
theorem atI_0 {α : Type} (x : α) (xs : List α) : atI (x :: xs) 0 = some x := atN (n := 0) rfl
theorem atI_1 {α : Type} (x y : α) (xs : List α) : atI (x :: y :: xs) 1 = some y := atN (n := 1) rfl
theorem atI_2 {α : Type} (x y z : α) (xs : List α) : atI (x :: y :: z :: xs) 2 = some z := atN (n := 2) rfl
theorem atI_3 {α : Type} (x y z u : α) (xs : List α) : atI (x :: y :: z :: u :: xs) 3 = some u := atN (n := 3) rfl
theorem ixN_0 (n : Nat) : ixN (n + 1) 0 = some 0 := ixN_nat (i := 0) (by omega)
theorem ixN_1 (n : Nat) : ixN (n + 1 + 1) 1 = some 1 := ixN_nat (i := 1) (by omega)
theorem ixN_2 (n : Nat) : ixN (n + 1 + 1 + 1) 2 = some 2 := ixN_nat (i := 2) (by omega)
end HD

/-! HX0: a caught exception that is kept behind its clause: its object becomes a known thing. -/
namespace HD
open PySem PySem.Spec PyProof.Rows L2
section
variable {X : Cx} {pins : List (Addr × Obj)} {σ : L2.St} {H : Hp} {s : Shared}
theorem un_adopt {fs ex : List Addr} {H0 H1 : Hp} {h h1 : Heap} {a : Addr} {o : HO} (u : Un fs ex H0 H1 h h1) (n0 : a ∉ ex → h.get? a = none) (n1 : H1 a = none) : Un fs ex H0 (upd H1 a o) h h1 where
  keep := u.keep
  slot := u.slot
  there := u.there
  free := fun b x q n z => by
    have nb : b ≠ a := fun e => by
      subst e
      rw [n0 z] at q; cases q
    rw [upd_ne nb]; exact u.free b x q n z
  tups := fun b xs q => by
    have q1 := u.tups b xs q
    rw [upd_ne (ne_of_none q1 n1)]; exact q1
  frzs := fun b x y q => by
    have q1 := u.frzs b x y q
    rw [upd_ne (ne_of_none q1 n1)]; exact q1
  tbls := fun b ps q => by
    obtain ⟨m, q1⟩ := u.tbls b ps q
    exact ⟨m, by rw [upd_ne (ne_of_none q1 n1)]; exact q1⟩
/-- the object at a, known to be oe, is taken into the abstract heap -/
theorem inv_adopt {a : Addr} {oe : Obj} (I : Inv X pins σ H s) (ha : s.heap.get? a = some oe) (na : H a = none) (nL : a ≠ X.env.locals) (nc : ∀ v, oe.data ≠ .cell v) (n0 : a ∉ X.ex → X.s_0.heap.get? a = none) (np : ∀ p ∈ X.pn ++ pins, p.1 ≠ a) :
    Inv X pins σ (upd H a (.frz oe (.own a))) s where
  ok := I.ok
  os := I.os
  bare := I.bare
  base := un_adopt I.base n0 na
  loc := I.loc
  cell := I.cell
  free := by rw [upd_ne (Ne.symm nL)]; exact I.free
  freeC := fun x c q => by
    obtain ⟨v, hv⟩ := I.cell x c q
    have : c ≠ a := fun e => by
      rw [e] at hv
      obtain ⟨o, q1, q2⟩ := hv
      rw [ha] at q1
      cases q1
      exact nc _ q2
    rw [upd_ne this]; exact I.freeC x c q
  pin := fun p hp => by
    obtain ⟨h1, h2, h3⟩ := I.pin p hp
    exact ⟨h1, by rw [upd_ne (np p hp)]; exact h2, h3⟩
  hok := I.hok.laidN (fun _ _ q => q) na ⟨ha, oe, ha⟩
  len := I.len
end
/-- what the clause wishes where its exception is kept -/
def wKeep (K : PySem.W.Frag) (c : Value) (i : Nat) (ts : Addr → Value → Option Addr → TS) (Wout : WX) (D : Ends) : WX := fun cls d σ H =>
  ∃ b, PySem.W.exmOne K cls c = some b ∧
    (b = true → ∀ (a : Addr) (oe : Obj), H a = none → Zc cls d oe → (∃ vs, oe.data = .fields vs) →
      ts a cls d { nx := fun σ' H' => D.nx (σ'.set i none) (upd H' a (.frz oe (.own a))), rt := fun _ _ => False } (σ.set i (some (.ref a))) H) ∧
    (b = false → Wout cls d σ H)
section
variable {X : Cx} {x n : Str} {c : Value} {i : Nat} {body suite : List Stmt} {b0 : Stmt} {np pos pos' : Pos} {tb : WX → TS} {ts : Addr → Value → Option Addr → TS} {Wout : WX}
theorem ps_try_keep (hs : X.stack = X.env :: X.outer) (hf : X.env.frame = some X.env.locals) (hN : X.N.Nodup) (hi : X.N[i]? = some n) (hl : X.env.kindOf n = some .local) (hc : Names X x c) (tk : Takes X Wout)
    (hb : ∀ (W : WX) (pn : List (Addr × Obj)) (xe : Value → Shared → Prop), Takes (X.tr pn xe) W → PassesOwn (model X.prog X.w) X.A X.env xe → PSs (X.tr pn xe) body (tb W))
    (hsu : ∀ (a : Addr) (oe : Obj) (cls : Value) (d : Option Addr) (pn : List (Addr × Obj)), Zc cls d oe → (∃ vs, oe.data = .fields vs) → PSs (X.suite a ((a, oe) :: pn)) (b0 :: suite) (ts a cls d)) :
    PS X (.Try body [.ExceptHandler (some (.Name x np)) (some n) (b0 :: suite) pos'] [] [] pos) (fun D σ H => tb (wKeep X.K c i ts Wout D) D σ H) := by
  refine ⟨fun pins s σ H D I h => wpAny_Try_except ?_⟩
  have ok := I.ok
  have fr : X.A.frames = some (X.env :: X.outer) := ok.frames.trans (by rw [hs])
  refine wpAny_mono ((hb (wKeep X.K c i ts Wout D) (X.pn ++ pins)
    (fun e t1 => wpAny (model X.prog X.w) X.A (noteFrame e X.env) (fun _ t2 => wpAny (model X.prog X.w) X.A (setFlight e none) (fun _ t3 =>
      wpAny (model X.prog X.w) X.A (handleBy e X.env [.ExceptHandler (some (.Name x np)) (some n) (b0 :: suite) pos']) (SP X pins D) X.xe t3) X.xe t2) X.xe t1)
    (fun u t xx => ?_) PassesOwn.looking).run [] s σ H D (I.toTry _) h) (fun f t1 q => ?_) (fun _ _ z => z)
  · obtain ⟨a, B, sI, pins', σ1, H1, cls, d, rfl, J0, nb, up, sky, na, os, ag, b, hb1, yes, no⟩ := xx
    have J : Inv X pins σ1 H1 sI := J0.ofTry ok
    have sky1 : Sky B (X.env :: X.outer) a (Zc cls d) X.env.locals t.heap := hs ▸ sky
    show wpAny (model X.prog X.w) X.A (noteFrame (.ref a) X.env) _ _ _
    refine Sky.land Zc.steady fr hf sky1 fun g fl ug => ?_
    have J3 : Inv X pins σ1 H1 { t with heap := g } := J.landed nb fl.1 (up.trans ug) os ag
    obtain ⟨o3, vs3, e3, z3, d3⟩ := fl.there
    have away : ∀ {k : Heap} {o : Obj} {vs : Array Value}, k.FunFrames B (X.env :: X.outer) → k.get? a = some o → o.data = .fields vs → a ∉ frs (X.env :: X.outer) := fun ff e dd hm => by
      obtain ⟨_, o', e', hnf⟩ := ff.mem hm
      rw [e] at e'
      cases e'
      exact hnf _ dd
    have nfr := away fl.2.2.1 e3 d3
    have Bn : B.get? a = none := fl.2.1
    have nL : a ≠ X.env.locals := fun z => nfr (List.mem_filterMap.mpr ⟨X.env, List.mem_cons_self, by rw [hf, z]⟩)
    have nF : a ∉ X.fs := fun hm => by
      obtain ⟨e, he, q⟩ := List.mem_filterMap.mp hm
      exact nfr (List.mem_filterMap.mpr ⟨e, List.mem_cons_of_mem _ he, q⟩)
    -- nothing stood at a ahead of the raise
    have sIn : sI.heap.get? a = none := by
      cases q : sI.heap.get? a with
      | none => rfl
      | some o =>
        have := nb a o q (by rw [hs]; exact nfr)
        rw [Bn] at this
        cases this
    have S3 := J3.suite e3 d3 na nL nF
    refine wpAny_handleBy_cons (codeAny_handlers_test ?_) (by intro q; cases q)
    have LT : PySem.W.Looks (model X.prog X.w) g (typeOf (.ref a)) cls := fun A Q E s k q => wpAny_typeOf_ref (k _ _ e3) (by rw [z3.1]; exact q)
    have LM := PySem.W.exm_one (M := model X.prog X.w) (J3.kIn) LT hb1
    have test : ∀ {Q : Value → Shared → Prop} {E : Value → Shared → Prop}, Q c { t with heap := g } → wpAny (model X.prog X.w) (X.A.mark (some (.ref a))) (eval (.Name x np) X.env) Q E { t with heap := g } := fun {Q E} q => by
      obtain ⟨hg, hd, hm | ⟨hm, hv, hnn⟩⟩ := hc
      · exact ld_glob (X := X.suite a ((a, o3) :: (X.pn ++ pins))) S3 hg hm q hd
      · exact ld_blt (X := X.suite a ((a, o3) :: (X.pn ++ pins))) S3 hg hm hv q hnn hd
    refine test (LM.here ?_)
    cases b with
    | true =>
      refine codeAny_handlers_suite_as (HandSPX.lands_againZ fl fun g4 fl4 ug4 => ?_)
      have J4 : Inv X pins σ1 H1 { t with heap := g4 } := J.landed nb fl4.1 ((up.trans ug).trans ug4) os ag
      obtain ⟨o4, vs4, e4, z4, d4⟩ := fl4.there
      have S4 := J4.suite e4 d4 na nL nF
      refine store_ok (X := X.suite a ((a, o4) :: (X.pn ++ pins))) (v := .ref a) S4 hN hi (.inl hl) rfl (fun s5 S5 => ?_) (.inr hl)
      refine wpAny_mono ((hsu a o4 cls d (X.pn ++ pins) z4 ⟨_, d4⟩).run [] s5 _ H1 _ S5 (yes rfl a o4 na z4 ⟨_, d4⟩)) (fun f s6 q => ?_) (fun _ _ z => z.elim)
      cases f with
      | next =>
        obtain ⟨σ6, H6, S6, q6⟩ := q
        obtain ⟨p1, p2, p3, p4, p5⟩ := S6.pin (a, o4) (List.mem_append_left _ List.mem_cons_self)
        have J6 : Inv X pins σ6 H6 s6 := S6.unsuite ok
        have n0 : a ∉ X.ex → X.s_0.heap.get? a = none := fun hx => by
          cases q : X.s_0.heap.get? a with
          | none => rfl
          | some o =>
            obtain ⟨o', q'⟩ := J.base.there a o q hx
            rw [sIn] at q'
            cases q'
        have npin : ∀ p ∈ X.pn ++ pins, p.1 ≠ a := fun p hp e => by
          have := (J.pin p hp).1
          rw [e, sIn] at this
          cases this
        exact gone_ok (inv_adopt J6 p1 p2 p3 p5 n0 npin) hN hi hl fun s7 J7 => ⟨_, _, J7, q6⟩
      | brk =>
        obtain ⟨σ6, H6, S6, q6⟩ := q
        exact q6.elim
      | cont =>
        obtain ⟨σ6, H6, S6, q6⟩ := q
        exact q6.elim
      | ret u =>
        obtain ⟨v6, σ6, H6, S6, r6, q6⟩ := q
        exact q6.elim
    | false =>
      show wpAny _ X.A (handleBy (.ref a) X.env []) _ _ _
      refine wpAny_handleBy_nil ?_
      obtain ⟨k1, k2, k3, oe, vs, T, oT, ts', he, hz, hd, h1, hr⟩ := id fl
      unfold PySem.passOn
      refine wpAny_bind (wpAny_field he hd h1 ?_)
      rw [if_neg (show ¬ ((Value.ref T == Value.none) = true) from by simp)]
      have last : wpAny (model X.prog X.w) X.A (setFlight (.ref a) X.env.frame) (fun _ t4 => wpAny (model X.prog X.w) X.A (throw (.ref a) : Sem Flow) (SP X pins D) X.xe t4) X.xe { t with heap := g } := by
        rw [hf]
        refine HandSPX.setFlight_upZ fl fun g4 hh ug4 => wpAny_throw (tk _ _ ?_)
        exact ⟨a, B, sI, pins, σ1, H1, cls, d, rfl, J, nb, (up.trans ug).trans ug4, .inr (.inr (by rw [hs]; exact hh)), na, os, ag, no rfl⟩
      first
        | exact wpAny_bind (wpAny_pure (wpAny_bind last))
        | exact wpAny_bind last
  · cases f with
    | next =>
      obtain ⟨σ1, H1, J1, q1⟩ := q
      exact wpAny_execs_nil ⟨σ1, H1, J1.ofTry ok, q1⟩
    | brk =>
      obtain ⟨σ1, H1, J1, q1⟩ := q
      exact ⟨σ1, H1, J1.ofTry ok, q1⟩
    | cont =>
      obtain ⟨σ1, H1, J1, q1⟩ := q
      exact ⟨σ1, H1, J1.ofTry ok, q1⟩
    | ret u =>
      obtain ⟨v, σ1, H1, J1, r, q1⟩ := q
      exact ⟨v, σ1, H1, J1.ofTry ok, r, q1⟩
end
end HD

/-! HX1: raise, and try .. except X as e: caught = e. -/
namespace HD
open PySem L2
/-- an own exception class over ValueError, without an __init__ of its own -/
structure XOk (G : GG) (x : Str) : Prop where
  mg : G.mg x = some (clsV G.K x)
  exc : (He.Fa.exc x).ok G.K = true
def sRaise (x : Str) : DTS := fun Ex _ env => Ex x env
section
variable {G : GG} {N : List Str} {sc : SC} {k : Nat}
theorem ds_raise {x m : Str} {j : Nat} {p p2 pos pos' : Pos} (h : XOk G x) (hg : GlS sc x := by rfl) (hdb : (x == ("__debug__" : Str)) = false := by decide) :
    DS G N sc k (.Raise (some (.Call (.Name x p) [.Constant (.str m) j p2] [] pos)) none pos') (sRaise x) := ⟨fun W => by
  obtain ⟨q1, q2, q3, q4⟩ := He.exc_ok h.exc
  refine ⟨fun _ σ H => W (clsV G.K x) none σ H, fun X S => ?_, fun e Ex hl env F σ H E Dn hh ht ok => hl x env F σ H hh ht⟩
  have a1 : PySem.W.excIn X.K (He.ga G.K x) He.veBase "ValueError.__new__" = true := by rw [S.K]; exact q1
  have a2 : PySem.W.keepIn X.K (.ref (He.ga G.K x)) = true := by rw [S.K]; exact q2
  have a3 : Raises X (.ref (He.ga G.K x)) := raises_own (by rw [S.K]; exact q3) (by rw [S.K]; exact q4)
  have a4 : X.mg x = some (.ref (He.ga G.K x)) := by rw [S.mg]; exact h.mg
  have a5 : Gl X x := S.gl hg
  exact ps_raise S.calm S.tk (pmk_own PySem.F.excBase_ValueError a1 a4 a2 a3 a5 hdb)⟩
/-- the classes cs are caught by x -/
structure XCat (G : GG) (x : Str) (cs : List Str) : Prop where
  mg : G.mg x = some (clsV G.K x)
  exm : ∀ c ∈ cs, PySem.W.exmOne G.K (clsV G.K c) (clsV G.K x) = some true
def sTryKeep (cs : List Str) (i j : Nat) (t : DTS) : DTS := fun _ E env => t (fun c env1 => c ∈ cs ∧ i < env1.length ∧ E.nx ((env1.set j (.ext (.exc c))).set i .un)) E env
theorem ds_tryKeep {x n m : Str} {cs : List Str} {body : List Stmt} {t : DTS} {np pm pn ap pos pos' : Pos} (i j : Nat) (hx : XCat G x cs) (hb : DSs G N sc k body t) (htop : sc.top = true := by rfl) (hi : N[i]? = some n := by rfl) (hj : N[j]? = some m := by rfl) (hij : i ≠ j := by decide)
    (hg : GlS sc x := by rfl) (hn : sc.sc.names.lookup n = some .local := by rfl) (hm : sc.sc.names.lookup m = some .local := by rfl) (hdb : (x == ("__debug__" : Str)) = false := by decide)
    (hdn : (n == ("__debug__" : Str)) = false := by decide) (hcn : (n == ("__classdict__" : Str)) = false := by decide) (hs : ∀ env, env.scope = sc.sc → swapsWith (.Name n pn) (some (.Name m pm)) ap.line env = pure false := by intro _ _; rfl) :
    DS G N sc k (.Try body [.ExceptHandler (some (.Name x np)) (some n) [.Assign [.Name m pm] (.Name n pn) ap] pos'] [] [] pos) (sTryKeep cs i j t) := ⟨fun W => by
  have tb : ∀ W' : WX, ∃ ts, (∀ X, Sit G N sc W' k X → PSs X body ts) ∧ ImS G.K W' ts t := hb.ex
  let ts : WX → TS := fun W' => Classical.choose (tb W')
  have p1 : ∀ W' X, Sit G N sc W' k X → PSs X body (ts W') := fun W' => (Classical.choose_spec (tb W')).1
  have i1 : ∀ W', ImS G.K W' (ts W') t := fun W' => (Classical.choose_spec (tb W')).2
  let su : Addr → Value → Option Addr → TS := fun _ _ _ => tAsg (tVar i) (gName j)
  refine ⟨fun D σ H => ts (wKeep G.K (clsV G.K x) i su W D) D σ H, fun X S => ?_, fun e Ex hl env F σ H E Dn hh ht ok => ?_⟩
  · have hk : X.env.kindOf n = some .local := by unfold Env.kindOf; rw [S.scp]; exact hn
    have key := ps_try_keep (X := X) (x := x) (n := n) (c := clsV G.K x) (i := i) (body := body) (suite := []) (b0 := .Assign [.Name m pm] (.Name n pn) ap) (np := np) (pos := pos) (pos' := pos') (tb := ts) (ts := su) (Wout := W)
      (S.stk htop).1 (S.stk htop).2 (by rw [S.nms]; exact S.nd) (by rw [S.nms]; exact hi) hk ⟨S.gl hg, hdb, .inl (by rw [S.mg]; exact hx.mg)⟩ S.tk
      (fun W' pn xe tk own => p1 W' _ ⟨S.prog, S.w, S.K, S.mg, S.base, S.nms, S.nd, S.scp, S.calm, S.room, tk, S.fn, own, S.stk, S.gd⟩)
      (fun a oe cls d pn hz hd => pss_one (ps_set (X := X.suite a ((a, oe) :: pn)) (i := j) (by rw [show (X.suite a ((a, oe) :: pn)).N = N from S.nms]; exact S.nd) (by rw [show (X.suite a ((a, oe) :: pn)).N = N from S.nms]; exact hj) (.inl (by show X.env.kindOf m = _; unfold Env.kindOf; rw [S.scp]; exact hm)) (pe_var (by rw [show (X.suite a ((a, oe) :: pn)).N = N from S.nms]; exact hi) (.inl hk) hdn hcn) (hs _ S.scp) (.inr (by show X.env.scope.names.lookup m = _; rw [S.scp]; exact hm))))
    rw [S.K] at key
    exact key
  · refine i1 _ e _ (fun c env1 F1 σ1 H1 h1 q1 => ?_) env F σ H E Dn hh ht ok
    obtain ⟨hc, hil, q⟩ := q1
    refine ⟨true, hx.exm c hc, fun _ a oe na zc hd => ?_, fun z => by cases z⟩
    have g := Grow.frozen (o := .frz oe (.own a)) h1.fh na
    have h2 := h1.grow g
    have rp : Rep G.K (upd F1 a (.frz oe (.own a))) (.exc c) (.ref a) := ⟨a, oe, rfl, upd_same, zc.1, zc.2, hd⟩
    have h3 := ((h2.pushE rp).assign j trivial).wipe1 i
    have e1 : (((σ1.set i (some (V.ref a))).set j (some (V.ref a))).set i none) = (σ1.set j (some (V.ref a))).set i none := by
      rw [List.set_comm _ _ hij, List.set_set]
    refine ⟨.ref a, ?_, ?_⟩
    · rw [List.getElem?_set_self (by rw [← h1.len]; exact hil)]
    · show Dn.nx (((σ1.set i (some (V.ref a))).set j (some (V.ref a))).set i none) _
      rw [e1]
      exact ok.nx _ _ _ _ h3 q⟩
end
end HD

/-! HX2: defs as values, called through a name. -/
namespace HD
open PySem L2
abbrev FTab := Str → Option (Nat × DSpec)
structure Defs (G : GG) (kf : Nat) (FT : FTab) : Prop where
  all : ∀ nm n spec, FT nm = some (n, spec) → (∃ k', k' ≤ kf ∧ Def G k' nm n spec) ∧ G.mg nm = some (clsV G.K nm)
def dCallV (FT : FTab) (i : Nat) (ta : DTA) : DT := fun Ex env Q => match env[i]? with
  | some (.ext (.glo nm)) => ∃ n spec, FT nm = some (n, spec) ∧ dCall spec ta Ex env Q
  | _ => False
def tCallV (K : PySem.W.Frag) (FT : FTab) (W : WX) (i : Nat) (t : TA) : TE := fun σ H Q => ∃ nm n spec, σ[i]? = some (some (.ref (He.ga K nm))) ∧ FT nm = some (n, spec) ∧ tCallS (toSp K n spec) (WE W) t σ H Q
section
variable {G : GG} {N : List Str} {sc : SC} {k kf : Nat} {x : Str} {FT : FTab} {e : Expr} {es : List Expr} {p pos : Pos}
theorem de_glo {x : Str} {pos : Pos} (hm : G.mg x = some (clsV G.K x)) (hg : GlS sc x := by rfl) (hd : (x == ("__debug__" : Str)) = false := by decide) : DE G N sc k (.Name x pos) (dC (.glo x)) :=
  ⟨fun _ => ⟨tC (.ref (He.ga G.K x)), fun X S => pe_glob (S.gl hg) (by rw [S.mg]; exact hm) rfl hd, im_const fun _ => rfl⟩⟩
theorem de_callV {ta : DTA} (i : Nat) (d : Defs G kf FT) (ha : DAs G N sc k (e :: es) ta) (hk : kf ≤ k := by decide) (hN : N[i]? = some x := by rfl)
    (hv : Vis sc.sc x := by first | exact Or.inl rfl | exact Or.inr (Or.inl rfl) | exact Or.inr (Or.inr rfl)) (hdb : (x == ("__debug__" : Str)) = false := by decide) (hcd : (x == ("__classdict__" : Str)) = false := by decide)
    (he : NoStar e es := by intro _; rfl) (hpl : ∀ env, (backTo pos (starEach es env)).any (·.1) = false := by intro _; rfl) :
    DE G N sc k (.Call (.Name x p) (e :: es) [] pos) (dCallV FT i ta) := ⟨fun W => by
  obtain ⟨te, p1, i1⟩ := ha.ex W
  refine ⟨tCallV G.K FT W i te, fun X S => ?_, fun e Ex hl env T F σ H Q R hh ht hR => ?_⟩
  · refine ⟨fun pins s σ H Q I h => ?_⟩
    obtain ⟨nm, n, spec, hs, hf, ht⟩ := h
    obtain ⟨⟨k', hk', dd⟩, hm⟩ := d.all nm n spec hf
    obtain ⟨f, fd, ps, h1, h2, h3, h4⟩ := dd.ex
    have ef : f = He.ga G.K nm := by
      rw [hm] at h2
      cases h2
      rfl
    subst ef
    rw [← S.prog, ← S.w, ← S.K, ← S.mg, ← S.base] at h1
    rw [← S.K] at h3 h4
    have ev := (pe_var (pos := p) (by rw [S.nms]; exact hN) (S.vis hv) hdb hcd).run pins s σ H (fun v H1 => v = .ref (He.ga G.K nm) ∧ H1 = H) I ⟨_, hs, rfl, rfl⟩
    refine wpAny_Call_Name_kw (thn ev fun u s1 ⟨v, H1, I1, r1, q1⟩ => ?_)
    obtain ⟨rfl, rfl⟩ := q1
    cases r1
    rw [S.K] at h3
    refine PySem.W.callWith_K (h₀ := X.base) I1.ok.mod.kin (by rw [S.K]; exact h3) (thn ((p1 X S).run pos pins s1 σ _ _ I1 ht) fun us s2 ⟨vs, H2, I2, r, q⟩ => ⟨I2.kIn, ?_⟩) (he _) (hpl _)
    rw [S.K] at h1 h4
    have h1' : FnG X.prog X.w X.K X.mg X.base (L2.CX X.prog X.w) k' (He.ga G.K nm) fd ps (toSp G.K n spec) := by rw [S.K]; exact h1
    exact runG (E := WE W) h1' S.gd (S.room.mono (Nat.le_trans hk' hk)) (by rw [S.K]; exact h4) (passAt S.tk σ) I2 r q
  · unfold dCallV at ht
    split at ht
    · rename_i nm hi
      obtain ⟨n, spec, hf, ht⟩ := ht
      rcases hh.slots i _ hi with z | ⟨v, hv, ok⟩
      · cases z
      · have ev : v = .ref (He.ga G.K nm) := ok
        subst ev
        exact ⟨nm, n, spec, hv, hf, im_call i1 (let ⟨_, _, dd⟩ := (d.all nm n spec hf).1; dd.len) e Ex hl env T F σ H Q R hh ht hR⟩
    · exact ht.elim⟩
end
end HD

/-! HX3: isinstance of a caught exception of an own class. -/
namespace HD
open PySem L2
/-- what isinstance asks of an own exception class, as one check -/
def isxB (K : PySem.W.Frag) (x : Str) : Bool :=
  decide (PySem.W.findIn K (clsV K x) "__getattribute__" = some (some (.builtin "BaseException.__getattribute__"))) && (decide (PySem.W.findIn K (clsV K x) "__getattr__" = some none) && (decide (PySem.W.subIn K (clsV K x) (.type "BaseException") = some true) &&
    (PySem.W.hasDictIn K (He.ga K x) && (decide (PySem.W.findIn K (clsV K x) "__class__" = some (some (.builtin "object.__class__"))) && (decide (PySem.W.specialIn K (.builtin "object.__class__") "__get__" = some (some (.builtin "getset_descriptor.__get__"))) &&
      (decide (PySem.W.takesIn K (.builtin "object.__class__") = some true) && decide (PySem.W.mroIn K (He.ga K x) (.type "object") = some true)))))))
theorem isx_kit {K : PySem.W.Frag} {x : Str} {a : Addr} {oe : Obj} (h : isxB K x = true) : PySem.W.KitX K (.ref a) (clsV K x) (fun g => PySem.W.InstAt g a oe (He.ga K x) none) := by
  unfold isxB at h
  simp only [Bool.and_eq_true, decide_eq_true_eq] at h
  obtain ⟨h1, h2, h3, h4, h5, h6, h7, h8⟩ := h
  exact PySem.W.handS_kitx_exc h1 h2 h3 h4 h5 h6 h7 h8
abbrev XTab := Str → D → Option Bool
def D.clsVal (K : PySem.W.Frag) : D → Option Value
  | .glo x => some (clsV K x)
  | .val (.ty T) => some (.type T)
  | _ => none
/-- the table tells what isinstance tells -/
structure XIs (K : PySem.W.Frag) (tab : XTab) : Prop where
  all : ∀ c d b, tab c d = some b → isxB K c = true ∧ ∃ u, D.clsVal K d = some u ∧ PySem.W.kitOne K (clsV K c) u = some b
def fIsX (tab : XTab) : List D → (Sl → Prop) → Prop
  | [.exc c, d], Q => ∃ b, tab c d = some b ∧ Q (.ext (.bl b))
  | _, _ => False
def rIsX (K : PySem.W.Frag) : List V → Hp → VK → Prop := fun xs H Q => ∃ (a : Addr) (oe : Obj) (x : Str) (v : V) (u : Value) (b : Bool), xs = [.ref a, v] ∧ H a = some (.frz oe (.own a)) ∧ oe.cls = clsV K x ∧ oe.dict = none ∧ (∃ vs, oe.data = .fields vs) ∧
  isxB K x = true ∧ (∀ w, RelV v w → w = u) ∧ PySem.W.kitOne K (clsV K x) u = some b ∧ Q (.bl b) H
theorem call_isX {X : Cx} : CallR X (.builtin "isinstance") (rIsX X.K) := by
  intro pins s σ H xs us Q I r h
  obtain ⟨a, oe, x, v, u, b, rfl, hH, hc, hd, ⟨vs, hf⟩, hx, hv, e, q⟩ := h
  obtain ⟨u1, u2, rfl, r1, r2⟩ := vals2 r
  cases (show u1 = Value.ref a from r1)
  have e2 := hv _ r2
  subst e2
  have ho := (I.hok a _ hH).1
  have ia : PySem.W.InstAt s.heap a oe (He.ga X.K x) none := ⟨ho, hc, by unfold PySem.W.notCls; rw [hf], by rw [hd]; trivial⟩
  exact PySem.W.kia_one (isx_kit hx) I.kIn ia e (by intro z; cases z) fun tk => ⟨.bl b, H, I.tok tk, rfl, q⟩
theorem pr_isX {K : PySem.W.Frag} {tab : XTab} (T : XIs K tab) : Pr K (rIsX K) (fIsX tab) := fun F H vs ds Q R fh h hf ha => by
  rcases ds with _ | ⟨d1, _ | ⟨d, _ | ⟨d3, ds⟩⟩⟩ <;> try exact hf.elim
  · cases d1 <;> exact hf.elim
  · cases d1 <;> try exact hf.elim
    rename_i c
    obtain ⟨b, hb, q⟩ := hf
    obtain ⟨h1, u, h2, h3⟩ := T.all c d b hb
    obtain ⟨v1, r1, rfl, g1, v2, r2, rfl, g2, rfl⟩ := h
    have g1' : Rep K F (.exc c) v1 := by
      rcases g1 with z | ⟨_, _, _, z, _⟩
      · exact z
      · cases z
    obtain ⟨a, oe, rfl, x1, x2, x3, x4⟩ := g1'
    refine ⟨a, oe, c, v2, u, b, rfl, fh _ _ x1, x2, x3, x4, h1, fun w hw => ?_, h3, ha.bl fh q⟩
    rcases g2 with z | ⟨_, _, _, z, _⟩
    · cases d with
      | glo y =>
        have e1 : v2 = .ref (He.ga K y) := z
        subst e1
        have e2 : w = .ref (He.ga K y) := hw
        cases h2
        exact e2
      | val y =>
        have e1 : v2 = y := z
        subst e1
        cases v2 with
        | ty T =>
          cases h2
          exact hw
        | _ => cases h2
      | _ => cases h2
    · subst z
      cases h2
  · cases d1 <;> exact hf.elim
section
variable {G : GG} {N : List Str} {sc : SC} {k : Nat} {e : Expr} {es : List Expr} {t : DTA} {p pos : Pos} {tab : XTab}
theorem de_isX (T : XIs G.K tab) (hm : G.mg "isinstance" = none) (ha : DAs G N sc k (e :: es) t) (hg : GlS sc "isinstance" := by rfl)
    (he : NoStar e es := by intro _; rfl) (hpl : ∀ env, (backTo pos (starEach es env)).any (·.1) = false := by intro _; rfl) : DE G N sc k (.Call (.Name "isinstance" p) (e :: es) [] pos) (dCB (fIsX tab) t) := ⟨fun W => by
  obtain ⟨ta, p1, i1⟩ := ha.ex W
  refine ⟨tCB (rIsX G.K) ta, fun X S => ?_, im_cb (pr_isX T) i1⟩
  have c : CallR X (.builtin "isinstance") (rIsX X.K) := call_isX
  rw [S.K] at c
  exact pe_callB c (S.gl hg) (by rw [S.mg]; exact hm) (by decide +kernel) (p1 X S) (by decide) (by decide) (he _) (hpl _)⟩
end
end HD

/-! HX4: methods of a value, count, split; the table of refusals; the head's own check. -/
namespace HD
open PySem PyProof.Rows L2
section
variable {X : Cx}
def rCntV (K : PySem.W.Frag) : V → List V → Hp → VK → Prop := fun x xs H Q => ∃ (a : Addr) (ys : List V) (y : V), x = V.ref a ∧ xs = [y] ∧ SqL K H a ys ∧ flatV y = true ∧ ys.all flatV = true ∧ Q (.int ((ys.countP fun z => eqV z y : Nat) : Int)) H
theorem mt_countF : MtR X "list.count" (rCntV X.K) := by
  intro pins s σ H x xs v us Q I rx rs h
  obtain ⟨p, ys, y, rfl, rfl, hs, fy, fys, q⟩ := h
  cases rx
  obtain ⟨u, rfl, ru⟩ := vals1 rs
  obtain ⟨its, r, ⟨⟨cls, dd, data, sl⟩, n, ho, hc, hdn, hd⟩, hlen⟩ := I.list hs
  simp only at hc hd
  subst hc hd
  have ec : ∀ {zs : List V} {ws : List Value}, Vals zs ws → zs.all flatV = true → ws.countP (eqU y) = zs.countP fun z => eqV z y := by
    intro zs ws rv
    induction rv with
    | nil => intro _; rfl
    | cons r1 rr ih =>
      intro hf
      rw [List.all_cons, Bool.and_eq_true] at hf
      rw [List.countP_cons, List.countP_cons, ih hf.2, eqU_of r1 hf.1]
  refine call_meets PySem.F.slot_list_count ⟨_, ho, rfl⟩ PySem.F.entry_list_count (PySem.F.args_list_count_2 _ _)
    (SeqAt.list_countAt p its.toArray n dd sl u (eqU y)) ⟨ho, fun w hw => mem_eqAt ru fy r fys w (by simpa using hw), ?_⟩
  refine ⟨.int ((ys.countP fun z => eqV z y : Nat) : Int), H, I.tok _, ⟨s.toks, ?_⟩, q⟩
  show Value.int ((its.toArray.toList.countP (eqU y) : Nat) : Int) s.toks = _
  rw [show its.toArray.toList = its from rfl, ec r fys]
end
/-- a method with one argument -/
def dMeth (T : D → Bool) (f : D → D → (Sl → Prop) → Prop) (to ta : DT) : DT := fun Ex env Q => to Ex env fun x env1 => wd env1 x (fun d => T d = true) ∧ ta Ex env1 fun y env2 => wd env2 x fun d => wd env2 y fun d' => f d d' fun sl => Q sl env2
def TyIs (K : PySem.W.Frag) (tn : String) (T : D → Bool) : Prop := ∀ F H d v, Same F H → RepT K F H d v → T d = true → tyV K tn v H
def D.isLst : D → Bool
  | .lst _ => true
  | _ => false
def D.isStr : D → Bool
  | .str _ => true
  | _ => false
theorem ty_lst {K : PySem.W.Frag} : TyIs K "list" D.isLst := fun F H d v fh r h => by
  cases d with
  | lst ds =>
    obtain ⟨a, vs, rfl, hs, _⟩ := r.lst fh
    exact .inl ⟨rfl, vs, SqL.of hs⟩
  | _ => exact absurd h (by simp [D.isLst])
theorem ty_str {K : PySem.W.Frag} : TyIs K "str" D.isStr := fun F H d v fh r h => by
  cases d with
  | str x => rw [r.str]; rfl
  | _ => exact absurd h (by simp [D.isStr])
section
variable {G : GG} {N : List Str} {sc : SC} {k : Nat} {a b : Expr} {ta tb : DT} {name : Str} {apos cpos : Pos} {tn id : String} {T : D → Bool} {r : PySem.W.Frag → V → List V → Hp → VK → Prop} {f : D → D → (Sl → Prop) → Prop}
theorem de_meth (pa : PlainAttrs tn) (slot : Slot tn name id) (hty : typeOf (.builtin id) = pure (.type "method_descriptor")) (hm : ∀ X : Cx, MtR X id (r X.K)) (hT : ∀ K, TyIs K tn T) (hr : ∀ K, Pr2 K (fun v u H R => r K v [u] H R) f) (ha : DE G N sc k a ta) (hb : DE G N sc k b tb)
    (hw : FewArgs a name b [] cpos := by intro _; exact ⟨rfl, rfl, rfl, rfl⟩) (hline : (apos.endLine == cpos.line) = true := by rfl) : DE G N sc k (.Call (.Attribute a name apos) [b] [] cpos) (dMeth T f ta tb) := ⟨fun W => by
  obtain ⟨te, p1, i1⟩ := ha.ex W
  obtain ⟨tf, p2, i2⟩ := hb.ex W
  refine ⟨tBM G.K tn (r G.K) te (tCons tf tNil), fun X S => ?_, fun e Ex hl env T' F σ H Q R hh ht hR => ?_⟩
  · obtain ⟨hbase, hfew, hs, hplain⟩ := hw X.env
    rw [← S.K]
    exact pe_bm pa slot hty (hm X) (p1 X S) (pa_cons (p2 X S) pa_nil hs) hbase hfew hline hs hplain
  · refine i1 e Ex hl env T' F σ H _ _ hh ht fun v H1 F1 env1 x hh1 q1 => ?_
    obtain ⟨q0, q1⟩ := q1
    obtain ⟨d0, rd0, h0⟩ := hh1.wd (v := v) (sl := x) List.mem_cons_self q0
    refine ⟨hT G.K F1 H1 d0 v hh1.fh rd0 h0, ?_⟩
    refine i2 e Ex hl env1 _ F1 σ H1 _ _ hh1 q1 fun u H2 F2 env2 y hh2 q2 => ?_
    obtain ⟨d, rd, q3⟩ := hh2.wd (v := v) (sl := x) (List.mem_cons_of_mem _ List.mem_cons_self) q2
    obtain ⟨d', rd', q4⟩ := hh2.wd (v := u) (sl := y) List.mem_cons_self q3
    exact hr G.K F2 H2 v u d d' _ R hh2.fh rd rd' q4 (hh2.pop.pop.done hR)⟩
end
def fCount (d d' : D) (Q : Sl → Prop) : Prop := match d with
  | .lst ds => d'.flat = true ∧ ds.all D.flat = true ∧ Q (.ext (.int ((ds.countP fun z => eqV z.toV d'.toV : Nat) : Int)))
  | _ => False
theorem pr_count (K : PySem.W.Frag) : Pr2 K (fun v u H R => rCntV K v [u] H R) fCount := fun F H v u d d' Q R fh r1 r2 h ha => by
  cases d <;> try exact h.elim
  rename_i ds
  obtain ⟨f1, f2, q⟩ := h
  obtain ⟨a, vs, rfl, hs, rr⟩ := r1.lst fh
  obtain ⟨x1, x2⟩ := flat_rep (r2.rep fh) f1
  obtain ⟨e1, e2⟩ := flat_reps rr f2
  refine ⟨a, vs, u, rfl, rfl, SqL.of hs, x2, e2, ?_⟩
  rw [x1, e1, List.countP_map]
  exact ha.int fh q
def fSplit (d d' : D) (Q : Sl → Prop) : Prop := match d, d' with
  | .str a, .str b => (b.length == 0) = false ∧ a.length + 2 ≤ sizeLine ∧ ∀ p, Q (.lst p ((Txt.split a b).map D.str))
  | _, _ => False
theorem Reps.of_strs {K : PySem.W.Frag} {F : Hp} : ∀ (ns : List Str), Reps K F (ns.map D.str) (ns.map V.str)
  | [] => rfl
  | n :: ns => ⟨_, _, rfl, rfl, Reps.of_strs ns⟩
theorem pr_split (K : PySem.W.Frag) : Pr2 K (fun v u H Q => ∃ a b, v = .str a ∧ [u] = [.str b] ∧ (b.length == 0) = false ∧ a.length + 2 ≤ sizeLine ∧ rNewStrs (Txt.split a b) H Q) fSplit := fun F H v u d d' Q R fh r1 r2 h ha => by
  cases d <;> try exact h.elim
  cases d' <;> try exact h.elim
  rename_i a b
  obtain ⟨f1, f2, q⟩ := h
  refine ⟨a, b, r1.str, by rw [r2.str], f1, f2, fun p hp => ?_⟩
  exact ha.lst fh hp (Reps.of_strs _) (q p)
section
variable {G : GG} {N : List Str} {sc : SC} {k : Nat} {a b : Expr} {ta tb : DT} {apos cpos : Pos}
theorem de_count (ha : DE G N sc k a ta) (hb : DE G N sc k b tb) (hw : FewArgs a "count" b [] cpos := by intro _; exact ⟨rfl, rfl, rfl, rfl⟩) (hline : (apos.endLine == cpos.line) = true := by rfl) : DE G N sc k (.Call (.Attribute a "count" apos) [b] [] cpos) (dMeth D.isLst fCount ta tb) :=
  de_meth (r := rCntV) PySem.F.plainAttrs_list PySem.F.slot_list_count PySem.F.type_list_count (fun _ => mt_countF) (fun _ => ty_lst) pr_count ha hb hw hline
theorem de_split (ha : DE G N sc k a ta) (hb : DE G N sc k b tb) (hw : FewArgs a "split" b [] cpos := by intro _; exact ⟨rfl, rfl, rfl, rfl⟩) (hline : (apos.endLine == cpos.line) = true := by rfl) : DE G N sc k (.Call (.Attribute a "split" apos) [b] [] cpos) (dMeth D.isStr fSplit ta tb) :=
  de_meth (r := fun _ => fun x xs H Q => ∃ a b, x = .str a ∧ xs = [.str b] ∧ (b.length == 0) = false ∧ a.length + 2 ≤ sizeLine ∧ rNewStrs (Txt.split a b) H Q) PySem.F.plainAttrs_str PySem.F.slot_str_split PySem.F.type_str_split (fun _ => mt_split) (fun _ => ty_str) pr_split ha hb hw hline
end
/-! ### the refusals -/
def xAll : List Str := ["NoFilling", "NoName", "TooMany", "NoDeeds", "NoOffers", "NoTree", "NoBag", "NoPart", "NoWorths", "NoBack", "NoWeights", "NoNumber", "NoRow", "NoText"]
def xtab (cs : List Str) : XTab := fun c d => if c ∈ cs then (match d with
  | .glo x => if x ∈ xAll then some (decide (x = c)) else none
  | .val (.ty T) => if T = "ValueError" then some true else none
  | _ => none) else none
def xsB (cs : List Str) (K : PySem.W.Frag) : Bool := cs.all fun c => isxB K c && ((xAll.all fun x => decide (PySem.W.kitOne K (clsV K c) (clsV K x) = some (decide (x = c)))) && (decide (PySem.W.kitOne K (clsV K c) (.type "ValueError") = some true) && decide (PySem.W.exmOne K (clsV K c) (clsV K "SumError") = some true)))
theorem xis_of {cs : List Str} {K : PySem.W.Frag} (h : xsB cs K = true) : XIs K (xtab cs) := ⟨fun c d b e => by
  unfold xtab at e
  split at e
  · rename_i hc
    have h := List.all_eq_true.1 h c hc
    simp only [Bool.and_eq_true, decide_eq_true_eq, List.all_eq_true] at h
    obtain ⟨h1, h2, h3, h4⟩ := h
    refine ⟨h1, ?_⟩
    split at e
    · rename_i x
      split at e
      · rename_i hx
        cases e
        exact ⟨_, rfl, h2 x hx⟩
      · cases e
    · rename_i T
      split at e
      · rename_i hT
        cases e
        subst hT
        exact ⟨_, rfl, h3⟩
      · cases e
    · cases e
  · cases e⟩
theorem xcat_of {cs : List Str} {G : GG} (h : xsB cs G.K = true) (hm : G.mg "SumError" = some (clsV G.K "SumError")) : XCat G "SumError" cs := ⟨hm, fun c hc => by
  have h := List.all_eq_true.1 h c hc
  simp only [Bool.and_eq_true, decide_eq_true_eq, List.all_eq_true] at h
  exact h.2.2.2⟩
/-! ### the head's hook, with a check of one's own -/
def hookE (n : Nat) (fa : List He.Fa) (fn : List He.DefD) (ex : PySem.W.Frag → Bool) : PySem.W.Hook where
  α := He.AlD × Bool
  obs := fun s => (He.obsDG n fa fn s.heap.get?, ex (He.frG s.heap.get? (He.asD s.heap.get? n)))
  val := fun _ => (He.valD fn, true)
  says := fun _ h => ∃ K : PySem.W.Frag, K.In h ∧ He.SaysD fa fn K ∧ ex K = true
  of := fun _ _ e => ⟨_, He.frG_in, congrArg (fun z : He.AlD × Bool => z.1) e, congrArg (fun z : He.AlD × Bool => z.2) e⟩
  keeps := fun _ _ _ ⟨K, hK, c⟩ k => ⟨K, PySem.W.Frag.In.keeps hK k, c⟩
def obsE (n : Nat) (fa : List He.Fa) (fn : List He.DefD) (ex : PySem.W.Frag → Bool) (g : Addr → Option Obj) : He.AlD × Bool := (He.obsDG n fa fn g, ex (He.frG g (He.asD g n)))
theorem obsE_eq {n : Nat} {fa : List He.Fa} {fn : List He.DefD} {ex : PySem.W.Frag → Bool} {g : Addr → Option Obj} {s : Shared} (h : ∀ a, g a = s.heap.get? a) : obsE n fa fn ex g = (hookE n fa fn ex).obs s := by
  have e : g = s.heap.get? := funext h
  rw [e] <;> rfl
end HD

/-! HL: loops and comprehensions over data, once for all -/
namespace HD
open PySem L2
section
variable {g : DTG} {tt : DTT} {te : DT} {vs : List Nat} {keep : Env' → Prop} {Q : Sl → Env' → Prop} {env : Env'} {α : Type}
theorem fm_if {α β : Type} (f : α → β) (p : α → Bool) (xs : List α) : xs.filterMap (fun x => if p x = true then some (f x) else none) = (xs.filter p).map f := by
  induction xs with
  | nil => rfl
  | cons y xs ih =>
    by_cases hy : p y = true
    · rw [List.filterMap_cons_some (b := f y) (by rw [if_pos hy]), List.filter_cons_of_pos hy, List.map_cons, ih]
    · rw [List.filterMap_cons_none (by rw [if_neg hy]), List.filter_cons_of_neg hy, ih]
/-- each item tells an element or none; the slots stay -/
theorem lc_fm (i : α → D) (f : α → Option D) (hk : keep env) (xs : List α) : ∀ acc : List D, acc.length + xs.length ≤ sizeLine →
    (∀ x ∈ xs, ∀ R : Option D → Env' → Prop, R (f x) env → g (i x) env fun env1 => tt noX env1 fun b env2 => if b = true then te noX env2 fun y env3 => frzD env3 y fun d' env4 => R (some d') (wipeE env4 vs) else R none (wipeE env2 vs)) →
    (∀ a, Q (.lst a (acc ++ xs.filterMap f)) env) → lcD g tt te vs keep Q (xs.map i) acc env := by
  induction xs with
  | nil => intro acc _ _ hQ; exact ⟨hk, fun a => by simpa using hQ a⟩
  | cons x xs ih =>
    intro acc hl h hQ
    rw [List.length_cons] at hl
    rw [List.map_cons, lcD]
    refine ⟨hk, by omega, h x List.mem_cons_self (fun o env' => match o with
      | some d' => lcD g tt te vs keep Q (xs.map i) (acc ++ [d']) env'
      | none => lcD g tt te vs keep Q (xs.map i) acc env') ?_⟩
    cases e : f x with
    | none =>
      refine ih acc (by omega) (fun y hy => h y (List.mem_cons_of_mem _ hy)) fun a => ?_
      have := hQ a
      rw [List.filterMap_cons_none e] at this
      exact this
    | some d =>
      refine ih (acc ++ [d]) (by rw [List.length_append, List.length_singleton]; omega) (fun y hy => h y (List.mem_cons_of_mem _ hy)) fun a => ?_
      have := hQ a
      rw [List.filterMap_cons_some e] at this
      rw [List.append_assoc]
      exact this
theorem lc_map (i f : α → D) (hk : keep env) (xs : List α) (hl : xs.length ≤ sizeLine)
    (h : ∀ x ∈ xs, ∀ R : D → Env' → Prop, R (f x) env → g (i x) env fun env1 => te noX env1 fun y env3 => frzD env3 y fun d' env4 => R d' (wipeE env4 vs))
    (hQ : ∀ a, Q (.lst a (xs.map f)) env) : lcD g dYes te vs keep Q (xs.map i) [] env := by
  refine lc_fm i (fun x => some (f x)) hk xs [] (by simpa using hl) (fun x hx R hR => ?_) (fun a => by simpa [List.filterMap_eq_map] using hQ a)
  have := h x hx (fun d e => R (some d) e) hR
  simp only [dYes, if_true]
  exact this
theorem lc_filter (i f : α → D) (p : α → Bool) (hk : keep env) (xs : List α) (hl : xs.length ≤ sizeLine)
    (h : ∀ x ∈ xs, ∀ R : Option D → Env' → Prop, R (if p x = true then some (f x) else none) env → g (i x) env fun env1 => tt noX env1 fun b env2 => if b = true then te noX env2 fun y env3 => frzD env3 y fun d' env4 => R (some d') (wipeE env4 vs) else R none (wipeE env2 vs))
    (hQ : ∀ a, Q (.lst a ((xs.filter p).map f)) env) : lcD g tt te vs keep Q (xs.map i) [] env := by
  refine lc_fm i (fun x => if p x = true then some (f x) else none) hk xs [] (by simpa using hl) h (fun a => ?_)
  have e := fm_if f p xs
  rw [List.nil_append, e]
  exact hQ a
/-- a comprehension whose element is what P lets it be; the slots may change -/
theorem lc_ind (i : α → D) (P : List α → List D → Env' → Prop) (hnil : ∀ acc env, P [] acc env → keep env ∧ ∀ a, Q (.lst a acc) env)
    (hcons : ∀ x xs acc env (N : List D → Env' → Prop), P (x :: xs) acc env → (∀ acc' env', P xs acc' env' → N acc' env') → keep env ∧ acc.length < sizeLine ∧ g (i x) env fun env1 => tt noX env1 fun b env2 => if b = true then te noX env2 fun y env3 => frzD env3 y fun d' env4 => N (acc ++ [d']) (wipeE env4 vs) else N acc (wipeE env2 vs)) :
    ∀ (xs : List α) (acc : List D) (env : Env'), P xs acc env → lcD g tt te vs keep Q (xs.map i) acc env := by
  intro xs
  induction xs with
  | nil => intro acc env h; exact hnil acc env h
  | cons x xs ih =>
    intro acc env h
    rw [List.map_cons, lcD]
    exact hcons x xs acc env (fun acc' env' => lcD g tt te vs keep Q (xs.map i) acc' env') h fun acc' env' h' => ih acc' env' h'
end
section
variable {g : DTG} {body : DTS} {keep : Env' → Prop} {Ex : DX} {E : DEnds} {α : Type}
/-- a loop by what stands ahead of each turn -/
theorem for_ind (i : α → D) (P : List α → Env' → Prop) (hnil : ∀ env, P [] env → keep env ∧ E.nx env)
    (hcons : ∀ x xs env (N : Env' → Prop), P (x :: xs) env → (∀ env', P xs env' → N env') → keep env ∧ g (i x) env fun env1 => body Ex { E with nx := N, ct := N, bk := E.nx } env1) :
    ∀ (xs : List α) (env : Env'), P xs env → forD g body keep Ex E (xs.map i) env := by
  intro xs
  induction xs with
  | nil => intro env h; exact hnil env h
  | cons x xs ih =>
    intro env h
    rw [List.map_cons, forD]
    exact hcons x xs env _ h fun env' h' => ih env' h'
end
theorem for_indD {g : DTG} {body : DTS} {keep : Env' → Prop} {Ex : DX} {E : DEnds} (P : List D → Env' → Prop) (hnil : ∀ env, P [] env → keep env ∧ E.nx env)
    (hcons : ∀ x xs env (N : Env' → Prop), P (x :: xs) env → (∀ env', P xs env' → N env') → keep env ∧ g x env fun env1 => body Ex { E with nx := N, ct := N, bk := E.nx } env1)
    (xs : List D) (env : Env') (h : P xs env) : forD g body keep Ex E xs env := by
  have := for_ind (fun d : D => d) P hnil hcons xs env h
  rwa [List.map_id'] at this
theorem dCallV_w (FT : FTab) (i : Nat) (ta : DTA) (Ex : DX) (env : Env') (Q : Sl → Env' → Prop) : dCallV FT i ta Ex env Q = AtS env[i]? (fun d => match d with | .glo nm => ∃ n spec, FT nm = some (n, spec) ∧ dCall spec ta Ex env Q | _ => False) (fun _ _ => False) .mk .mk := by
  unfold dCallV AtS
  rcases env[i]? with _ | (_ | d | _ | _ | _) <;> try rfl
  cases d <;> rfl
end HD

/-! HX5: set(list of ints); abs, int of a truth; an expression that is never reached. -/
namespace HD
open PySem PySem.Spec PyProof.Rows L2
/-- an empty set, as set() lays it -/
abbrev eSet (w : World) : Obj := { cls := .type "set", dict := none, data := .set #[] 0 (.fresh 0 0 (!w.params.followText "set-order")) }
section
variable {P : Program} {w : World} {A : Around} {E : Value → Shared → Prop} {t : Shared}
theorem set_of_lst {q : Addr} {xs : Array Value} (ks : List Int) {Q : Value → Shared → Prop} (cool : A.handled = none) (isl : t.heap.IsList q xs) (hin : IntsAre xs.toList ks) (few : ks.length + 1 < scanBound)
    (done : ∀ (g : Heap) (tok c : Nat), SetR w g t.heap.objs.size (fun j => decide (j ∈ ks)) c → c ≤ ks.length → (∀ b o, t.heap.get? b = some o → g.get? b = some o) → Q (.ref t.heap.objs.size) { t with heap := g, toks := tok }) :
    wpAny (model P w) A (call (.type "set") [.ref q]) Q E t := by
  have len : xs.size = ks.length := by
    have z := IntsAre.length hin
    rwa [Array.length_toList] at z
  obtain ⟨c0, tl0, f1⟩ := F.called_set.mro
  have f2 := F.called_set.made
  have f3 := F.called_set.sub
  have f4 := F.called_set.notType
  have f5 := F.called_set.canCreate
  have f6 := F.typeCall_set_1 (.ref q)
  refine wpAny_call (codeAny_of_tree ?_)
  show wpAny _ _ (callAny (.type "set") _) _ _ _
  refine wpAny_pure ⟨Code.quiet_builtin _ (by decide +kernel), codeAny_builtin F.entry_type_call ?_⟩
  rw [Around.under_plain (weight_type_call_type "set" [.ref q] []) rfl]
  repeat (any_goals (first | assumption | wp_step))
  refine codeAny_mono (code_set_led1 (.ref q) (E := E) (Q₁ := fun v t1 => v = .ref t.heap.objs.size ∧ t1 = { t with heap := t.heap.push (eSet w) }) ⟨rfl, rfl⟩) fun res t1 hres => ?_
  cases res with
  | error x => exact hres
  | ok fl =>
    cases fl with
    | ret v =>
      obtain ⟨rfl, rfl⟩ := hres
      have new : (t.heap.push (eSet w)).get? t.heap.objs.size = some (eSet w) := Heap.get?_push_size _ rfl
      have ty : Shared.TypeIs { t with heap := t.heap.push (eSet w) } (.ref t.heap.objs.size) "set" := ⟨_, new, rfl⟩
      have f7 := F.called_set.init.lookup
      have f8 := F.called_set.init.bind (.ref t.heap.objs.size)
      repeat (any_goals (first | assumption | wp_step))
      refine codeAny_mono (codeAny_call_builtin (R := wants (fun v t2 => v = .none ∧ ∃ g tok c, t2 = { t with heap := g, toks := tok } ∧ SetR w g t.heap.objs.size (fun j => decide (j ∈ ks)) c ∧ c ≤ ks.length ∧
        (∀ b o, t.heap.get? b = some o → g.get? b = some o)) E) F.called_set.init.plain F.entry_set_init (check_set_init_1 ty ?_)) fun res2 t2 hres2 => ?_
      · obtain ⟨⟨lc, ld, lda, lsl⟩, at_q, cls_q, n_q, dat_q⟩ := isl
        simp only at cls_q dat_q
        subst cls_q
        subst dat_q
        have at_q1 : (t.heap.push (eSet w)).get? q = some { cls := .type "list", dict := ld, data := .seq xs n_q, slots := lsl } := Heap.get?_push_of_some _ at_q
        have f9 := F.sub_list_set
        have f10 := F.sub_list_frozenset
        have f11 : (Value.type "list" == Value.type "dict") = false := by decide
        have isl1 : (t.heap.push (eSet w)).IsList q xs := ⟨_, at_q1, rfl, n_q, rfl⟩
        have lt_q : q < t.heap.objs.size := Heap.lt_size at_q
        have cool3 : A.in1.in1.in1.handled = none := by simp [cool]
        have szp : (t.heap.push (eSet w)).objs.size = t.heap.objs.size + 1 := Heap.size_push ..
        have apart : q ≠ (t.heap.push (eSet w)).objs.size := by rw [szp]; exact Nat.ne_of_lt (Nat.lt_succ_of_lt lt_q)
        have away : t.heap.objs.size ∉ [(t.heap.push (eSet w)).objs.size, q] := by
          rw [szp]
          intro z
          rcases List.mem_cons.1 z with z | z
          · exact absurd z (Nat.ne_of_lt (Nat.lt_succ_self _))
          · exact absurd (List.mem_singleton.1 z).symm (Nat.ne_of_lt lt_q)
        have vals : ∀ (i : Nat) (v : Value), xs[i]? = some v → ∃ k u, ks[i]? = some k ∧ v = .int k u := fun i v hv => by
          have hi : i < ks.length := by rw [← len]; exact (Array.getElem?_eq_some_iff.mp hv).1
          obtain ⟨u, e⟩ := PyProof.Rows.IntsAre.int_at hin i v (by rw [Array.getElem?_toList]; exact hv)
          refine ⟨ks[i], u, List.getElem?_eq_getElem hi, ?_⟩
          rw [e, List.getD_eq_getElem?_getD, List.getElem?_eq_getElem hi] <;> rfl
        unfold Builtin.«set.__init__» noKeywords Builtin.Frozenset.updateFrom
        generalize hit : pyIter = it
        wp_walk
        subst hit
        refine wpAny_pyIter_list isl1 ?_
        refine wpAny_bind (wpAny_runValue ?_)
        refine set_update_ints ((Walks.list cool3 _ q apart xs).toS) t.heap.objs.size away ks len few vals (xs.size - 0) 0 _ (by omega) (Nat.zero_le _) ⟨⟨_, Heap.get?_push_size _ rfl, rfl, rfl⟩, (isl1.push _)⟩ ?start ?over
        case start => exact ⟨0, Nat.le_refl 0, setR_new_at (Heap.get?_push_of_some _ new)⟩
        case over =>
          intro t3 c mv hc hset
          obtain ⟨g, g2, d2, tok, os2⟩ := t3
          have e1 : g2 = t.gens := mv.gens
          have e2 : d2 = t.drawn := mv.drawn
          have e3 : os2 = t.os := mv.os
          subst e1
          subst e2
          subst e3
          show wpAny _ _ _ _ _ _
          refine wpAny_pure ?_
          show wpAny _ _ (ret Value.none) _ _ _
          rw [len] at hc
          refine wpAny_pure ⟨rfl, g, tok, c, rfl, hset, hc, fun b o e => mv.heap b o (fun z => ?_) (Heap.get?_push_of_some _ (Heap.get?_push_of_some _ e))⟩
          have lb := Heap.lt_size e
          rcases List.mem_cons.1 z with z | z
          · exact absurd z (Nat.ne_of_lt lb)
          · have z2 := List.mem_singleton.1 z
            rw [szp] at z2
            exact absurd z2 (Nat.ne_of_lt (Nat.lt_succ_of_lt lb))
      · cases res2 with
        | error x => exact hres2
        | ok fl2 =>
          cases fl2 with
          | ret v =>
            obtain ⟨rfl, g, tok, c, rfl, h1, h2, h3⟩ := hres2
            repeat (any_goals (first | assumption | wp_step))
            exact done _ _ _ h1 h2 h3
          | _ => exact hres2.elim
    | _ => exact hres.elim
end
def rSetLI (K : PySem.W.Frag) (w : World) : List V → Hp → VK → Prop := fun xs H Q => ∃ (a : Addr) (ns : List Int), xs = [.ref a] ∧ SqL K H a (ns.map V.int) ∧ ns.length + 1 < scanBound ∧ ∀ (p : Addr) (c : Nat), H p = none → c ≤ ns.length → Q (.ref p) (upd H p (SetO w p (fun j => decide (j ∈ ns)) c))
theorem cr_setLI {X : Cx} (hc : X.calm = true) : CallR X (.type "set") (rSetLI X.K X.w) := by
  intro pins s σ H xs us Q I r h
  obtain ⟨a, ns, rfl, hq, hb, q⟩ := h
  rw [Vals.ref1 r]
  obtain ⟨its, r', ⟨o, n, ho, h1, h2, h3⟩, _⟩ := I.list hq
  refine set_of_lst ns (I.ok.hd hc) (q := a) (xs := its.toArray) ⟨o, ho, h1, n, h3⟩ (by rw [List.toList_toArray]; exact intsAre_of r') hb fun g tk c R hc' hk => ?_
  have hn : H s.heap.objs.size = none := I.hok.fresh (Nat.le_refl _)
  exact ⟨.ref s.heap.objs.size, _, I.laid (t' := tk) hk (Nat.le_refl _) (setO_new R), rfl, q _ c hn hc'⟩
section
variable {G : GG} {N : List Str} {sc : SC} {k : Nat} {a : Expr} {ta : DT} {p p2 pos pos2 : Pos}
/-- sorted(set(x)), x a list -/
def dSortSetL (t : DT) : DT := fun Ex env Q => t Ex env fun x env1 => wd env1 x fun d => match d with
  | .lst ds => ∃ ns : List Int, ds = ns.map D.int ∧ ns.length < 64 ∧ ∀ (ns' : List Int) (b : Addr), ns'.Pairwise (· < ·) → (∀ n : Int, n ∈ ns' ↔ n ∈ ns) → Q (.lst b (ns'.map D.int)) env1
  | _ => False
theorem de_sortsetL (ha : DE G N sc k a ta) (hm : G.mg "sorted" = none) (hm2 : G.mg "set" = none) (hg : GlS sc "sorted" := by rfl) (hg2 : GlS sc "set" := by rfl) (n1 : NoStar a [] := by intro _; rfl) (n2 : NoStar (.Call (.Name "set" p2) [a] [] pos2) [] := by intro _; rfl) (hp1 : ∀ env, (backTo pos (starEach [] env)).any (·.1) = false := by intro _; rfl) (hp2 : ∀ env, (backTo pos2 (starEach [] env)).any (·.1) = false := by intro _; rfl) :
    DE G N sc k (.Call (.Name "sorted" p) [.Call (.Name "set" p2) [a] [] pos2] [] pos) (dSortSetL ta) := ⟨fun W => by
  obtain ⟨te, p1, i1⟩ := ha.ex W
  refine ⟨tCB (rSortedSet G.w) (tCons (tCB (rSetLI G.K G.w) (tCons te tNil)) tNil), fun X S => ?_, fun e Ex hl env T F σ H Q R hh ht hR => ?_⟩
  · have c1 := cr_sortedSet (X := X) S.calm
    have c2 := cr_setLI (X := X) S.calm
    rw [S.w] at c1
    rw [S.w, S.K] at c2
    exact pe_callB c1 (S.gl hg) (by rw [S.mg]; exact hm) (by decide +kernel) (pa_cons (pe_callTy c2 (S.gl hg2) (by rw [S.mg]; exact hm2) (by decide +kernel) (pa_cons (p1 X S) pa_nil (n1 _)) (by decide) (by decide) (n1 _) (hp2 _)) pa_nil (n2 _)) (by decide) (by decide) (n2 _) (hp1 _)
  · refine i1 e Ex hl env T F σ H _ _ hh ht fun v H1 F1 env1 x hh1 q1 => ?_
    obtain ⟨d, rd, q2⟩ := hh1.wd (v := v) (sl := x) List.mem_cons_self q1
    cases d with
    | lst ds =>
      obtain ⟨ns, rfl, hl64, q⟩ := q2
      obtain ⟨c, vs, rfl, e1, r1⟩ := rd.lst hh1.fh
      have z := r1.ints
      subst z
      refine ⟨c, ns, rfl, SqL.of e1, Nat.lt_of_lt_of_le (Nat.add_lt_add_right hl64 1) (by decide), fun p' cn hn hc => ?_⟩
      refine ⟨p', _, cn, rfl, upd_same, Nat.lt_of_le_of_lt hc hl64, fun ns' p'' h1 h2 h3 hn2 => ?_⟩
      have aft := (hh1.pop.done hR).more (o := SetO G.w p' (fun j => decide (j ∈ ns)) cn) hh1.fh hn
      refine aft.lst (Grow.loose hh1.fh hn).fh hn2 (Reps.of_ints ns') (q ns' p'' h1 fun n => ?_)
      rw [h2 n]
      exact decide_eq_true_iff
    | _ => exact q2.elim⟩
/-- a module's int -/
theorem de_gint {x : Str} {i : Int} {pos : Pos} (h : ∃ t, G.mg x = some (.int i t)) (hg : GlS sc x := by rfl) (hd : (x == ("__debug__" : Str)) = false := by decide) : DE G N sc k (.Name x pos) (dC (.int i)) := by
  obtain ⟨t, h⟩ := h
  exact de_glob (v := .int i) hg h ⟨t, rfl⟩ (fun _ => rfl) hd
/-- what is never reached -/
def dNever : DT := fun _ _ _ => False
theorem de_never {e : Expr} : DE G N sc k e dNever := ⟨fun W => ⟨fun _ _ _ => False, fun X S => ⟨fun _ _ _ _ _ _ h => h.elim⟩, fun e Ex hl env T F σ H Q R hh ht hR => ht.elim⟩⟩
end
def FzS (o : Option Sl) (k : List D → Prop) (z : Prop) (_ : Tok k) (_ : Tok z) : Prop := match o with
  | some (.lst _ ds) => k ds
  | _ => z
theorem FzS_lst (a : Addr) (ds : List D) (k : List D → Prop) (z : Prop) (t : Tok k) (u : Tok z) : FzS (some (.lst a ds)) k z t u = k ds := rfl
theorem FzS_ext (d : D) (k : List D → Prop) (z : Prop) (t : Tok k) (u : Tok z) : FzS (some (.ext d)) k z t u = z := rfl
theorem sFz_w (i : Nat) (t : DTS) (Ex : DX) (E : DEnds) (env : Env') : sFz i t Ex E env = FzS env[i]? (fun ds => t Ex E (env.set i (.ext (.lst ds)))) (t Ex E env) .mk .mk := by
  unfold sFz FzS
  rcases env[i]? with _ | (_ | _ | _ | _ | _) <;> rfl
/-! ### abs, int -/
def fAbs : List D → (Sl → Prop) → Prop
  | [.int i], Q => Q (.ext (.int (if i < 0 then -i else i)))
  | _, _ => False
theorem b_abs : BR "abs" fAbs := ⟨fun _ _ _ => fun xs H Q => ∃ i, xs = [.int i] ∧ Q (.int (if i < 0 then -i else i)) H, fun _ _ K F H vs ds Q R fh hr hf ha => by
    unfold fAbs at hf
    split at hf
    · obtain ⟨v, rfl, r⟩ := hr.one
      exact ⟨_, by rw [r.int], ha.int fh hf⟩
    · exact hf.elim, fun X _ _ => call_abs⟩
def fInt : List D → (Sl → Prop) → Prop
  | [.int i], Q => Q (.ext (.int i))
  | [.bl b], Q => Q (.ext (.int (if b then 1 else 0)))
  | _, _ => False
theorem t_int : TR "int" fInt := ⟨fun _ _ _ => fun xs H Q => (∃ i, xs = [.int i] ∧ Q (.int i) H) ∨ ∃ k, xs = [.bl k] ∧ Q (.int (if k then 1 else 0)) H, fun _ _ K F H vs ds Q R fh hr hf ha => by
    unfold fInt at hf
    split at hf
    · obtain ⟨v, rfl, r⟩ := hr.one
      exact .inl ⟨_, by rw [r.int], ha.int fh hf⟩
    · obtain ⟨v, rfl, r⟩ := hr.one
      exact .inr ⟨_, by rw [r.bl], ha.int fh hf⟩
    · exact hf.elim, fun X _ _ => call_int1⟩
end HD

/-! HX6: repr of data. -/
namespace HD
open PySem PyProof.Rows L2
def rRepr (K : PySem.W.Frag) : List V → Hp → VK → Prop := fun xs H Q => ∃ (v : V) (d : PyData), xs = [v] ∧ Dp K H v d ∧ d.showable = true ∧ d.hasDict = false ∧ d.depth ≤ 60 ∧ d.shown.length ≤ sizeLine ∧ Q (.str d.shown) H
theorem call_repr {X : Cx} (gd : X.A.guards = some []) (hu : X.A.units + 64 < cLine) : CallR X (.builtin "repr") (rRepr X.K) := by
  intro pins s σ H xs us Q I r h
  obtain ⟨v, d, rfl, hd, hs, hn, hdp, hz, q⟩ := h
  obtain ⟨u, rfl, ru⟩ := vals1 r
  cases hd with
  | non =>
    cases (show u = Value.none from ru)
    exact PySem.P.repr_of_none ⟨.str _, H, I.tok _, ⟨_, rfl⟩, q⟩
  | bl b =>
    cases (show u = Value.bool b from ru)
    exact PySem.P.repr_of_bool ⟨.str _, H, I.tok _, ⟨_, rfl⟩, q⟩
  | int i =>
    obtain ⟨t, rfl⟩ := ru
    exact PySem.P.repr_of_int (by simpa [PyData.showable] using hs) ⟨.str _, H, I.tok _, ⟨_, rfl⟩, q⟩
  | str x =>
    obtain ⟨t, rfl⟩ := ru
    exact PySem.P.repr_of_str ⟨.str _, H, I.tok _, ⟨_, rfl⟩, q⟩ (by simpa only [PyData.shown] using hz)
  | lst h1 h2 =>
    obtain ⟨as, rd⟩ := Dp.reads I _ _ _ (.lst h1 h2) ru
    cases ru
    exact repr_of_reads' rd hs (PyData.noDict_hsm hn) gd (by omega) (fun b o e => e) (fun g u tk hk => ⟨.str _, H, I.kept (t' := tk) hk, ⟨_, rfl⟩, q⟩) hz
  | tup h1 h2 =>
    obtain ⟨as, rd⟩ := Dp.reads I _ _ _ (.tup h1 h2) ru
    cases ru
    exact repr_of_reads' rd hs (PyData.noDict_hsm hn) gd (by omega) (fun b o e => e) (fun g u tk hk => ⟨.str _, H, I.kept (t' := tk) hk, ⟨_, rfl⟩, q⟩) hz
/-- what may be shown -/
structure D.sh (d : D) : Prop where
  nv : d.noVal = true
  ok : d.py.showable = true
  nd : d.py.hasDict = false
  dp : d.py.depth ≤ 60
  len : d.py.shown.length ≤ sizeLine
def fRepr : List D → (Sl → Prop) → Prop
  | [d], Q => d.sh ∧ Q (.ext (.str d.py.shown))
  | _, _ => False
theorem pr_repr (K : PySem.W.Frag) : Pr K (rRepr K) fRepr := fun F H vs ds Q R fh h hf ha => by
  rcases ds with _ | ⟨d, _ | ⟨d2, ds⟩⟩ <;> try exact hf.elim
  obtain ⟨v, rfl, r⟩ := h.one
  obtain ⟨hs, q⟩ := hf
  exact ⟨v, d.py, rfl, Rep.dp hs.nv (r.rep fh), hs.ok, hs.nd, hs.dp, hs.len, ha.str fh q⟩
section
variable {G : GG} {N : List Str} {sc : SC} {k : Nat} {e : Expr} {es : List Expr} {t : DTA} {p pos : Pos}
theorem de_repr (hm : G.mg "repr" = none) (ha : DAs G N sc k (e :: es) t) (hg : GlS sc "repr" := by rfl)
    (he : NoStar e es := by intro _; rfl) (hpl : ∀ env, (backTo pos (starEach es env)).any (·.1) = false := by intro _; rfl) : DE G N sc k (.Call (.Name "repr" p) (e :: es) [] pos) (dCB fRepr t) := ⟨fun W => by
  obtain ⟨ta, p1, i1⟩ := ha.ex W
  refine ⟨tCB (rRepr G.K) ta, fun X S => ?_, im_cb (pr_repr G.K) i1⟩
  have c : CallR X (.builtin "repr") (rRepr X.K) := call_repr S.gd S.units
  rw [S.K] at c
  exact pe_callB c (S.gl hg) (by rw [S.mg]; exact hm) (by decide +kernel) (p1 X S) (by decide) (by decide) (he _) (hpl _)⟩
end
/-! ### tuples of ints, one below another -/
def fLtT : D → D → (Sl → Prop) → Prop
  | .tup xs, .tup ys, Q => ∃ ns ms : List Int, xs = ns.map D.int ∧ ys = ms.map D.int ∧ Q (.ext (.bl (HT.lexLt ns ms)))
  | _, _, _ => False
theorem c_ltT : CmpR .Lt fLtT := ⟨fun K => rLtT K, fun K F H v u d d' Q R fh r1 r2 h ha => by
    cases d <;> try exact h.elim
    cases d' <;> try exact h.elim
    obtain ⟨ns, ms, rfl, rfl, q⟩ := h
    obtain ⟨a, vs, rfl, e1, _, p1⟩ := r1.tup fh
    obtain ⟨b, us, rfl, e2, _, p2⟩ := r2.tup fh
    have z1 := p1.ints
    have z2 := p2.ints
    subst z1
    subst z2
    exact ⟨a, b, ns, ms, rfl, rfl, e1, e2, ha.bl fh q⟩, fun X hu => op_ltT (by omega)⟩
/-! ### a bound of what is shown -/
/-- data that may be shown, of at most this depth -/
def D.sv : Nat → D → Bool
  | _, .non => true
  | _, .bl _ => true
  | _, .int i => decide (i.natAbs.log2 < 1920)
  | _, .str x => x.cps.toList.all fun c => decide (c < 16 ^ 8)
  | k + 1, .lst ds => ds.all (D.sv k)
  | k + 1, .tup ds => ds.all (D.sv k)
  | _, _ => false
def D.svP (k : Nat) (d : D) : Prop := d.noVal = true ∧ d.py.showable = true ∧ d.py.hasDict = false ∧ d.py.depth ≤ k ∧ d.py.leavesShort 1921 = true
theorem svs_of {k : Nat} {ds : List D} (h : ∀ d ∈ ds, D.svP k d) : D.noVals ds = true ∧ PyData.showableAll (D.pys ds) = true ∧ PyData.hasDictAll (D.pys ds) = false ∧ PyData.depthAll (D.pys ds) ≤ k ∧ PyData.leavesShortAll 1921 (D.pys ds) = true := by
  induction ds with
  | nil => exact ⟨rfl, rfl, rfl, by simp [D.pys, PyData.depthAll], rfl⟩
  | cons d ds ih =>
    obtain ⟨h1, h2, h3, h4, h5⟩ := h d List.mem_cons_self
    obtain ⟨i1, i2, i3, i4, i5⟩ := ih fun e he => h e (List.mem_cons_of_mem _ he)
    refine ⟨by simp [D.noVals, h1, i1], by simp [D.pys, PyData.showableAll, h2, i2], by simp [D.pys, PyData.hasDictAll, h3, i3], ?_, by simp [D.pys, PyData.leavesShortAll, h5, i5]⟩
    simp only [D.pys, PyData.depthAll]
    omega
theorem sv_int {i : Int} {k : Nat} (h : i.natAbs.log2 < 1920) : D.svP k (.int i) := by
  refine ⟨rfl, by simpa [D.py, PyData.showable] using h, rfl, by simp [D.py, PyData.depth], ?_⟩
  simp only [D.py, PyData.leavesShort, PyData.shown]
  exact decide_eq_true (int_text_len_1921 h)
theorem sv_P : ∀ (k : Nat) (d : D), D.sv k d = true → D.svP k d := by
  intro k
  induction k with
  | zero =>
    intro d h
    cases d with
    | int i => exact sv_int (by simpa [D.sv] using h)
    | non => exact ⟨rfl, rfl, rfl, by simp [D.py, PyData.depth], rfl⟩
    | bl _ => exact ⟨rfl, rfl, rfl, by simp [D.py, PyData.depth], rfl⟩
    | str x => exact ⟨rfl, rfl, rfl, by simp [D.py, PyData.depth], h⟩
    | _ => simp [D.sv] at h
  | succ k ih =>
    intro d h
    cases d with
    | lst ds =>
      rw [D.sv, List.all_eq_true] at h
      obtain ⟨h1, h2, h3, h4, h5⟩ := svs_of fun e he => ih e (h e he)
      exact ⟨h1, by simpa [D.py, PyData.showable] using h2, by simpa [D.py, PyData.hasDict] using h3, by simp only [D.py, PyData.depth]; omega, by simpa [D.py, PyData.leavesShort] using h5⟩
    | tup ds =>
      rw [D.sv, List.all_eq_true] at h
      obtain ⟨h1, h2, h3, h4, h5⟩ := svs_of fun e he => ih e (h e he)
      exact ⟨h1, by simpa [D.py, PyData.showable] using h2, by simpa [D.py, PyData.hasDict] using h3, by simp only [D.py, PyData.depth]; omega, by simpa [D.py, PyData.leavesShort] using h5⟩
    | int i => exact sv_int (by simpa [D.sv] using h)
    | non => exact ⟨rfl, rfl, rfl, by simp [D.py, PyData.depth], rfl⟩
    | bl _ => exact ⟨rfl, rfl, rfl, by simp [D.py, PyData.depth], rfl⟩
    | str x => exact ⟨rfl, rfl, rfl, by simp [D.py, PyData.depth], h⟩
    | _ => simp [D.sv] at h
/-- few things in all -/
theorem sh_of {k : Nat} {d : D} (hk : k ≤ 60) (h : D.sv k d = true) (hb : d.py.bulk ≤ 8000) : d.sh := by
  obtain ⟨h1, h2, h3, h4, h5⟩ := sv_P k d h
  refine ⟨h1, h2, h3, by omega, ?_⟩
  have := PyData.shown_le_bulk 1921 (by decide) d.py h5
  exact Nat.le_trans (by omega : _ ≤ 16000000) (by decide)
theorem bulks_app (a b : List D) : PyData.bulkAll (D.pys (a ++ b)) = PyData.bulkAll (D.pys a) + PyData.bulkAll (D.pys b) := by
  induction a with
  | nil => simp [D.pys, PyData.bulkAll]
  | cons d a ih => simp only [List.cons_append, D.pys, PyData.bulkAll, ih]; omega
theorem bulks_nD (l : List Nat) : PyData.bulkAll (D.pys (nD l)) = l.length := by
  induction l with
  | nil => rfl
  | cons x l ih => rw [nD_cons, D.pys, PyData.bulkAll, ih, List.length_cons]; simp [D.py, PyData.bulk]; omega
theorem bulks_iD (l : List Int) : PyData.bulkAll (D.pys (iD l)) = l.length := by
  induction l with
  | nil => rfl
  | cons x l ih => rw [iD_cons, D.pys, PyData.bulkAll, ih, List.length_cons]; simp [D.py, PyData.bulk]; omega
end HD

/-! the plain law of parts: fillings, places, worths at a filling, joins -/
namespace PM
def sz (S : List Nat) (n : Nat) : Nat := S.getD n 0
def prodN : List Nat → Nat
  | [] => 1
  | x :: xs => x * prodN xs
def psz (S : List Nat) (ns : List Nat) : Nat := prodN (ns.map (sz S))
def fills (S : List Nat) : List Nat → List (List Nat)
  | [] => [[]]
  | n :: ns => (List.range (sz S n)).flatMap fun w => (fills S ns).map (w :: ·)
def pl (S : List Nat) : Nat → List Nat → List Nat → Nat
  | acc, n :: ns, w :: ws => pl S (acc * sz S n + w) ns ws
  | acc, _, _ => acc
/-- the worths fit the names -/
def Good (S : List Nat) : List Nat → List Nat → Prop
  | [], ws => ws = []
  | n :: ns, ws => ∃ w r, ws = w :: r ∧ w < sz S n ∧ Good S ns r

theorem Good.len {S : List Nat} {ns ws : List Nat} (h : Good S ns ws) : ws.length = ns.length := by
  induction ns generalizing ws with
  | nil => rw [show ws = [] from h]
  | cons n ns ih => obtain ⟨w, r, rfl, _, h2⟩ := h; simp [ih h2]
theorem pl_acc {S : List Nat} {ns ws : List Nat} (h : ws.length = ns.length) (acc : Nat) : pl S acc ns ws = acc * psz S ns + pl S 0 ns ws := by
  induction ns generalizing ws acc with
  | nil => simp [pl, psz, prodN]
  | cons n ns ih =>
    cases ws with
    | nil => simp at h
    | cons w ws =>
      have hl : ws.length = ns.length := by simpa using h
      have e : psz S (n :: ns) = sz S n * psz S ns := rfl
      rw [pl, pl, ih hl (acc * sz S n + w), ih hl (0 * sz S n + w), e, Nat.add_mul, Nat.zero_mul, Nat.zero_add, Nat.mul_assoc, Nat.add_assoc]
theorem mem_fills {S : List Nat} {ns f : List Nat} : f ∈ fills S ns ↔ Good S ns f := by
  induction ns generalizing f with
  | nil => simp [fills, Good]
  | cons n ns ih =>
    simp only [fills, List.mem_flatMap, List.mem_range, List.mem_map, Good]
    constructor
    · rintro ⟨w, hw, r, hr, rfl⟩
      exact ⟨w, r, rfl, hw, ih.1 hr⟩
    · rintro ⟨w, r, rfl, hw, hr⟩
      exact ⟨w, hw, r, ih.2 hr, rfl⟩
theorem range_blocks (P m : Nat) : ((List.range m).flatMap fun w => (List.range P).map fun i => w * P + i) = List.range (m * P) := by
  induction m with
  | zero => simp
  | succ m ih =>
    rw [List.range_succ, List.flatMap_append, ih, Nat.succ_mul, List.range_add]
    simp
theorem fills_pl (S ns : List Nat) : (fills S ns).map (pl S 0 ns) = List.range (psz S ns) := by
  induction ns with
  | nil => simp [fills, pl, psz, prodN]
  | cons n ns ih =>
    have e : psz S (n :: ns) = sz S n * psz S ns := rfl
    rw [e, fills, List.map_flatMap, ← range_blocks (psz S ns) (sz S n), ← ih]
    congr 1
    funext w
    rw [List.map_map, List.map_map]
    refine List.map_congr_left fun f hf => ?_
    have hl := (mem_fills.1 hf).len
    show pl S (0 * sz S n + w) ns f = w * psz S ns + pl S 0 ns f
    rw [pl_acc hl, Nat.zero_mul, Nat.zero_add]
theorem len_fills (S ns : List Nat) : (fills S ns).length = psz S ns := by
  have h := congrArg List.length (fills_pl S ns)
  simpa using h
theorem fills_at {S ns f : List Nat} {i : Nat} (h : (fills S ns)[i]? = some f) : pl S 0 ns f = i := by
  have e := fills_pl S ns
  have h1 : ((fills S ns).map (pl S 0 ns))[i]? = some (pl S 0 ns f) := by rw [List.getElem?_map, h]; rfl
  rw [e] at h1
  have := List.getElem?_eq_some_iff.1 h1
  obtain ⟨h2, h3⟩ := this
  rw [List.getElem_range] at h3
  exact h3.symm
theorem fills_get {S ns f : List Nat} (h : Good S ns f) : (fills S ns)[pl S 0 ns f]? = some f := by
  obtain ⟨i, hi, e⟩ := List.getElem_of_mem (mem_fills.2 h)
  have h1 : (fills S ns)[i]? = some f := by rw [List.getElem?_eq_getElem hi, e]
  rw [fills_at h1, h1]
theorem pl_lt {S ns f : List Nat} (h : Good S ns f) : pl S 0 ns f < psz S ns := by
  have := fills_get h
  rw [← len_fills]
  exact (List.getElem?_eq_some_iff.1 this).1

/-- the worths of a filling given as a function -/
theorem good_map {S ns : List Nat} {g : Nat → Nat} (h : ∀ n ∈ ns, g n < sz S n) : Good S ns (ns.map g) := by
  induction ns with
  | nil => rfl
  | cons n ns ih => exact ⟨g n, ns.map g, rfl, h n List.mem_cons_self, ih fun m hm => h m (List.mem_cons_of_mem _ hm)⟩
def ats (ns f : List Nat) : Nat → Nat := fun n => f.getD (ns.idxOf n) 0
theorem ats_map {ns : List Nat} {g : Nat → Nat} {n : Nat} (h : n ∈ ns) : ats ns (ns.map g) n = g n := by
  unfold ats
  have hl := List.idxOf_lt_length_of_mem h
  rw [List.getD_eq_getElem?_getD, List.getElem?_map, List.getElem?_eq_getElem hl, List.getElem_idxOf]
  rfl
theorem map_ats {ns f : List Nat} (nd : ns.Nodup) (hl : f.length = ns.length) : ns.map (ats ns f) = f := by
  induction ns generalizing f with
  | nil => exact (List.length_eq_zero_iff.1 hl).symm
  | cons n ns ih =>
    cases f with
    | nil => simp at hl
    | cons w f =>
      have hl' : f.length = ns.length := by simpa using hl
      obtain ⟨h1, h2⟩ := List.nodup_cons.1 nd
      have e0 : ats (n :: ns) (w :: f) n = w := by simp [ats]
      have e1 : ns.map (ats (n :: ns) (w :: f)) = ns.map (ats ns f) := by
        refine List.map_congr_left fun m hm => ?_
        have : m ≠ n := fun e => h1 (e ▸ hm)
        have b : (n == m) = false := by simp [Ne.symm this]
        simp [ats, List.idxOf_cons, b]
      rw [List.map_cons, e0, e1, ih h2 hl']
theorem ats_lt {S ns f : List Nat} (h : Good S ns f) {n : Nat} (hn : n ∈ ns) : ats ns f n < sz S n := by
  induction ns generalizing f with
  | nil => cases hn
  | cons m ns ih =>
    obtain ⟨w, r, rfl, h1, h2⟩ := h
    by_cases e : n = m
    · subst e; simpa [ats] using h1
    · have hn' : n ∈ ns := by
        rcases List.mem_cons.1 hn with h | h
        · exact absurd h e
        · exact h
      have := ih h2 hn'
      have b : (m == n) = false := by simp [Ne.symm e]
      simpa [ats, List.idxOf_cons, b] using this

structure Part where
  ns : List Nat
  ws : List Int
def Rising (l : List Nat) : Prop := l.Pairwise (· < ·)
theorem Rising.nd {l : List Nat} (h : Rising l) : l.Nodup := List.Pairwise.imp (fun h => Nat.ne_of_lt h) h
theorem rising_ext {a b : List Nat} (ha : Rising a) (hb : Rising b) (h : ∀ n, n ∈ a ↔ n ∈ b) : a = b := by
  induction a generalizing b with
  | nil =>
    cases b with
    | nil => rfl
    | cons y b => exact absurd ((h y).2 List.mem_cons_self) (by simp)
  | cons x a ih =>
    cases b with
    | nil => exact absurd ((h x).1 List.mem_cons_self) (by simp)
    | cons y b =>
      have ha' := List.pairwise_cons.1 ha
      have hb' := List.pairwise_cons.1 hb
      have e : x = y := by
        rcases List.mem_cons.1 ((h x).1 List.mem_cons_self) with e | e
        · exact e
        · rcases List.mem_cons.1 ((h y).2 List.mem_cons_self) with e' | e'
          · exact e'.symm
          · have h1 := hb'.1 x e
            have h2 := ha'.1 y e'
            omega
      subst e
      rw [ih ha'.2 hb'.2 fun n => ?_]
      constructor
      · intro hn
        rcases List.mem_cons.1 ((h n).1 (List.mem_cons_of_mem _ hn)) with e | e
        · have := ha'.1 n hn; omega
        · exact e
      · intro hn
        rcases List.mem_cons.1 ((h n).2 (List.mem_cons_of_mem _ hn)) with e | e
        · have := hb'.1 n hn; omega
        · exact e
/-- a part of these sizes -/
structure Part.Ok (S : List Nat) (p : Part) : Prop where
  rise : Rising p.ns
  lt : ∀ n ∈ p.ns, n < S.length
  len : p.ws.length = psz S p.ns
def val (S : List Nat) (p : Part) (g : Nat → Nat) : Int := p.ws.getD (pl S 0 p.ns (p.ns.map g)) 0
def Fit (S : List Nat) (ns : List Nat) (g : Nat → Nat) : Prop := ∀ n ∈ ns, g n < sz S n
theorem val_congr {S : List Nat} {p : Part} {g g' : Nat → Nat} (h : ∀ n ∈ p.ns, g n = g' n) : val S p g = val S p g' := by
  unfold val
  rw [List.map_congr_left h]
theorem Part.ext' {S : List Nat} {p q : Part} (hp : p.Ok S) (hq : q.Ok S) (hn : p.ns = q.ns) (h : ∀ g, Fit S p.ns g → val S p g = val S q g) : p = q := by
  have hw : p.ws = q.ws := by
    refine List.ext_getElem? fun i => ?_
    by_cases hi : i < psz S p.ns
    · have hi' : i < (fills S p.ns).length := by rw [len_fills]; exact hi
      have hf : (fills S p.ns)[i]? = some ((fills S p.ns)[i]) := List.getElem?_eq_getElem hi'
      have hg := mem_fills.1 (List.getElem_mem hi')
      have e1 := fills_at hf
      have e2 := map_ats hp.rise.nd hg.len
      have := h (ats p.ns ((fills S p.ns)[i])) fun n hn => ats_lt hg hn
      unfold val at this
      rw [← hn, e2, e1] at this
      rw [List.getD_eq_getElem?_getD, List.getD_eq_getElem?_getD] at this
      have l1 : i < p.ws.length := by rw [hp.len]; exact hi
      have l2 : i < q.ws.length := by rw [hq.len, ← hn]; exact hi
      rw [List.getElem?_eq_getElem l1, List.getElem?_eq_getElem l2] at this ⊢
      exact congrArg some this
    · rw [List.getElem?_eq_none (by rw [hp.len]; omega), List.getElem?_eq_none (by rw [hq.len, ← hn]; omega)]
  cases p; cases q
  simp only [Part.mk.injEq]
  exact ⟨hn, hw⟩
/-- a part out of a function of fillings -/
def mkP (S : List Nat) (ns : List Nat) (F : (Nat → Nat) → Int) : Part := ⟨ns, (fills S ns).map fun f => F (ats ns f)⟩
theorem mkP_ok {S ns : List Nat} {F : (Nat → Nat) → Int} (h : Rising ns) (hl : ∀ n ∈ ns, n < S.length) : (mkP S ns F).Ok S :=
  ⟨h, hl, by simp [mkP, len_fills]⟩
theorem val_mkP {S ns : List Nat} {F : (Nat → Nat) → Int} {g : Nat → Nat} (hg : Fit S ns g) (hF : F (ats ns (ns.map g)) = F g) : val S (mkP S ns F) g = F g := by
  unfold val mkP
  rw [List.getD_eq_getElem?_getD, List.getElem?_map, fills_get (good_map hg)]
  exact hF
theorem mkP_val {S : List Nat} {p : Part} (hp : p.Ok S) : mkP S p.ns (val S p) = p := by
  refine Part.ext' (S := S) (mkP_ok hp.rise hp.lt) hp rfl fun g hg => ?_
  exact val_mkP hg (val_congr fun n hn => ats_map hn)
theorem val_mem {S : List Nat} {p : Part} (hp : p.Ok S) {g : Nat → Nat} (hg : Fit S p.ns g) : val S p g ∈ p.ws := by
  unfold val
  have h := pl_lt (good_map hg)
  rw [← hp.len] at h
  rw [List.getD_eq_getElem?_getD, List.getElem?_eq_getElem h]
  exact List.getElem_mem h
theorem val_at {S : List Nat} {p : Part} (hp : p.Ok S) {g : Nat → Nat} (hg : Fit S p.ns g) : p.ws[pl S 0 p.ns (p.ns.map g)]? = some (val S p g) := by
  unfold val
  have h := pl_lt (good_map hg)
  rw [← hp.len] at h
  rw [List.getD_eq_getElem?_getD, List.getElem?_eq_getElem h]
  rfl
/-- the names of either -/
def Uni (U a b : List Nat) : Prop := Rising U ∧ ∀ n, n ∈ U ↔ n ∈ a ∨ n ∈ b
theorem Uni.eq {U U' a b : List Nat} (h : Uni U a b) (h' : Uni U' a b) : U = U' := rising_ext h.1 h'.1 fun n => (h.2 n).trans (h'.2 n).symm
def joinP (S : List Nat) (jn : Int → Int → Int) (U : List Nat) (p q : Part) : Part := mkP S U fun g => jn (val S p g) (val S q g)
theorem joinP_ok {S U : List Nat} {jn : Int → Int → Int} {p q : Part} (hU : Uni U p.ns q.ns) (hp : p.Ok S) (hq : q.Ok S) : (joinP S jn U p q).Ok S :=
  mkP_ok hU.1 fun n hn => by
    rcases (hU.2 n).1 hn with h | h
    · exact hp.lt n h
    · exact hq.lt n h
theorem val_joinP {S U : List Nat} {jn : Int → Int → Int} {p q : Part} (hU : Uni U p.ns q.ns) {g : Nat → Nat} (hg : Fit S U g) : val S (joinP S jn U p q) g = jn (val S p g) (val S q g) := by
  refine val_mkP hg ?_
  show jn _ _ = jn _ _
  rw [val_congr (p := p) fun n hn => ats_map ((hU.2 n).2 (.inl hn)), val_congr (p := q) fun n hn => ats_map ((hU.2 n).2 (.inr hn))]
theorem joinP_comm {S U U' : List Nat} {jn : Int → Int → Int} (hj : ∀ a b, jn a b = jn b a) {p q : Part} (hp : p.Ok S) (hq : q.Ok S) (hU : Uni U p.ns q.ns) (hU' : Uni U' q.ns p.ns) : joinP S jn U' q p = joinP S jn U p q := by
  have e : U' = U := rising_ext hU'.1 hU.1 fun n => (hU'.2 n).trans (Or.comm.trans (hU.2 n).symm)
  refine Part.ext' (joinP_ok hU' hq hp) (joinP_ok hU hp hq) e fun g hg => ?_
  rw [val_joinP hU' hg, val_joinP hU (e ▸ hg), hj]
theorem joinP_assoc {S U V A B : List Nat} {jn : Int → Int → Int} (hj : ∀ a b c, jn (jn a b) c = jn a (jn b c)) {p q r : Part} (hp : p.Ok S) (hq : q.Ok S) (hr : r.Ok S)
    (hU : Uni U p.ns q.ns) (hV : Uni V U r.ns) (hA : Uni A q.ns r.ns) (hB : Uni B p.ns A) : joinP S jn V (joinP S jn U p q) r = joinP S jn B p (joinP S jn A q r) := by
  have e : V = B := rising_ext hV.1 hB.1 fun n => by
    rw [hV.2, hU.2, hB.2, hA.2, or_assoc]
  have o1 := joinP_ok (jn := jn) hU hp hq
  have o2 := joinP_ok (jn := jn) hA hq hr
  refine Part.ext' (joinP_ok (p := joinP S jn U p q) hV o1 hr) (joinP_ok (q := joinP S jn A q r) hB hp o2) e fun g hg => ?_
  have hg' : Fit S B g := e ▸ hg
  rw [val_joinP (p := joinP S jn U p q) hV hg, val_joinP (q := joinP S jn A q r) hB hg', val_joinP hU fun n hn => hg n ((hV.2 n).2 (.inl hn)), val_joinP hA fun n hn => hg' n ((hB.2 n).2 (.inr hn)), hj]
theorem joinP_unitL {S U : List Nat} {jn : Int → Int → Int} {p : Part} {u : Int} (hp : p.Ok S) (hj : ∀ w ∈ p.ws, jn u w = w) (hU : Uni U [] p.ns) : joinP S jn U ⟨[], [u]⟩ p = p := by
  have e : U = p.ns := rising_ext hU.1 hp.rise fun n => (hU.2 n).trans (by simp)
  have o : Part.Ok S ⟨[], [u]⟩ := ⟨.nil, by simp, rfl⟩
  refine Part.ext' (joinP_ok hU o hp) hp e fun g (hg : Fit S U g) => ?_
  rw [val_joinP (p := ⟨[], [u]⟩) hU hg]
  have : val S ⟨[], [u]⟩ g = u := rfl
  rw [this, hj _ (val_mem hp (e ▸ hg))]
theorem joinP_unitR {S U : List Nat} {jn : Int → Int → Int} {p : Part} {u : Int} (hp : p.Ok S) (hj : ∀ w ∈ p.ws, jn w u = w) (hU : Uni U p.ns []) : joinP S jn U p ⟨[], [u]⟩ = p := by
  have e : U = p.ns := rising_ext hU.1 hp.rise fun n => (hU.2 n).trans (by simp)
  have o : Part.Ok S ⟨[], [u]⟩ := ⟨.nil, by simp, rfl⟩
  refine Part.ext' (joinP_ok hU hp o) hp e fun g (hg : Fit S U g) => ?_
  rw [val_joinP (q := ⟨[], [u]⟩) hU hg]
  have : val S ⟨[], [u]⟩ g = u := rfl
  rw [this, hj _ (val_mem hp (e ▸ hg))]
end PM

/-! LS: what the laws' own helpers tell -/
namespace LS
open PySem L2 HD PM
local macro_rules | `(tactic| trivial) => `(tactic| try simp -dsimp only [↓sSeq, ↓sIf, ↓sRet, ↓retD_ext, ↓retD_lst, ↓retD_al, ↓sSet, ↓sSetE, ↓sAsg, ↓sDrop, ↓sNext, ↓sFor, ↓sRetN, ↓sCont, ↓sBreak, ↓dTest, ↓dOp, ↓dVar_w, ↓dC, ↓dCons, ↓dNil, ↓dTup, ↓dLst, ↓frzDs, ↓frzD_ext, ↓frzD_lst, ↓frzD_al, ↓wd_ext, ↓wd_lst, ↓wd_al, ↓wds, ↓AtS_ext, ↓AtS_lst, ↓AtL, ↓fAdd, ↓fSub, ↓fMul, ↓fDiv, ↓fMod, ↓fPow, ↓fCmp, ↓fIn, ↓fEq_ii, ↓fEq_ss, ↓fEq_bb, ↓fEq_tt, ↓fEq_ll, ↓fNe_ii, ↓fNe_ss, ↓fNe_bb, ↓fNe_tt, ↓fNe_ll, ↓fIx_l, ↓fIx_t, ↓fIx_k, ↓fIx_f, ↓GetS_some, ↓NatS_some, ↓fSl, ↓fIsN, ↓fNotN, ↓D.knN, ↓dNot, ↓dAnd, ↓dOr, ↓dAndV_w, ↓dOrV_w, ↓dNotV, ↓dIf, ↓dNeg, ↓dChain_w, ↓BlS_bl, ↓dCall_w, ↓dCallJ_w, ↓anyAl, ↓frozs, ↓froz, ↓gSet, ↓gTupD, ↓gsCons, ↓gsNil, ↓dSeq, ↓seqD_tup, ↓seqD_elst, ↓seqD_lst, ↓seqD_al, ↓dRange1, ↓dRange2, ↓dZip, ↓dCB, ↓dLc, ↓dYes, ↓dNoPart, ↓dPart, ↓dSl, ↓fLen, ↓fMin, ↓fMax, ↓fSum, ↓fAll, ↓fAny, ↓fSorted, ↓fTuple, ↓fList, ↓dRg1, ↓dRg2, ↓dLstRg, ↓dTupRg, ↓dIndex, ↓fIdx, ↓dAppend_w, ↓dExtend_w, ↓extD_lst, ↓dPopAt_w, ↓popD_int, ↓dPop_w, ↓mutD_w, ↓sSetItem_w, ↓setD_int, ↓dSortSet, ↓dTable_w, ↓wipeE, finals1, finals2, finals3, finals4, finals5, finals6, fin1_ext, fin1_lst, List.getElem?_cons_zero, List.getElem?_cons_succ, List.getElem?_nil, List.set_cons_zero, List.set_cons_succ, List.cons_append, List.nil_append, List.append_nil, List.replicate_succ, List.replicate_zero, List.map_cons, List.map_nil, List.length_cons, List.length_nil, true_and, and_true, ite_true, ite_false, if_true, if_false, Bool.false_eq_true, decide_eq_true_eq, Sl.plain, D.isSq, eq_self_iff_true, forall_const, reduceIte, true_or, or_true, atI_0, atI_1, atI_2, atI_3, ixN_0, ixN_1, ixN_2, AtS_ext, AtS_lst, FzS_lst, FzS_ext, GetS_some, NatS_some, ↓fIsi1, ↓fIsi2, BoolS_some, HD.kb_non_tuple, HD.kb_non_list, HD.kb_non_bool, HD.kb_non_int, HD.kb_non_str, HD.kb_bl_tuple, HD.kb_bl_list, HD.kb_bl_bool, HD.kb_bl_int, HD.kb_bl_str, HD.kb_int_tuple, HD.kb_int_list, HD.kb_int_bool, HD.kb_int_int, HD.kb_int_str, HD.kb_str_tuple, HD.kb_str_list, HD.kb_str_bool, HD.kb_str_int, HD.kb_str_str, HD.kb_lst_tuple, HD.kb_lst_list, HD.kb_lst_bool, HD.kb_lst_int, HD.kb_lst_str, HD.kb_tup_tuple, HD.kb_tup_list, HD.kb_tup_bool, HD.kb_tup_int, HD.kb_tup_str, ↓sFz_w, ↓FzS_lst, ↓FzS_ext, ↓dSortSetL, ↓fAbs, ↓fInt, ↓fRepr, ↓fLtT, ↓sRaise, ↓sTryKeep, ↓dCallV_w, ↓dMeth, ↓fCount, ↓fSplit])
/-! ### words -/
inductive Wd where
  | sum | most | least | wide | any
  deriving DecidableEq
def Wd.s : Wd → Str
  | .sum => Str.ofString "sum"
  | .most => Str.ofString "most"
  | .least => Str.ofString "least"
  | .wide => Str.ofString "wide"
  | .any => Str.ofString "any"
def jn : Wd → Int → Int → Int
  | .sum, a, b => a * b
  | .most, a, b => a + b
  | .least, a, b => a + b
  | .wide, a, b => if b < a then b else a
  | .any, a, b => if b < a then b else a
theorem w_sum (w : Wd) : (w.s == Str.ofString "sum") = decide (w = .sum) := by cases w <;> decide +kernel
theorem w_most (w : Wd) : (w.s == Str.ofString "most") = decide (w = .most) := by cases w <;> decide +kernel
theorem w_least (w : Wd) : (w.s == Str.ofString "least") = decide (w = .least) := by cases w <;> decide +kernel
theorem w_wide (w : Wd) : (w.s == Str.ofString "wide") = decide (w = .wide) := by cases w <;> decide +kernel
theorem w_any (w : Wd) : (w.s == Str.ofString "any") = decide (w = .any) := by cases w <;> decide +kernel
theorem w_in_ml (w : Wd) : (D.str w.s).isIn [.str (Str.ofString "most"), .str (Str.ofString "least")] = decide (w = .most ∨ w = .least) := by cases w <;> decide +kernel
theorem flat_ml : [D.str (Str.ofString "most"), D.str (Str.ofString "least")].all D.flat = true := rfl
abbrev dW (w : Wd) : Sl := .ext (.str w.s)
abbrev dI (i : Int) : Sl := .ext (.int i)
theorem le_szl {n : Nat} (h : n ≤ 16777216) : n ≤ sizeLine := h
def sp_join : DSpec := fun args Q _ => ∃ w i j, args = [dW w, dI i, dI j] ∧ CMulW i j ∧ ∀ fin, Q (dI (jn w i j)) fin
def t_join : DTS :=
    (sSeq (sIf (dTest (dOp fEq (dVar 0) (dC (.str (Str.ofString "sum"))))) (sRet (dOp fMul (dVar 1) (dVar 2))) sNext)
    (sSeq (sIf (dTest (dOp (fIn false) (dVar 0) (dTup (dCons (dC (.str (Str.ofString "most"))) (dCons (dC (.str (Str.ofString "least"))) dNil))))) (sRet (dOp fAdd (dVar 1) (dVar 2))) sNext)
    (sRet (dCB fMin (dCons (dVar 1) (dCons (dVar 2) dNil))))))
theorem m_join : Meets t_join 3 0 sp_join := by
  rintro args Qd Xd ⟨w, i, j, rfl, hc, hQ⟩
  show t_join _ _ [_, _, _]
  unfold t_join
  trivial
  simp only [w_sum, w_in_ml, flat_ml, D.flat, decide_eq_true_eq, true_and]
  cases w <;> simp only [reduceCtorEq, if_true, if_false, or_true, true_or, or_false, and_true] <;> first | exact ⟨hc, hQ _⟩ | exact ⟨by decide, hQ _⟩
def sp_law_join : DSpec := sp_join
def t_law_join : DTS :=
    (sSeq (sIf (dTest (dOp fEq (dVar 0) (dC (.str (Str.ofString "sum"))))) (sRet (dOp fMul (dVar 1) (dVar 2))) sNext)
    (sSeq (sIf (dTest (dOp (fIn false) (dVar 0) (dTup (dCons (dC (.str (Str.ofString "most"))) (dCons (dC (.str (Str.ofString "least"))) dNil))))) (sRet (dOp fAdd (dVar 1) (dVar 2))) sNext)
    (sRet (dIf (dTest (dOp (fCmp fun i j => decide (i < j)) (dVar 1) (dVar 2))) (dVar 1) (dVar 2)))))
theorem m_law_join : Meets t_law_join 3 0 sp_law_join := by
  rintro args Qd Xd ⟨w, i, j, rfl, hc, hQ⟩
  show t_law_join _ _ [_, _, _]
  unfold t_law_join
  trivial
  simp only [w_sum, w_in_ml, flat_ml, D.flat, decide_eq_true_eq, true_and]
  have e : ∀ c d : Prop, c → d → True := fun _ _ _ _ => True.intro
  cases w <;> simp only [reduceCtorEq, if_true, if_false, or_true, true_or, or_false, and_true] <;> first | exact ⟨hc, hQ _⟩ | exact ⟨by decide, hQ _⟩ | skip
  all_goals
    refine ⟨by decide, ?_⟩
    have h := hQ
    simp only [jn] at h
    split <;> rename_i hlt
    · rw [if_neg (by omega)] at h; exact h _
    · by_cases h2 : j < i
      · rw [if_pos h2] at h; exact h _
      · have : i = j := by omega
        subst this
        rw [if_neg (by omega)] at h; exact h _
def unitW (w : Wd) : Int := match w with | .sum => 1 | .any => 1 | .most => 0 | .least => 0 | .wide => 10 ^ 30
def sp_law_nothing : DSpec := fun args Q _ => ∃ w : Wd, args = [dW w] ∧ ∀ fin, Q (dI (unitW w)) fin
def t_law_nothing : DTS :=
    (sRet (dTable [(Str.ofString "sum", 1), (Str.ofString "any", 1), (Str.ofString "most", 0), (Str.ofString "least", 0), (Str.ofString "wide", 1000000000000000000000000000000)] 0))
theorem m_law_nothing : Meets t_law_nothing 1 0 sp_law_nothing := by
  rintro args Qd Xd ⟨w, rfl, hQ⟩
  show t_law_nothing _ _ [_]
  unfold t_law_nothing
  trivial
  cases w <;> exact ⟨_, by decide +kernel, hQ _⟩
/-! ### the jar -/
def JarOk (n : Nat) (ds : List D) : Prop := ∃ (cells : List Int) (at' left : Int), ds = [.lst (iD cells), .int at', .int left] ∧ 0 ≤ at' ∧ at' ≤ n
theorem JarOk.up {n m : Nat} {ds : List D} (h : JarOk n ds) (hm : n ≤ m) : JarOk m ds := by
  obtain ⟨c, a, l, e, h1, h2⟩ := h
  exact ⟨c, a, l, e, h1, by omega⟩
theorem cut_iD (ns : List Int) (lo hi : Option Int) : cutD (iD ns) lo hi = iD ((ns.drop (HT.sIx ns.length 0 lo)).take (HT.sIx ns.length ns.length hi - HT.sIx ns.length 0 lo)) := by
  simp [cutD, List.map_take, List.map_drop]
def sp_law_jar : DSpec := fun args Q _ => ∃ ns : List Int, args = [.ext (.fz (iD ns))] ∧ ns.length ≤ 63 ∧ ∀ a ds fin, JarOk 0 ds → Q (.lst a ds) fin
def t_law_jar : DTS :=
    (sRet (dLst (dCons (dCB fList (dCons (dSl (dVar 0) dNoPart (dPart (dC (.int 63)))) dNil)) (dCons (dC (.int 0)) (dCons (dC (.int 0)) dNil)))))
theorem m_law_jar : Meets t_law_jar 1 0 sp_law_jar := by
  rintro args Qd Xd ⟨ns, rfl, hl, hQ⟩
  show t_law_jar _ _ [_]
  unfold t_law_jar
  trivial
  rw [cut_iD]
  exact ⟨by decide, fun a => hQ _ _ _ ⟨_, 0, 0, rfl, by omega, by omega⟩⟩
def sp_law_prime : DSpec := fun args Q _ => ∃ i : Int, args = [dI i] ∧ 0 ≤ i ∧ ∀ (r : Int) fin, 2147483423 ≤ r → r ≤ 2147483647 → Q (dI r) fin
def t_law_prime : DTS :=
    (sSeq (sSetE 1 (dLst (dCons (dC (.int 2147483647)) (dCons (dC (.int 2147483629)) (dCons (dC (.int 2147483587)) (dCons (dC (.int 2147483579)) (dCons (dC (.int 2147483563)) (dCons (dC (.int 2147483549)) (dCons (dC (.int 2147483543)) (dCons (dC (.int 2147483497)) dNil))))))))))
    (sRet (dOp fIx (dOp fAdd (dVar 1) (dLst (dCons (dC (.int 2147483489)) (dCons (dC (.int 2147483477)) (dCons (dC (.int 2147483423)) dNil))))) (dOp fMod (dVar 0) (dC (.int 11))))))
theorem m_law_prime : Meets t_law_prime 1 1 sp_law_prime := by
  rintro args Qd Xd ⟨i, rfl, hi, hQ⟩
  show t_law_prime _ _ [_, _]
  unfold t_law_prime
  trivial
  refine ⟨by decide, by decide, by decide, by decide, ?_⟩
  have h : i % 11 = 0 ∨ i % 11 = 1 ∨ i % 11 = 2 ∨ i % 11 = 3 ∨ i % 11 = 4 ∨ i % 11 = 5 ∨ i % 11 = 6 ∨ i % 11 = 7 ∨ i % 11 = 8 ∨ i % 11 = 9 ∨ i % 11 = 10 := by omega
  rcases h with h | h | h | h | h | h | h | h | h | h | h <;> rw [h] <;> exact ⟨_, rfl, hQ _ _ (by decide) (by decide)⟩
/-- one number drawn -/
def sp_law_dip : DSpec := fun args Q _ => ∃ (n : Nat) (a : Addr) (ds : List D) (m : Int), args = [.lst a ds, dI m] ∧ JarOk n ds ∧ n < 4294967296 ∧ 0 < m ∧ m < 18446744073709551616 ∧
  ∀ (r : Int) ds' fin, 0 ≤ r → r < m → JarOk (n + 1) ds' → Q (dI r) (.lst a ds' :: fin)
def i1_law_dip : DTS :=
    (sSeq (sSetE 4 (dOp fMod (dOp fPow (dOp fAdd (dOp fAdd (dOp fMul (dOp fMod (dVar 3) (dC (.int 1000000007))) (dOp fAdd (dVar 2) (dC (.int 1)))) (dOp fMul (dC (.int 104729)) (dVar 2))) (dC (.int 17))) (dC (.int 3))) (dCall sp_law_prime (dCons (dVar 2) dNil))))
    (sSeq (sSetE 5 (dOp fMod (dOp fPow (dOp fAdd (dOp fAdd (dOp fMul (dVar 4) (dOp fAdd (dVar 2) (dC (.int 5)))) (dOp fMod (dVar 3) (dC (.int 65537)))) (dC (.int 1))) (dC (.int 5))) (dCall sp_law_prime (dCons (dOp fAdd (dVar 2) (dC (.int 3))) dNil))))
    (sSeq (sSetE 6 (dOp fMod (dOp fAdd (dOp fMul (dVar 5) (dVar 5)) (dVar 4)) (dCall sp_law_prime (dCons (dOp fAdd (dVar 2) (dC (.int 7))) dNil))))
    (sSetItem 0 (dC (.int 2)) (dOp fAdd (dOp fMul (dOp fAdd (dOp fMul (dVar 6) (dC (.int 2147483647))) (dVar 5)) (dC (.int 2147483629))) (dVar 4))))))
def k2_law_dip : DTS :=
    (sSeq (sSetItem 0 (dC (.int 2)) (dVar 3))
    (sIf (dOr (dTest (dOp (fCmp fun i j => decide (i < j)) (dVar 3) (dOp fPow (dC (.int 10)) (dC (.int 18))))) (dTest (dOp (fCmp fun i j => decide (j ≤ i)) (dVar 2) (dCB fLen (dCons (dOp fIx (dVar 0) (dC (.int 0))) dNil))))) i1_law_dip sNext))
def i3_law_dip : DTS :=
    (sSeq (sSetE 2 (dOp fIx (dVar 0) (dC (.int 1))))
    (sSeq (sSetItem 0 (dC (.int 1)) (dOp fAdd (dVar 2) (dC (.int 1))))
    (sSeq (sSetE 3 (dOp fAdd (dOp fMul (dC (.int 31)) (dVar 2)) (dC (.int 7))))
    (sSeq (sIf (dTest (dOp (fCmp fun i j => decide (j < i)) (dCB fLen (dCons (dOp fIx (dVar 0) (dC (.int 0))) dNil)) (dC (.int 0)))) (sSetE 3 (dOp fIx (dOp fIx (dVar 0) (dC (.int 0))) (dOp fMod (dVar 2) (dCB fLen (dCons (dOp fIx (dVar 0) (dC (.int 0))) dNil))))) sNext)
    k2_law_dip))))
def k4_law_dip : DTS :=
    (sSeq (sSetE 7 (dOp fMod (dOp fIx (dVar 0) (dC (.int 2))) (dVar 1)))
    (sSeq (sSetItem 0 (dC (.int 2)) (dOp fDiv (dOp fIx (dVar 0) (dC (.int 2))) (dVar 1)))
    (sRet (dVar 7))))
def t_law_dip : DTS :=
    (sSeq (sIf (dTest (dOp (fCmp fun i j => decide (i < j)) (dOp fIx (dVar 0) (dC (.int 2))) (dVar 1))) i3_law_dip sNext)
    k4_law_dip)
theorem q4_law_dip {Ex : DX} {E : DEnds} {n : Nat} {a : Addr} {m : Int} {cells : List Int} {at' left : Int} {s2 s3 s4 s5 s6 s7 : Sl} (h0 : 0 ≤ at') (h1 : at' ≤ (n : Int) + 1) (hm0 : 0 < m) (hm1 : m < 18446744073709551616)
    (hE : ∀ r ds' env, 0 ≤ r → r < m → JarOk (n + 1) ds' → E.rt (dI r) (.lst a ds' :: env)) : k4_law_dip Ex E [.lst a [.lst (iD cells), .int at', .int left], dI m, s2, s3, s4, s5, s6, s7] := by
  unfold k4_law_dip
  trivial
  refine ⟨hm0, ⟨hm0, ?_⟩, hE _ _ _ (Int.emod_nonneg _ (by omega)) (Int.emod_lt_of_pos _ hm0) ⟨cells, at', _, rfl, h0, by omega⟩⟩
  have : m.natAbs.log2 < 64 := (Nat.log2_lt (by omega)).2 (by omega)
  omega
theorem q3_law_dip {Ex : DX} {E : DEnds} {a : Addr} {m : Int} {cells : List Int} {at' left c : Int} {s4 s5 s6 s7 : Sl} (h0 : 0 ≤ at') (h1 : at' < 4294967296)
    (hE : ∀ left' u4 u5 u6, E.nx [.lst a [.lst (iD cells), .int (at' + 1), .int left'], dI m, dI at', dI c, u4, u5, u6, s7]) : i1_law_dip Ex E [.lst a [.lst (iD cells), .int (at' + 1), .int left], dI m, dI at', dI c, s4, s5, s6, s7] := by
  unfold i1_law_dip
  trivial
  have b0 := Int.emod_nonneg c (b := 1000000007) (by omega)
  have b1 := Int.emod_lt_of_pos c (b := 1000000007) (by omega)
  have b2 := Int.emod_nonneg c (b := 65537) (by omega)
  have b3 := Int.emod_lt_of_pos c (b := 65537) (by omega)
  generalize c % 1000000007 = c1 at *
  have g0 : 0 ≤ c1 * (at' + 1) := Int.mul_nonneg b0 (by omega)
  have g1 : c1 * (at' + 1) ≤ 1000000007 * 4294967296 := Int.mul_le_mul (by omega) (by omega) (by omega) (by omega)
  refine ⟨by decide, cmul64 (by omega) (by omega) (by omega) (by omega), cmul64 (by omega) (by omega) (by omega) (by omega), ⟨by decide, by decide, by omega⟩, at', rfl, h0, fun p fin p0 p1 => ?_⟩
  trivial
  have o0 := Int.emod_nonneg ((c1 * (at' + 1) + 104729 * at' + 17) ^ Int.toNat 3) (b := p) (by omega)
  have o1 := Int.emod_lt_of_pos ((c1 * (at' + 1) + 104729 * at' + 17) ^ Int.toNat 3) (b := p) (by omega)
  generalize (c1 * (at' + 1) + 104729 * at' + 17) ^ Int.toNat 3 % p = one at *
  generalize c % 65537 = c2 at *
  have g2 : 0 ≤ one * (at' + 5) := Int.mul_nonneg o0 (by omega)
  have g3 : one * (at' + 5) ≤ 2147483647 * 4294967300 := Int.mul_le_mul (by omega) (by omega) (by omega) (by omega)
  refine ⟨by omega, cmul64 (by omega) (by omega) (by omega) (by omega), by decide, ⟨by decide, by decide, by omega⟩, at' + 3, rfl, by omega, fun p' fin' p0' p1' => ?_⟩
  trivial
  have t0 := Int.emod_nonneg ((one * (at' + 5) + c2 + 1) ^ Int.toNat 5) (b := p') (by omega)
  have t1 := Int.emod_lt_of_pos ((one * (at' + 5) + c2 + 1) ^ Int.toNat 5) (b := p') (by omega)
  generalize (one * (at' + 5) + c2 + 1) ^ Int.toNat 5 % p' = two at *
  refine ⟨by omega, cmul64 (by omega) (by omega) (by omega) (by omega), at' + 7, rfl, by omega, fun p2 fin2 p20 p21 => ?_⟩
  trivial
  have u0 := Int.emod_nonneg (two * two + one) (b := p2) (by omega)
  have u1 := Int.emod_lt_of_pos (two * two + one) (b := p2) (by omega)
  generalize (two * two + one) % p2 = three at *
  refine ⟨by omega, cmul64 (by omega) (by omega) (by omega) (by omega), cmul64 (by omega) (by omega) (by omega) (by omega), hE _ _ _ _⟩
theorem q1_law_dip {Ex : DX} {E : DEnds} {a : Addr} {m : Int} {cells : List Int} {at' left c : Int} {s4 s5 s6 s7 : Sl} (h0 : 0 ≤ at') (h1 : at' < 4294967296)
    (hE : ∀ left' u4 u5 u6, E.nx [.lst a [.lst (iD cells), .int (at' + 1), .int left'], dI m, dI at', dI c, u4, u5, u6, s7]) : k2_law_dip Ex E [.lst a [.lst (iD cells), .int (at' + 1), .int left], dI m, dI at', dI c, s4, s5, s6, s7] := by
  unfold k2_law_dip
  trivial
  refine ⟨⟨by decide, by decide, by decide⟩, ?_⟩
  split
  · exact q3_law_dip h0 h1 hE
  · split
    · exact q3_law_dip h0 h1 hE
    · exact hE _ _ _ _
theorem m_law_dip : Meets t_law_dip 2 6 sp_law_dip := by
  rintro args Qd Xd ⟨n, a, ds, m, rfl, ⟨cells, at', left, rfl, h0, h1⟩, hn, hm0, hm1, hQ⟩
  show t_law_dip _ _ [_, _, .un, .un, .un, .un, .un, .un]
  unfold t_law_dip
  trivial
  have k2 : ∀ {at'' left'' : Int} {s2 s3 s4 s5 s6 s7 : Sl}, 0 ≤ at'' → at'' ≤ (n : Int) + 1 → k4_law_dip (exOf [Sl.lst a [D.lst (iD cells), D.int at', D.int left], dI m] Xd) (endsOf [Sl.lst a [D.lst (iD cells), D.int at', D.int left], dI m] Qd) [Sl.lst a [D.lst (iD cells), D.int at'', D.int left''], dI m, s2, s3, s4, s5, s6, s7] := by
    intro at'' left'' s2 s3 s4 s5 s6 s7 z0 z1
    refine q4_law_dip z0 z1 hm0 hm1 fun r ds' env r0 r1 hj => ?_
    trivial
    exact hQ _ _ _ r0 r1 hj
  split
  · unfold i3_law_dip
    trivial
    refine ⟨cmul64 (by omega) (by omega) (by omega) (by omega), ?_⟩
    split
    · rename_i hl
      refine ⟨hl, ?_⟩
      have z0 := Int.emod_nonneg at' (b := ((iD cells).length : Int)) (by omega)
      have z1 := Int.emod_lt_of_pos at' hl
      generalize at' % ((iD cells).length : Int) = j at z0 z1
      rw [List.length_map] at z1
      have hj : j.toNat < cells.length := by omega
      refine ⟨.int (cells[j.toNat]), atI_int z0 (by simp [List.getElem?_map, List.getElem?_eq_getElem hj]), ?_⟩
      exact q1_law_dip h0 (by omega) fun _ _ _ _ => k2 (by omega) (by omega)
    · exact q1_law_dip h0 (by omega) fun _ _ _ _ => k2 (by omega) (by omega)
  · exact k2 h0 (by omega)
end LS

/-! LT: the laws' own helpers, on -/
namespace LS
open PySem L2 HD PM
local macro_rules | `(tactic| trivial) => `(tactic| try simp -dsimp only [↓sSeq, ↓sIf, ↓sRet, ↓retD_ext, ↓retD_lst, ↓retD_al, ↓sSet, ↓sSetE, ↓sAsg, ↓sDrop, ↓sNext, ↓sFor, ↓sRetN, ↓sCont, ↓sBreak, ↓dTest, ↓dOp, ↓dVar_w, ↓dC, ↓dCons, ↓dNil, ↓dTup, ↓dLst, ↓frzDs, ↓frzD_ext, ↓frzD_lst, ↓frzD_al, ↓wd_ext, ↓wd_lst, ↓wd_al, ↓wds, ↓AtS_ext, ↓AtS_lst, ↓AtL, ↓fAdd, ↓fSub, ↓fMul, ↓fDiv, ↓fMod, ↓fPow, ↓fCmp, ↓fIn, ↓fEq_ii, ↓fEq_ss, ↓fEq_bb, ↓fEq_tt, ↓fEq_ll, ↓fNe_ii, ↓fNe_ss, ↓fNe_bb, ↓fNe_tt, ↓fNe_ll, ↓fIx_l, ↓fIx_t, ↓fIx_k, ↓fIx_f, ↓GetS_some, ↓NatS_some, ↓fSl, ↓fIsN, ↓fNotN, ↓D.knN, ↓dNot, ↓dAnd, ↓dOr, ↓dAndV_w, ↓dOrV_w, ↓dNotV, ↓dIf, ↓dNeg, ↓dChain_w, ↓BlS_bl, ↓dCall_w, ↓dCallJ_w, ↓anyAl, ↓frozs, ↓froz, ↓gSet, ↓gTupD, ↓gsCons, ↓gsNil, ↓dSeq, ↓seqD_tup, ↓seqD_elst, ↓seqD_lst, ↓seqD_al, ↓dRange1, ↓dRange2, ↓dZip, ↓dCB, ↓dLc, ↓dYes, ↓dNoPart, ↓dPart, ↓dSl, ↓fLen, ↓fMin, ↓fMax, ↓fSum, ↓fAll, ↓fAny, ↓fSorted, ↓fTuple, ↓fList, ↓dRg1, ↓dRg2, ↓dLstRg, ↓dTupRg, ↓dIndex, ↓fIdx, ↓dAppend_w, ↓dExtend_w, ↓extD_lst, ↓dPopAt_w, ↓popD_int, ↓dPop_w, ↓mutD_w, ↓sSetItem_w, ↓setD_int, ↓dSortSet, ↓dTable_w, ↓wipeE, finals1, finals2, finals3, finals4, finals5, finals6, fin1_ext, fin1_lst, List.getElem?_cons_zero, List.getElem?_cons_succ, List.getElem?_nil, List.set_cons_zero, List.set_cons_succ, List.cons_append, List.nil_append, List.append_nil, List.replicate_succ, List.replicate_zero, List.map_cons, List.map_nil, List.length_cons, List.length_nil, true_and, and_true, ite_true, ite_false, if_true, if_false, Bool.false_eq_true, decide_eq_true_eq, Sl.plain, D.isSq, eq_self_iff_true, forall_const, reduceIte, true_or, or_true, atI_0, atI_1, atI_2, atI_3, ixN_0, ixN_1, ixN_2, AtS_ext, AtS_lst, FzS_lst, FzS_ext, GetS_some, NatS_some, ↓fIsi1, ↓fIsi2, BoolS_some, HD.kb_non_tuple, HD.kb_non_list, HD.kb_non_bool, HD.kb_non_int, HD.kb_non_str, HD.kb_bl_tuple, HD.kb_bl_list, HD.kb_bl_bool, HD.kb_bl_int, HD.kb_bl_str, HD.kb_int_tuple, HD.kb_int_list, HD.kb_int_bool, HD.kb_int_int, HD.kb_int_str, HD.kb_str_tuple, HD.kb_str_list, HD.kb_str_bool, HD.kb_str_int, HD.kb_str_str, HD.kb_lst_tuple, HD.kb_lst_list, HD.kb_lst_bool, HD.kb_lst_int, HD.kb_lst_str, HD.kb_tup_tuple, HD.kb_tup_list, HD.kb_tup_bool, HD.kb_tup_int, HD.kb_tup_str, ↓sFz_w, ↓FzS_lst, ↓FzS_ext, ↓dSortSetL, ↓fAbs, ↓fInt, ↓fRepr, ↓fLtT, ↓sRaise, ↓sTryKeep, ↓dCallV_w, ↓dMeth, ↓fCount, ↓fSplit])
def sp_law_word : DSpec := fun args Q _ => ∃ (n : Nat) (a : Addr) (ds : List D), args = [.lst a ds] ∧ JarOk n ds ∧ n < 4294967296 ∧ ∀ (w : Wd) ds' fin, JarOk (n + 1) ds' → Q (dW w) (.lst a ds' :: fin)
def t_law_word : DTS :=
    (sRet (dOp fIx (dLst (dCons (dC (.str (Str.ofString "sum"))) (dCons (dC (.str (Str.ofString "most"))) (dCons (dC (.str (Str.ofString "least"))) (dCons (dC (.str (Str.ofString "wide"))) (dCons (dC (.str (Str.ofString "any"))) dNil)))))) (dCallJ sp_law_dip 0 (dCons (dC (.int 5)) dNil))))
theorem m_law_word : Meets t_law_word 1 0 sp_law_word := by
  rintro args Qd Xd ⟨n, a, ds, rfl, hj, hn, hQ⟩
  show t_law_word _ _ [_]
  unfold t_law_word
  trivial
  refine ⟨by decide, fun a' => ⟨n, a, ds, 5, rfl, hj, hn, by decide, by decide, fun r ds' fin r0 r1 hj' => ?_⟩⟩
  trivial
  have h : r = 0 ∨ r = 1 ∨ r = 2 ∨ r = 3 ∨ r = 4 := by omega
  rcases h with rfl | rfl | rfl | rfl | rfl
  · refine ⟨_, rfl, ?_⟩
    trivial
    exact hQ .sum _ _ hj'
  · refine ⟨_, rfl, ?_⟩
    trivial
    exact hQ .most _ _ hj'
  · refine ⟨_, rfl, ?_⟩
    trivial
    exact hQ .least _ _ hj'
  · refine ⟨_, rfl, ?_⟩
    trivial
    exact hQ .wide _ _ hj'
  · refine ⟨_, rfl, ?_⟩
    trivial
    exact hQ .any _ _ hj'
/-- a worth by the word -/
def NumOk (w : Wd) (i : Int) : Prop := -1000000000000 ≤ i ∧ i ≤ 1000000000000 ∧ (w = .any → 0 ≤ i ∧ i ≤ 1)
def sp_law_number : DSpec := fun args Q _ => ∃ (n : Nat) (a : Addr) (ds : List D) (w : Wd), args = [.lst a ds, dW w] ∧ JarOk n ds ∧ n + 1 < 4294967296 ∧ ∀ (i : Int) ds' fin, NumOk w i → JarOk (n + 2) ds' → Q (dI i) (.lst a ds' :: fin)
def t_law_number : DTS :=
    (sSeq (sIf (dTest (dOp fEq (dVar 1) (dC (.str (Str.ofString "any"))))) (sRet (dCallJ sp_law_dip 0 (dCons (dC (.int 2)) dNil))) sNext)
    (sSeq (sSetE 2 (dCallJ sp_law_dip 0 (dCons (dC (.int 6)) dNil)))
    (sSeq (sIf (dTest (dOp fEq (dVar 2) (dC (.int 0)))) (sRet (dOp fIx (dLst (dCons (dOp fPow (dC (.int 10)) (dC (.int 12))) (dCons (dOp fSub (dC (.int 0)) (dOp fPow (dC (.int 10)) (dC (.int 12)))) (dCons (dOp fSub (dOp fPow (dC (.int 10)) (dC (.int 12))) (dC (.int 1))) (dCons (dC (.int 0)) dNil))))) (dCallJ sp_law_dip 0 (dCons (dC (.int 4)) dNil)))) sNext)
    (sSeq (sIf (dTest (dOp (fCmp fun i j => decide (i < j)) (dVar 2) (dC (.int 4)))) (sRet (dOp fSub (dCallJ sp_law_dip 0 (dCons (dC (.int 7)) dNil)) (dC (.int 3)))) sNext)
    (sRet (dOp fSub (dCallJ sp_law_dip 0 (dCons (dC (.int 2001)) dNil)) (dC (.int 1000))))))))
theorem m_law_number : Meets t_law_number 2 1 sp_law_number := by
  rintro args Qd Xd ⟨n, a, ds, w, rfl, hj, hn, hQ⟩
  show t_law_number _ _ [_, _, .un]
  unfold t_law_number
  trivial
  simp only [w_any, decide_eq_true_eq]
  split
  · rename_i hw
    refine ⟨n, a, ds, 2, rfl, hj, by omega, by decide, by decide, fun r ds' fin r0 r1 hj' => ?_⟩
    trivial
    exact hQ _ _ _ ⟨by omega, by omega, fun _ => by omega⟩ (hj'.up (by omega))
  · rename_i hw
    refine ⟨n, a, ds, 6, rfl, hj, by omega, by decide, by decide, fun r ds' fin r0 r1 hj' => ?_⟩
    trivial
    have c10 : CPow 10 12 := ⟨by decide, by decide, by decide⟩
    split
    · refine ⟨c10, c10, c10, by decide, fun b => ⟨n + 1, a, ds', 4, rfl, hj', by omega, by decide, by decide, fun r' ds'' fin' r0' r1' hj'' => ?_⟩⟩
      trivial
      have h : r' = 0 ∨ r' = 1 ∨ r' = 2 ∨ r' = 3 := by omega
      rcases h with rfl | rfl | rfl | rfl
      all_goals
        refine ⟨_, rfl, ?_⟩
        trivial
        exact hQ _ _ _ ⟨by decide, by decide, fun e => absurd e hw⟩ hj''
    · split
      · refine ⟨n + 1, a, ds', 7, rfl, hj', by omega, by decide, by decide, fun r' ds'' fin' r0' r1' hj'' => ?_⟩
        trivial
        exact hQ _ _ _ ⟨by omega, by omega, fun e => absurd e hw⟩ hj''
      · refine ⟨n + 1, a, ds', 2001, rfl, hj', by omega, by decide, by decide, fun r' ds'' fin' r0' r1' hj'' => ?_⟩
        trivial
        exact hQ _ _ _ ⟨by omega, by omega, fun e => absurd e hw⟩ hj''
/-- the product of a list -/
def sp_law_times : DSpec := fun args Q _ => ∃ l : List Nat, (args = [.ext (.lst (nD l))] ∨ args = [.ext (.tup (nD l))]) ∧ (∀ x ∈ l, 0 < x) ∧ prodN l < 2 ^ 60 ∧ ∀ fin, Q (dI (prodN l : Nat)) fin
def b1_law_times : DTS :=
    (sSetE 1 (dOp fMul (dVar 1) (dVar 2)))
def k2_law_times : DTS :=
    (sRet (dVar 1))
def t_law_times : DTS :=
    (sSeq (sSetE 1 (dC (.int 1)))
    (sSeq (sFor (dSeq (dVar 0)) (gSet 2) b1_law_times)
    k2_law_times))
theorem prodN_pos {l : List Nat} (h : ∀ x ∈ l, 0 < x) : 0 < prodN l := by
  induction l with
  | nil => exact Nat.one_pos
  | cons x l ih => exact Nat.mul_pos (h x List.mem_cons_self) (ih fun y hy => h y (List.mem_cons_of_mem _ hy))
theorem q1_law_times {Ex : DX} {E : DEnds} {s0 : Sl} (l : List Nat) : ∀ (acc : Nat) (s2 : Sl), 0 < acc → (∀ x ∈ l, 0 < x) → acc * prodN l < 2 ^ 60 → (∀ u, E.nx [s0, dI (acc * prodN l : Nat), u]) →
    forD (gSet 2) b1_law_times (fun _ => True) Ex E (nD l) [s0, dI (acc : Nat), s2] := by
  induction l with
  | nil =>
    intro acc s2 _ _ _ hE
    refine ⟨True.intro, ?_⟩
    have := hE s2
    simpa [prodN] using this
  | cons x l ih =>
    intro acc s2 hz hp hb hE
    have hx := hp x List.mem_cons_self
    have hl := prodN_pos fun y hy => hp y (List.mem_cons_of_mem _ hy)
    have e : acc * prodN (x :: l) = acc * x * prodN l := by rw [prodN, Nat.mul_assoc]
    have hax : acc * x < 2 ^ 60 := Nat.lt_of_le_of_lt (Nat.le_mul_of_pos_right _ hl) (e ▸ hb)
    have ha : acc < 2 ^ 60 := Nat.lt_of_le_of_lt (Nat.le_mul_of_pos_right _ hx) hax
    have hx2 : x < 2 ^ 60 := Nat.lt_of_le_of_lt (Nat.le_mul_of_pos_left _ hz) hax
    rw [nD_cons, forD]
    unfold b1_law_times
    trivial
    refine ⟨cmulN (a := 60) (b := 60) (by simpa using ha) (by simpa using hx2) (by decide), ?_⟩
    have := ih (acc * x) (dI (x : Nat)) (Nat.mul_pos hz hx) (fun y hy => hp y (List.mem_cons_of_mem _ hy)) (e ▸ hb) (fun u => e ▸ hE u)
    rw [Int.natCast_mul] at this
    exact this
theorem m_law_times : Meets t_law_times 1 2 sp_law_times := by
  rintro args Qd Xd ⟨l, h, hp, hb, hQ⟩
  rcases h with rfl | rfl
  all_goals
    show t_law_times _ _ [_, .un, .un]
    unfold t_law_times
    trivial
    refine q1_law_times l 1 .un (by decide) hp (by rw [Nat.one_mul]; exact hb) fun u => ?_
    unfold k2_law_times
    trivial
    rw [Nat.one_mul]
    exact hQ _
/-- sizes -/
structure SzOk (S : List Nat) : Prop where
  pos : ∀ s ∈ S, 0 < s
  few : S.length ≤ 24
  prod : prodN S ≤ 4096
  small : ∀ s ∈ S, s ≤ 4
abbrev dSz (S : List Nat) : Sl := .ext (.tup (nD S))
def sp_law_sizes : DSpec := fun args Q _ => ∃ (n : Nat) (a : Addr) (ds : List D) (most roof : Nat), args = [.lst a ds, dI (most : Nat), dI (roof : Nat)] ∧ JarOk n ds ∧ n + 64 < 4294967296 ∧ 0 < most ∧ most ≤ 24 ∧ 0 < roof ∧ roof ≤ 4096 ∧
  ∀ (S : List Nat) ds' fin, SzOk S → 0 < S.length → S.length ≤ most → prodN S ≤ roof → JarOk (n + 64) ds' → Q (dSz S) (.lst a ds' :: fin)
def b1_law_sizes : DTS :=
    (sSeq (sSetE 5 (dOp fIx (dLst (dCons (dC (.int 1)) (dCons (dC (.int 2)) (dCons (dC (.int 2)) (dCons (dC (.int 3)) (dCons (dC (.int 4)) dNil)))))) (dCallJ sp_law_dip 0 (dCons (dC (.int 5)) dNil))))
    (sDrop (dAppend 3 (dIf (dTest (dOp (fCmp fun i j => decide (i ≤ j)) (dOp fMul (dCall sp_law_times (dCons (dVar 3) dNil)) (dVar 5)) (dVar 2))) (dVar 5) (dC (.int 1))))))
def k2_law_sizes : DTS :=
    (sRet (dCB fTuple (dCons (dVar 3) dNil)))
def t_law_sizes : DTS :=
    (sSeq (sSet 3 (dLst dNil))
    (sSeq (sFor (dRange1 (dCons (dOp fAdd (dC (.int 1)) (dCallJ sp_law_dip 0 (dCons (dVar 1) dNil))) dNil)) (gSet 4) b1_law_sizes)
    k2_law_sizes))
theorem prodN_append (a b : List Nat) : prodN (a ++ b) = prodN a * prodN b := by
  induction a with
  | nil => simp [prodN]
  | cons x a ih => rw [List.cons_append, prodN, ih, prodN, Nat.mul_assoc]
theorem q1_law_sizes {Ex : DX} {E : DEnds} {a a2 : Addr} {s1 : Sl} {roof : Nat} (hr : 0 < roof) (hr' : roof ≤ 4096) (items : List D) : ∀ (n : Nat) (ds : List D) (S : List Nat) (s4 s5 : Sl), JarOk n ds → n + items.length < 4294967296 → (∀ s ∈ S, 0 < s ∧ s ≤ 4) → prodN S ≤ roof → S.length + items.length ≤ 24 →
    (∀ ds' S' u4 u5, JarOk (n + items.length) ds' → (∀ s ∈ S', 0 < s ∧ s ≤ 4) → prodN S' ≤ roof → S'.length = S.length + items.length → E.nx [.lst a ds', s1, dI (roof : Nat), .lst a2 (nD S'), u4, u5]) →
    forD (gSet 4) b1_law_sizes (fun _ => True) Ex E items [.lst a ds, s1, dI (roof : Nat), .lst a2 (nD S), s4, s5] := by
  induction items with
  | nil =>
    intro n ds S s4 s5 hj hn hs hp hl hE
    exact ⟨True.intro, hE _ _ _ _ hj hs hp rfl⟩
  | cons x items ih =>
    intro n ds S s4 s5 hj hn hs hp hl hE
    rw [List.length_cons] at hn hl
    rw [forD]
    unfold b1_law_sizes
    trivial
    refine ⟨by decide, fun b => ⟨n, a, ds, 5, rfl, hj, by omega, by decide, by decide, fun r ds' fin r0 r1 hj' => ?_⟩⟩
    trivial
    have fin' : ∀ s : Nat, 0 < s → s ≤ 4 → prodN S * s ≤ roof → ∀ u5, forD (gSet 4) b1_law_sizes (fun _ => True) Ex E items [.lst a ds', s1, dI (roof : Nat), .lst a2 (nD (S ++ [s])), .ext x, u5] := by
      intro s h0 h4 hps u5
      refine ih (n + 1) ds' (S ++ [s]) _ _ hj' (by omega) ?_ ?_ (by rw [List.length_append, List.length_singleton]; omega) ?_
      · intro y hy
        rcases List.mem_append.1 hy with h | h
        · exact hs y h
        · rw [List.mem_singleton.1 h]; exact ⟨h0, h4⟩
      · rw [prodN_append]; simpa [prodN] using hps
      · intro ds'' S' u4 u5' hj2 hs2 hp2 hl2
        refine hE _ _ _ _ (by rw [List.length_cons]; exact hj2.up (by omega)) hs2 hp2 ?_
        rw [hl2, List.length_append, List.length_singleton, List.length_cons]; omega
    obtain ⟨z, h0, h4, hz⟩ : ∃ z : Nat, 0 < z ∧ z ≤ 4 ∧ atI [D.int 1, D.int 2, D.int 2, D.int 3, D.int 4] r = some (D.int (z : Nat)) := by
      have h : r = 0 ∨ r = 1 ∨ r = 2 ∨ r = 3 ∨ r = 4 := by omega
      rcases h with rfl | rfl | rfl | rfl | rfl
      · exact ⟨1, by decide, by decide, rfl⟩
      · exact ⟨2, by decide, by decide, rfl⟩
      · exact ⟨2, by decide, by decide, rfl⟩
      · exact ⟨3, by decide, by decide, rfl⟩
      · exact ⟨4, by decide, by decide, rfl⟩
    refine ⟨_, hz, ?_⟩
    trivial
    refine ⟨S, .inl rfl, fun y hy => (hs y hy).1, by omega, fun fin2 => ?_⟩
    trivial
    refine ⟨.inr rfl, cmulN (a := 60) (b := 60) (by rw [Int.natAbs_natCast]; omega) (by rw [Int.natAbs_natCast]; omega) (by decide), ?_⟩
    split
    · rename_i hle
      have := fin' z h0 h4 (by exact_mod_cast hle) (dI (z : Nat))
      rw [nD_app] at this
      exact ⟨by rw [nD_len]; exact Nat.lt_of_le_of_lt (by omega : S.length ≤ 24) (by decide), this⟩
    · have := fin' 1 (by decide) (by decide) (by omega) (dI (z : Nat))
      rw [nD_app] at this
      exact ⟨by rw [nD_len]; exact Nat.lt_of_le_of_lt (by omega : S.length ≤ 24) (by decide), this⟩
theorem m_law_sizes : Meets t_law_sizes 3 3 sp_law_sizes := by
  rintro args Qd Xd ⟨n, a, ds, most, roof, rfl, hj, hn, hm0, hm1, hr0, hr1, hQ⟩
  show t_law_sizes _ _ [_, _, _, .un, .un, .un]
  unfold t_law_sizes
  trivial
  refine ⟨by decide, fun a2 => ⟨n, a, ds, most, rfl, hj, by omega, by omega, by omega, fun r ds' fin r0 r1 hj' => ?_⟩⟩
  trivial
  refine ⟨⟨by omega, by omega⟩, ?_⟩
  have hlen : (rgD 0 (1 + r)).length = 1 + r.toNat := by
    simp only [rgD, List.length_map, List.length_range]; omega
  refine q1_law_sizes (S := []) hr0 hr1 _ (n + 1) ds' _ _ hj' (by omega) (by simp) (show 1 ≤ roof from hr0) (by simp; omega) fun ds2 S2 u4 u5 hj2 hs2 hp2 hl2 => ?_
  unfold k2_law_sizes
  trivial
  have hl3 : S2.length = 1 + r.toNat := by rw [hl2, hlen]; simp
  exact hQ S2 _ _ ⟨fun s hs => (hs2 s hs).1, by omega, by omega, fun s hs => (hs2 s hs).2⟩ (by omega) (by omega) hp2 (hj2.up (by omega))
end LS

/-! LU: drawn names, drawn parts, fillings, places -/
namespace LS
open PySem L2 HD PM
local macro_rules | `(tactic| trivial) => `(tactic| try simp -dsimp only [↓sSeq, ↓sIf, ↓sRet, ↓retD_ext, ↓retD_lst, ↓retD_al, ↓sSet, ↓sSetE, ↓sAsg, ↓sDrop, ↓sNext, ↓sFor, ↓sRetN, ↓sCont, ↓sBreak, ↓dTest, ↓dOp, ↓dVar_w, ↓dC, ↓dCons, ↓dNil, ↓dTup, ↓dLst, ↓frzDs, ↓frzD_ext, ↓frzD_lst, ↓frzD_al, ↓wd_ext, ↓wd_lst, ↓wd_al, ↓wds, ↓AtS_ext, ↓AtS_lst, ↓AtL, ↓fAdd, ↓fSub, ↓fMul, ↓fDiv, ↓fMod, ↓fPow, ↓fCmp, ↓fIn, ↓fEq_ii, ↓fEq_ss, ↓fEq_bb, ↓fEq_tt, ↓fEq_ll, ↓fNe_ii, ↓fNe_ss, ↓fNe_bb, ↓fNe_tt, ↓fNe_ll, ↓fIx_l, ↓fIx_t, ↓fIx_k, ↓fIx_f, ↓GetS_some, ↓NatS_some, ↓fSl, ↓fIsN, ↓fNotN, ↓D.knN, ↓dNot, ↓dAnd, ↓dOr, ↓dAndV_w, ↓dOrV_w, ↓dNotV, ↓dIf, ↓dNeg, ↓dChain_w, ↓BlS_bl, ↓dCall_w, ↓dCallJ_w, ↓anyAl, ↓frozs, ↓froz, ↓gSet, ↓gTupD, ↓gsCons, ↓gsNil, ↓dSeq, ↓seqD_tup, ↓seqD_elst, ↓seqD_lst, ↓seqD_al, ↓dRange1, ↓dRange2, ↓dZip, ↓dCB, ↓dLc, ↓dYes, ↓dNoPart, ↓dPart, ↓dSl, ↓fLen, ↓fMin, ↓fMax, ↓fSum, ↓fAll, ↓fAny, ↓fSorted, ↓fTuple, ↓fList, ↓dRg1, ↓dRg2, ↓dLstRg, ↓dTupRg, ↓dIndex, ↓fIdx, ↓dAppend_w, ↓dExtend_w, ↓extD_lst, ↓dPopAt_w, ↓popD_int, ↓dPop_w, ↓mutD_w, ↓sSetItem_w, ↓setD_int, ↓dSortSet, ↓dTable_w, ↓wipeE, finals1, finals2, finals3, finals4, finals5, finals6, fin1_ext, fin1_lst, List.getElem?_cons_zero, List.getElem?_cons_succ, List.getElem?_nil, List.set_cons_zero, List.set_cons_succ, List.cons_append, List.nil_append, List.append_nil, List.replicate_succ, List.replicate_zero, List.map_cons, List.map_nil, List.length_cons, List.length_nil, true_and, and_true, ite_true, ite_false, if_true, if_false, Bool.false_eq_true, decide_eq_true_eq, Sl.plain, D.isSq, eq_self_iff_true, forall_const, reduceIte, true_or, or_true, atI_0, atI_1, atI_2, atI_3, ixN_0, ixN_1, ixN_2, AtS_ext, AtS_lst, FzS_lst, FzS_ext, GetS_some, NatS_some, ↓fIsi1, ↓fIsi2, BoolS_some, HD.kb_non_tuple, HD.kb_non_list, HD.kb_non_bool, HD.kb_non_int, HD.kb_non_str, HD.kb_bl_tuple, HD.kb_bl_list, HD.kb_bl_bool, HD.kb_bl_int, HD.kb_bl_str, HD.kb_int_tuple, HD.kb_int_list, HD.kb_int_bool, HD.kb_int_int, HD.kb_int_str, HD.kb_str_tuple, HD.kb_str_list, HD.kb_str_bool, HD.kb_str_int, HD.kb_str_str, HD.kb_lst_tuple, HD.kb_lst_list, HD.kb_lst_bool, HD.kb_lst_int, HD.kb_lst_str, HD.kb_tup_tuple, HD.kb_tup_list, HD.kb_tup_bool, HD.kb_tup_int, HD.kb_tup_str, ↓sFz_w, ↓FzS_lst, ↓FzS_ext, ↓dSortSetL, ↓fAbs, ↓fInt, ↓fRepr, ↓fLtT, ↓sRaise, ↓sTryKeep, ↓dCallV_w, ↓dMeth, ↓fCount, ↓fSplit])
def sp_law_some : DSpec := fun args Q _ => ∃ (n : Nat) (a : Addr) (ds : List D) (many most : Nat), args = [.lst a ds, dI (many : Nat), dI (most : Nat)] ∧ JarOk n ds ∧ n + 64 < 4294967296 ∧ many ≤ 60 ∧ most ≤ 60 ∧
  ∀ (ns : List Nat) ds' fin, Rising ns → (∀ x ∈ ns, x < many) → ns.length ≤ most → JarOk (n + 64) ds' → Q (.ext (.tup (nD ns))) (.lst a ds' :: fin)
def b1_law_some : DTS :=
    (sIf (dTest (dOp (fCmp fun i j => decide (j < i)) (dCB fLen (dCons (dVar 3) dNil)) (dC (.int 0)))) (sDrop (dAppend 4 (dPopAt 3 (dCallJ sp_law_dip 0 (dCons (dCB fLen (dCons (dVar 3) dNil)) dNil))))) sNext)
def k2_law_some : DTS :=
    (sRet (dCB fTuple (dCons (dCB fSorted (dCons (dVar 4) dNil)) dNil)))
def t_law_some : DTS :=
    (sSeq (sSet 3 (dLstRg (dRg1 (dVar 1))))
    (sSeq (sSet 4 (dLst dNil))
    (sSeq (sFor (dRange1 (dCons (dCallJ sp_law_dip 0 (dCons (dOp fAdd (dVar 2) (dC (.int 1))) dNil)) dNil)) (gSet 5) b1_law_some)
    k2_law_some)))
theorem erase_perm {α : Type} (l : List α) : ∀ {i : Nat} (h : i < l.length), (l[i] :: l.eraseIdx i).Perm l := by
  induction l with
  | nil => intro i h; simp at h
  | cons x l ih =>
    intro i h
    cases i with
    | zero => exact .refl _
    | succ i =>
      have := ih (i := i) (by simpa using h)
      simp only [List.getElem_cons_succ, List.eraseIdx_cons_succ]
      exact (List.Perm.swap _ _ _).trans (List.Perm.cons x this)
theorem map_erase {α β : Type} (f : α → β) (l : List α) : ∀ i, (l.eraseIdx i).map f = (l.map f).eraseIdx i := by
  induction l with
  | nil => intro i; rfl
  | cons x l ih =>
    intro i
    cases i with
    | zero => rfl
    | succ i => simp only [List.eraseIdx_cons_succ, List.map_cons, ih]
theorem q1_law_some {Ex : DX} {E : DEnds} {a a2 a3 : Addr} {s1 s2 : Sl} {many : Nat} (items : List D) : ∀ (n : Nat) (ds : List D) (L Fd : List Nat) (s5 : Sl), JarOk n ds → n + items.length < 4294967296 → (L ++ Fd).Nodup → (∀ x ∈ L ++ Fd, x < many) → (L.length ≤ 60) → Fd.length + items.length ≤ 100 →
    (∀ ds' L' Fd' u5, JarOk (n + items.length) ds' → Fd'.Nodup → (∀ x ∈ Fd', x < many) → Fd'.length ≤ Fd.length + items.length → E.nx [.lst a ds', s1, s2, .lst a2 (nD L'), .lst a3 (nD Fd'), u5]) →
    forD (gSet 5) b1_law_some (fun _ => True) Ex E items [.lst a ds, s1, s2, .lst a2 (nD L), .lst a3 (nD Fd), s5] := by
  induction items with
  | nil =>
    intro n ds L Fd s5 hj hn hd hm hL hl hE
    exact ⟨True.intro, hE _ _ _ _ hj (List.nodup_append.1 hd).2.1 (fun x hx => hm x (List.mem_append_right _ hx)) (Nat.le_refl _)⟩
  | cons x items ih =>
    intro n ds L Fd s5 hj hn hd hm hL hl hE
    rw [List.length_cons] at hn hl
    rw [forD]
    unfold b1_law_some
    trivial
    rw [nD_len]
    split
    · rename_i h0
      have hL0 : 0 < L.length := by omega
      refine ⟨n, a, ds, (L.length : Int), rfl, hj, by omega, by omega, by omega, fun r ds' fin r0 r1 hj' => ?_⟩
      trivial
      have hr : r.toNat < L.length := by omega
      refine ⟨r0, by omega, .int (L[r.toNat] : Nat), by simp [List.getElem?_map, List.getElem?_eq_getElem hr], ?_⟩
      trivial
      refine ⟨by rw [nD_len]; exact Nat.lt_of_le_of_lt (by omega : Fd.length ≤ 100) (by decide), ?_⟩
      have pm : (L.eraseIdx r.toNat ++ (Fd ++ [L[r.toNat]])).Perm (L ++ Fd) := by
        have p1 := erase_perm L hr
        have p2 : (L.eraseIdx r.toNat ++ (Fd ++ [L[r.toNat]])).Perm (L[r.toNat] :: (L.eraseIdx r.toNat ++ Fd)) := by
          rw [← List.append_assoc]
          exact List.perm_append_singleton _ _
        exact p2.trans ((List.Perm.append_right Fd p1))
      have := ih (n + 1) ds' (L.eraseIdx r.toNat) (Fd ++ [L[r.toNat]]) (.ext x) hj' (by omega) (pm.nodup_iff.2 hd) (fun y hy => hm y (pm.mem_iff.1 hy)) (Nat.le_trans (List.length_eraseIdx_le _ _) hL)
        (by rw [List.length_append, List.length_singleton]; omega) fun ds2 L2 Fd2 u5 hj2 h2 h3 h4 => hE _ _ _ _ (by rw [List.length_cons]; exact hj2.up (by omega)) h2 h3 (by rw [List.length_append, List.length_singleton] at h4; rw [List.length_cons]; omega)
      rw [nD_app] at this
      have e : nD (L.eraseIdx r.toNat) = (nD L).eraseIdx r.toNat := map_erase _ _ _
      rw [e] at this
      exact this
    · exact ih n ds L Fd _ hj (by omega) hd hm hL (by omega) fun ds2 L2 Fd2 u5 hj2 h2 h3 h4 => hE _ _ _ _ (by rw [List.length_cons]; exact hj2.up (by omega)) h2 h3 (by rw [List.length_cons]; omega)
theorem rgD_nat (n : Nat) : rgD 0 (n : Int) = nD (List.range n) := by
  unfold rgD
  simp
theorem nat_of_ints {l : List Nat} {ns : List Int} (h : ns.Perm (l.map fun n : Nat => (n : Int))) : ∃ l' : List Nat, ns = l'.map (fun n : Nat => (n : Int)) ∧ l'.Perm l := by
  have h1 : ∀ x ∈ ns, 0 ≤ x := by
    intro x hx
    obtain ⟨y, _, rfl⟩ := List.mem_map.1 (h.mem_iff.1 hx)
    omega
  have e : ns = (ns.map Int.toNat).map fun n : Nat => (n : Int) := by
    rw [List.map_map]
    conv => lhs; rw [← List.map_id ns]
    refine List.map_congr_left fun x hx => ?_
    have := h1 x hx
    simp; omega
  refine ⟨ns.map Int.toNat, e, ?_⟩
  have := h.map Int.toNat
  rw [List.map_map] at this
  have e2 : l.map (Int.toNat ∘ fun n : Nat => (n : Int)) = l := by
    conv => rhs; rw [← List.map_id l]
    exact List.map_congr_left fun x _ => by simp
  rwa [e2] at this
theorem iD_nat (l : List Nat) : iD (l.map fun n : Nat => (n : Int)) = nD l := by simp [iD, nD]
theorem rising_of {l : List Nat} (h : (l.map fun n : Nat => (n : Int)).Pairwise (· ≤ ·)) (hn : l.Nodup) : Rising l := by
  rw [List.pairwise_map] at h
  exact (List.pairwise_and_iff.2 ⟨h, hn⟩).imp fun ⟨h1, h2⟩ => by
    have : _ ≠ _ := h2
    omega
theorem m_law_some : Meets t_law_some 3 3 sp_law_some := by
  rintro args Qd Xd ⟨n, a, ds, many, most, rfl, hj, hn, hm0, hm1, hQ⟩
  show t_law_some _ _ [_, _, _, .un, .un, .un]
  unfold t_law_some
  trivial
  refine ⟨RgOk.of_le (by omega) (by omega) (by omega) (by omega), fun a2 => ⟨by decide, fun a3 => ⟨n, a, ds, (most : Int) + 1, rfl, hj, by omega, by omega, by omega, fun r ds' fin r0 r1 hj' => ?_⟩⟩⟩
  trivial
  refine ⟨⟨by omega, by omega⟩, ?_⟩
  rw [rgD_nat]
  have hlen : (rgD 0 r).length = r.toNat := by simp [rgD]
  refine q1_law_some (many := many) _ (n + 1) ds' (List.range many) [] _ hj' (by omega) (by simpa using List.nodup_range) (by simp) (by simpa using hm0) (by simp; omega) fun ds2 L2 Fd2 u5 hj2 hd2 hm2 hl2 => ?_
  unfold k2_law_some
  trivial
  refine ⟨Fd2.map fun n : Nat => (n : Int), (iD_nat _).symm, fun ns' hp hw => ?_⟩
  obtain ⟨l, rfl, hl⟩ := nat_of_ints hp
  rw [show List.map D.int (List.map (fun n : Nat => (n : Int)) l) = nD l from iD_nat l]
  exact hQ l _ _ (rising_of hw (hl.nodup_iff.2 hd2)) (fun x hx => hm2 x (hl.mem_iff.1 hx)) (by rw [hl.length_eq]; simp at hl2; omega) (hj2.up (by omega))
/-! ### parts -/
abbrev dP (p : Part) : D := .tup [.tup (nD p.ns), .tup (iD p.ws)]
theorem psz_le {S ns : List Nat} (hS : ∀ s ∈ S, 0 < s) (h : Rising ns) (hl : ∀ n ∈ ns, n < S.length) : psz S ns ≤ prodN S := by
  have e : ns = (List.range S.length).filter fun n => decide (n ∈ ns) := by
    refine rising_ext h (List.Pairwise.filter _ List.pairwise_lt_range) fun n => ?_
    simp only [List.mem_filter, List.mem_range, decide_eq_true_eq]
    exact ⟨fun hn => ⟨hl n hn, hn⟩, fun hn => hn.2⟩
  have sub : ns.Sublist (List.range S.length) := by rw [e]; exact List.filter_sublist
  have e2 : (List.range S.length).map (sz S) = S := by
    refine List.ext_getElem? fun i => ?_
    rw [List.getElem?_map]
    by_cases hi : i < S.length
    · simp [List.getElem?_range hi, sz, List.getD_eq_getElem?_getD, List.getElem?_eq_getElem hi]
    · rw [List.getElem?_eq_none (by simpa using hi), List.getElem?_eq_none (by omega)]; rfl
  have sub2 : (ns.map (sz S)).Sublist S := by have := sub.map (sz S); rwa [e2] at this
  have gen : ∀ {a b : List Nat}, a.Sublist b → (∀ s ∈ b, 0 < s) → prodN a ≤ prodN b := by
    intro a b hs
    induction hs with
    | slnil => intro _; exact Nat.le_refl _
    | cons x h ih =>
      intro hb
      have h1 := ih fun s hs => hb s (List.mem_cons_of_mem _ hs)
      exact Nat.le_trans h1 (Nat.le_mul_of_pos_left _ (hb x List.mem_cons_self))
    | cons_cons x h ih =>
      intro hb
      exact Nat.mul_le_mul_left _ (ih fun s hs => hb s (List.mem_cons_of_mem _ hs))
  exact gen sub2 hS
theorem sz_mem {S : List Nat} {n : Nat} (h : n < S.length) : sz S n ∈ S := by
  unfold sz
  rw [List.getD_eq_getElem?_getD, List.getElem?_eq_getElem h]
  exact List.getElem_mem h
theorem sz_at {S : List Nat} {n : Nat} (h : n < S.length) : (nD S)[n]? = some (.int (sz S n : Nat)) := by
  unfold sz
  simp [List.getElem?_map, List.getD_eq_getElem?_getD, List.getElem?_eq_getElem h]
theorem rising_len {ns : List Nat} {m : Nat} (h : Rising ns) (hl : ∀ n ∈ ns, n < m) : ns.length ≤ m := by
  have e : ns = (List.range m).filter fun n => decide (n ∈ ns) := by
    refine rising_ext h (List.Pairwise.filter _ List.pairwise_lt_range) fun n => ?_
    simp only [List.mem_filter, List.mem_range, decide_eq_true_eq]
    exact ⟨fun hn => ⟨hl n hn, hn⟩, fun hn => hn.2⟩
  rw [e]
  have := List.length_filter_le (fun n => decide (n ∈ ns)) (List.range m)
  simpa using this
/-- drawn worths -/
def NumsOk (w : Wd) (p : Part) : Prop := ∀ x ∈ p.ws, NumOk w x
def sp_law_part : DSpec := fun args Q _ => ∃ (n : Nat) (a : Addr) (ds : List D) (w : Wd) (S : List Nat) (most : Nat), args = [.lst a ds, dW w, dSz S, dI (most : Nat)] ∧ JarOk n ds ∧ n + 10000 < 4294967296 ∧ SzOk S ∧ most ≤ 60 ∧
  ∀ (p : Part) ds' fin, p.Ok S → NumsOk w p → p.ns.length ≤ most → JarOk (n + 10000) ds' → Q (.ext (dP p)) (.lst a ds' :: fin)
def e1_law_part : DT :=
    (dOp fIx (dVar 2) (dVar 6))
def e2_law_part : DT :=
    (dCallJ sp_law_number 0 (dCons (dVar 1) dNil))
def t_law_part : DTS :=
    (sSeq (sSetE 4 (dCallJ sp_law_some 0 (dCons (dCB fLen (dCons (dVar 2) dNil)) (dCons (dVar 3) dNil))))
    (sSeq (sSetE 5 (dCall sp_law_times (dCons (dLc (dSeq (dVar 4)) (gSet 6) dYes e1_law_part [6]) dNil)))
    (sRet (dTup (dCons (dVar 4) (dCons (dCB fTuple (dCons (dLc (dRange1 (dCons (dVar 5) dNil)) (gSet 7) dYes e2_law_part [7]) dNil)) dNil))))))
theorem q1_law_part {s0 s1 s3 s4 s5 s7 : Sl} {S : List Nat} {Q : Sl → Env' → Prop} (ns : List Nat) : ∀ (acc : List Nat), (∀ n ∈ ns, n < S.length) → acc.length + ns.length ≤ 100 → (∀ b, Q (.lst b (nD (acc ++ ns.map (sz S)))) [s0, s1, dSz S, s3, s4, s5, .un, s7]) →
    lcD (gSet 6) dYes e1_law_part [6] (fun _ => True) Q (nD ns) (nD acc) [s0, s1, dSz S, s3, s4, s5, .un, s7] := by
  induction ns with
  | nil =>
    intro acc _ _ hQ
    exact ⟨True.intro, fun b => by simpa using hQ b⟩
  | cons x ns ih =>
    intro acc hl hn hQ
    rw [List.length_cons] at hn
    rw [nD_cons, lcD]
    unfold e1_law_part
    trivial
    refine ⟨by rw [nD_len]; exact Nat.lt_of_le_of_lt (by omega : acc.length ≤ 100) (by decide), ?_⟩
    refine ⟨_, atN (sz_at (hl x List.mem_cons_self)), ?_⟩
    trivial
    have := ih (acc ++ [sz S x]) (fun n hn => hl n (List.mem_cons_of_mem _ hn)) (by rw [List.length_append, List.length_singleton]; omega) (fun b => by simpa using hQ b)
    rw [nD_app] at this
    exact this
theorem q2_law_part {a : Addr} {w : Wd} {s2 s3 s4 s5 s6 : Sl} {Q : Sl → Env' → Prop} (items : List D) : ∀ (n : Nat) (ds : List D) (acc : List Int), JarOk n ds → n + 2 * items.length + 1 < 4294967296 → acc.length + items.length ≤ 5000 → (∀ x ∈ acc, NumOk w x) →
    (∀ b ds' ws, JarOk (n + 2 * items.length) ds' → (∀ x ∈ ws, NumOk w x) → ws.length = acc.length + items.length → Q (.lst b (iD ws)) [.lst a ds', dW w, s2, s3, s4, s5, s6, .un]) →
    lcD (gSet 7) dYes e2_law_part [7] (fun _ => True) Q items (iD acc) [.lst a ds, dW w, s2, s3, s4, s5, s6, .un] := by
  induction items with
  | nil =>
    intro n ds acc hj _ _ hx hQ
    exact ⟨True.intro, fun b => hQ b _ _ hj hx rfl⟩
  | cons x items ih =>
    intro n ds acc hj hn hl hx hQ
    rw [List.length_cons] at hn hl
    rw [lcD]
    unfold e2_law_part
    trivial
    refine ⟨by rw [iD_len]; exact Nat.lt_of_le_of_lt (by omega : acc.length ≤ 5000) (by decide), n, a, ds, w, rfl, hj, by omega, fun i ds' fin hi hj' => ?_⟩
    trivial
    have := ih (n + 2) ds' (acc ++ [i]) hj' (by omega) (by rw [List.length_append, List.length_singleton]; omega) (fun y hy => by
      rcases List.mem_append.1 hy with h | h
      · exact hx y h
      · rw [List.mem_singleton.1 h]; exact hi) (fun b ds2 ws hj2 h2 h3 => hQ b ds2 ws (by rw [List.length_cons]; exact hj2.up (by omega)) h2 (by rw [h3, List.length_append, List.length_singleton, List.length_cons]; omega))
    rw [iD_app] at this
    exact this
theorem m_law_part : Meets t_law_part 4 4 sp_law_part := by
  rintro args Qd Xd ⟨n, a, ds, w, S, most, rfl, hj, hn, hS, hm, hQ⟩
  show t_law_part _ _ [_, _, _, _, .un, .un, .un, .un]
  unfold t_law_part
  trivial
  have := hS.few
  refine ⟨n, a, ds, S.length, most, by rw [nD_len], hj, by omega, by omega, hm, fun ns ds' fin hr hl hlen hj' => ?_⟩
  trivial
  refine q1_law_part (S := S) ns [] hl (by have := rising_len hr hl; simp; omega) fun b => ?_
  trivial
  have hp := psz_le hS.pos hr hl
  have hp4 := hS.prod
  refine ⟨ns.map (sz S), .inl rfl, fun x hx => ?_, ?_, fun fin2 => ?_⟩
  · obtain ⟨y, hy, rfl⟩ := List.mem_map.1 hx
    exact hS.pos _ (sz_mem (hl y hy))
  · exact Nat.lt_of_le_of_lt hp (by omega)
  trivial
  have hlen2 : (rgD 0 ((prodN (ns.map (sz S)) : Nat) : Int)).length = psz S ns := by simp [rgD, psz]
  refine ⟨⟨by have : prodN (ns.map (sz S)) = psz S ns := rfl; omega, by have : prodN (ns.map (sz S)) = psz S ns := rfl; omega⟩, ?_⟩
  refine q2_law_part (w := w) _ (n + 64) ds' [] hj' (by rw [hlen2]; omega) (by rw [hlen2]; simp; omega) (by simp) fun b ds2 ws hj2 hx2 hl2 => ?_
  trivial
  rw [hlen2] at hj2 hl2
  exact ⟨by decide, hQ ⟨ns, ws⟩ _ _ ⟨hr, hl, by simpa using hl2⟩ hx2 hlen (hj2.up (by omega))⟩
end LS

/-! LV: fillings, places, looks -/
namespace LS
open PySem L2 HD PM
local macro_rules | `(tactic| trivial) => `(tactic| try simp -dsimp only [↓sSeq, ↓sIf, ↓sRet, ↓retD_ext, ↓retD_lst, ↓retD_al, ↓sSet, ↓sSetE, ↓sAsg, ↓sDrop, ↓sNext, ↓sFor, ↓sRetN, ↓sCont, ↓sBreak, ↓dTest, ↓dOp, ↓dVar_w, ↓dC, ↓dCons, ↓dNil, ↓dTup, ↓dLst, ↓frzDs, ↓frzD_ext, ↓frzD_lst, ↓frzD_al, ↓wd_ext, ↓wd_lst, ↓wd_al, ↓wds, ↓AtS_ext, ↓AtS_lst, ↓AtL, ↓fAdd, ↓fSub, ↓fMul, ↓fDiv, ↓fMod, ↓fPow, ↓fCmp, ↓fIn, ↓fEq_ii, ↓fEq_ss, ↓fEq_bb, ↓fEq_tt, ↓fEq_ll, ↓fNe_ii, ↓fNe_ss, ↓fNe_bb, ↓fNe_tt, ↓fNe_ll, ↓fIx_l, ↓fIx_t, ↓fIx_k, ↓fIx_f, ↓GetS_some, ↓NatS_some, ↓fSl, ↓fIsN, ↓fNotN, ↓D.knN, ↓dNot, ↓dAnd, ↓dOr, ↓dAndV_w, ↓dOrV_w, ↓dNotV, ↓dIf, ↓dNeg, ↓dChain_w, ↓BlS_bl, ↓dCall_w, ↓dCallJ_w, ↓anyAl, ↓frozs, ↓froz, ↓gSet, ↓gTupD, ↓gsCons, ↓gsNil, ↓dSeq, ↓seqD_tup, ↓seqD_elst, ↓seqD_lst, ↓seqD_al, ↓dRange1, ↓dRange2, ↓dZip, ↓dCB, ↓dLc, ↓dYes, ↓dNoPart, ↓dPart, ↓dSl, ↓fLen, ↓fMin, ↓fMax, ↓fSum, ↓fAll, ↓fAny, ↓fSorted, ↓fTuple, ↓fList, ↓dRg1, ↓dRg2, ↓dLstRg, ↓dTupRg, ↓dIndex, ↓fIdx, ↓dAppend_w, ↓dExtend_w, ↓extD_lst, ↓dPopAt_w, ↓popD_int, ↓dPop_w, ↓mutD_w, ↓sSetItem_w, ↓setD_int, ↓dSortSet, ↓dTable_w, ↓wipeE, finals1, finals2, finals3, finals4, finals5, finals6, fin1_ext, fin1_lst, List.getElem?_cons_zero, List.getElem?_cons_succ, List.getElem?_nil, List.set_cons_zero, List.set_cons_succ, List.cons_append, List.nil_append, List.append_nil, List.replicate_succ, List.replicate_zero, List.map_cons, List.map_nil, List.length_cons, List.length_nil, true_and, and_true, ite_true, ite_false, if_true, if_false, Bool.false_eq_true, decide_eq_true_eq, Sl.plain, D.isSq, eq_self_iff_true, forall_const, reduceIte, true_or, or_true, atI_0, atI_1, atI_2, atI_3, ixN_0, ixN_1, ixN_2, AtS_ext, AtS_lst, FzS_lst, FzS_ext, GetS_some, NatS_some, ↓fIsi1, ↓fIsi2, BoolS_some, HD.kb_non_tuple, HD.kb_non_list, HD.kb_non_bool, HD.kb_non_int, HD.kb_non_str, HD.kb_bl_tuple, HD.kb_bl_list, HD.kb_bl_bool, HD.kb_bl_int, HD.kb_bl_str, HD.kb_int_tuple, HD.kb_int_list, HD.kb_int_bool, HD.kb_int_int, HD.kb_int_str, HD.kb_str_tuple, HD.kb_str_list, HD.kb_str_bool, HD.kb_str_int, HD.kb_str_str, HD.kb_lst_tuple, HD.kb_lst_list, HD.kb_lst_bool, HD.kb_lst_int, HD.kb_lst_str, HD.kb_tup_tuple, HD.kb_tup_list, HD.kb_tup_bool, HD.kb_tup_int, HD.kb_tup_str, ↓sFz_w, ↓FzS_lst, ↓FzS_ext, ↓dSortSetL, ↓fAbs, ↓fInt, ↓fRepr, ↓fLtT, ↓sRaise, ↓sTryKeep, ↓dCallV_w, ↓dMeth, ↓fCount, ↓fSplit])
abbrev fD (fs : List (List Nat)) : List D := fs.map fun f => D.tup (nD f)
theorem fD_cons (f : List Nat) (fs : List (List Nat)) : fD (f :: fs) = D.tup (nD f) :: fD fs := rfl
theorem fD_app (a b : List (List Nat)) : fD (a ++ b) = fD a ++ fD b := List.map_append
theorem fD_len (a : List (List Nat)) : (fD a).length = a.length := List.length_map _
/-- a tuple or a list of these -/
def SqN (l : List Nat) (Z : D) : Prop := Z = .tup (nD l) ∨ Z = .lst (nD l)
def FArgs (S ns : List Nat) (args : List Sl) : Prop := ∃ Z W, args = [.ext Z, .ext W] ∧ SqN S Z ∧ SqN ns W
theorem fArgs_tt {S ns : List Nat} : FArgs S ns [dSz S, .ext (.tup (nD ns))] := ⟨_, _, rfl, .inl rfl, .inl rfl⟩
theorem fArgs_tl {S ns : List Nat} : FArgs S ns [dSz S, .ext (.lst (nD ns))] := ⟨_, _, rfl, .inl rfl, .inr rfl⟩
theorem fArgs_lt {S ns : List Nat} : FArgs S ns [.ext (.lst (nD S)), .ext (.tup (nD ns))] := ⟨_, _, rfl, .inr rfl, .inl rfl⟩
theorem ix_sq {S : List Nat} {Z : D} {n : Nat} {Q : Sl → Prop} (hZ : SqN S Z) (hn : n < S.length) (q : Q (dI (sz S n : Nat))) : fIx Z (.int (n : Nat)) Q := by
  rcases hZ with rfl | rfl
  · exact ⟨_, atN (sz_at hn), q⟩
  · exact ⟨_, atN (sz_at hn), q⟩
def sp_fillings_of : DSpec := fun args Q _ => ∃ (S ns : List Nat), FArgs S ns args ∧ (∀ n ∈ ns, n < S.length ∧ 0 < sz S n) ∧ psz S ns ≤ 4096 ∧ ns.length ≤ 100 ∧ ∀ fin, Q (.ext (.lst (fD (fills S ns)))) fin
def e1_fillings_of : DT :=
    (dOp fAdd (dVar 5) (dTup (dCons (dVar 6) dNil)))
def b2_fillings_of : DTS :=
    (sDrop (dExtend 4 (dLc (dRange1 (dCons (dOp fIx (dVar 0) (dVar 3)) dNil)) (gSet 6) dYes e1_fillings_of [6])))
def k3_fillings_of : DTS :=
    (sSetE 2 (dVar 4))
def b4_fillings_of : DTS :=
    (sSeq (sSet 4 (dLst dNil))
    (sSeq (sFor (dSeq (dVar 2)) (gSet 5) b2_fillings_of)
    k3_fillings_of))
def k5_fillings_of : DTS :=
    (sRet (dVar 2))
def t_fillings_of : DTS :=
    (sSeq (sSetE 2 (dLst (dCons (dTup dNil) dNil)))
    (sSeq (sFor (dSeq (dVar 1)) (gSet 3) b4_fillings_of)
    k5_fillings_of))
theorem q1_fillings_of {Q : Sl → Env' → Prop} {s0 s1 s2 s3 s4 : Sl} {f : List Nat} (hf : f.length ≤ 1000) (ws : List Nat) : ∀ (acc : List D), acc.length + ws.length ≤ 5000 → (∀ b, Q (.lst b (acc ++ fD (ws.map fun w => f ++ [w]))) [s0, s1, s2, s3, s4, .ext (.tup (nD f)), .un]) →
    lcD (gSet 6) dYes e1_fillings_of [6] (fun _ => True) Q (nD ws) acc [s0, s1, s2, s3, s4, .ext (.tup (nD f)), .un] := by
  induction ws with
  | nil => intro acc _ hQ; exact ⟨True.intro, fun b => by simpa using hQ b⟩
  | cons w ws ih =>
    intro acc hl hQ
    rw [List.length_cons] at hl
    rw [nD_cons, lcD]
    unfold e1_fillings_of
    trivial
    refine ⟨Nat.lt_of_le_of_lt (by omega : acc.length ≤ 5000) (by decide), by decide, by rw [nD_len]; exact Nat.le_trans (by omega : f.length + (0 + 1) ≤ 2000) (by decide), ?_⟩
    have := ih (acc ++ [.tup (nD (f ++ [w]))]) (by rw [List.length_append, List.length_singleton]; omega) (fun b => by simpa using hQ b)
    rw [nD_app] at this
    exact this
theorem q2_fillings_of {Ex : DX} {E : DEnds} {S : List Nat} {Z : D} {s1 s2 : Sl} {a4 : Addr} {n : Nat} (hZ : SqN S Z) (hn : n < S.length) (fs : List (List Nat)) : ∀ (A : List (List Nat)) (s5 : Sl), (∀ f ∈ fs, f.length ≤ 1000) → A.length + fs.length * sz S n ≤ 5000 → sz S n ≤ 5000 →
    (∀ u5, E.nx [.ext Z, s1, s2, dI (n : Nat), .lst a4 (fD (A ++ fs.flatMap fun f => (List.range (sz S n)).map fun w => f ++ [w])), u5, .un]) →
    forD (gSet 5) b2_fillings_of (fun _ => True) Ex E (fD fs) [.ext Z, s1, s2, dI (n : Nat), .lst a4 (fD A), s5, .un] := by
  induction fs with
  | nil => intro A s5 _ _ _ hE; exact ⟨True.intro, by simpa using hE s5⟩
  | cons f fs ih =>
    intro A s5 hf hl hz hE
    rw [List.length_cons, Nat.add_mul, Nat.one_mul] at hl
    rw [fD_cons, forD]
    unfold b2_fillings_of
    trivial
    refine ix_sq hZ hn ?_
    trivial
    refine ⟨⟨by omega, by omega⟩, ?_⟩
    rw [rgD_nat]
    refine q1_fillings_of (hf f List.mem_cons_self) _ [] (by simpa using hz) fun b => ?_
    trivial
    refine ⟨?_, ?_⟩
    · rw [fD_len, fD_len, List.length_map, List.length_range]
      exact Nat.le_trans (by omega : A.length + sz S n ≤ 10000) (by decide)
    have := ih (A ++ (List.range (sz S n)).map fun w => f ++ [w]) (.ext (.tup (nD f))) (fun g hg => hf g (List.mem_cons_of_mem _ hg)) (by rw [List.length_append, List.length_map, List.length_range]; omega) hz (fun u5 => by simpa using hE u5)
    rw [fD_app] at this
    exact this
theorem fills_step {S : List Nat} (fs : List (List Nat)) (n : Nat) (ns : List Nat) :
    ((fs.flatMap fun f => (List.range (sz S n)).map fun w => f ++ [w]).flatMap fun f => (fills S ns).map (f ++ ·)) = fs.flatMap fun f => (fills S (n :: ns)).map (f ++ ·) := by
  rw [List.flatMap_assoc]
  congr 1
  funext f
  rw [fills, List.map_flatMap, List.flatMap_map]
  congr 1
  funext w
  rw [List.map_map]
  exact List.map_congr_left fun g _ => by simp
theorem q3_fillings_of {Ex : DX} {E : DEnds} {S : List Nat} {Z : D} {s1 : Sl} (hZ : SqN S Z) (ns : List Nat) : ∀ (fs : List (List Nat)) (k : Nat) (s3 s4 s5 : Sl), (∀ n ∈ ns, n < S.length ∧ 0 < sz S n) → fs.length * psz S ns ≤ 4096 → (∀ f ∈ fs, f.length = k) → k + ns.length ≤ 1000 →
    (∀ u3 u4 u5, E.nx [.ext Z, s1, .ext (.lst (fD (fs.flatMap fun f => (fills S ns).map (f ++ ·)))), u3, u4, u5, .un]) →
    forD (gSet 3) b4_fillings_of (fun _ => True) Ex E (nD ns) [.ext Z, s1, .ext (.lst (fD fs)), s3, s4, s5, .un] := by
  induction ns with
  | nil =>
    intro fs k s3 s4 s5 _ _ _ _ hE
    have := hE s3 s4 s5
    simp only [fills, List.map_cons, List.map_nil, List.append_nil] at this
    have e : fs.flatMap (fun f => [f]) = fs := by simp
    rw [e] at this
    exact ⟨True.intro, this⟩
  | cons n ns ih =>
    intro fs k s3 s4 s5 hn hb hk hl hE
    rw [List.length_cons] at hl
    obtain ⟨hn1, hn2⟩ := hn n List.mem_cons_self
    have hpos : 0 < psz S ns := prodN_pos fun x hx => by
      obtain ⟨y, hy, rfl⟩ := List.mem_map.1 hx
      exact (hn y (List.mem_cons_of_mem _ hy)).2
    have e : psz S (n :: ns) = sz S n * psz S ns := rfl
    rw [e, ← Nat.mul_assoc] at hb
    have hb2 : fs.length * sz S n ≤ 4096 := Nat.le_trans (Nat.le_mul_of_pos_right _ hpos) hb
    rw [nD_cons, forD]
    unfold b4_fillings_of
    trivial
    refine ⟨by decide, fun a4 => ?_⟩
    by_cases hz : fs = []
    · subst hz
      refine ⟨True.intro, ?_⟩
      unfold k3_fillings_of
      trivial
      exact ih [] (k + 1) _ _ _ (fun m hm => hn m (List.mem_cons_of_mem _ hm)) (by simp) (by simp) (by omega) (fun u3 u4 u5 => by simpa using hE u3 u4 u5)
    have hfl : 0 < fs.length := List.length_pos_iff.2 hz
    have hs : sz S n ≤ 5000 := Nat.le_trans (Nat.le_mul_of_pos_left _ hfl) (by omega)
    refine q2_fillings_of (a4 := a4) hZ hn1 fs [] _ (fun f hf => by rw [hk f hf]; omega) (by simp; omega) hs fun u5 => ?_
    unfold k3_fillings_of
    trivial
    refine ih _ (k + 1) _ _ _ (fun m hm => hn m (List.mem_cons_of_mem _ hm)) ?_ ?_ (by omega) (fun u3 u4 u5 => by rw [fills_step]; exact hE u3 u4 u5)
    · have el : (fs.flatMap fun f => (List.range (sz S n)).map fun w => f ++ [w]).length = fs.length * sz S n := by
        clear ih hb hk hE hz hfl hb2
        induction fs with
        | nil => simp
        | cons f fs ihf => rw [List.flatMap_cons, List.length_append, ihf]; simp [Nat.add_mul, Nat.add_comm]
      rw [el]; exact hb
    · intro f hf
      obtain ⟨g, hg, hf2⟩ := List.mem_flatMap.1 hf
      obtain ⟨w, _, rfl⟩ := List.mem_map.1 hf2
      rw [List.length_append, hk g hg]; rfl
theorem m_fillings_of : Meets t_fillings_of 2 5 sp_fillings_of := by
  rintro args Qd Xd ⟨S, ns, ⟨Z, W, rfl, hZ, hW⟩, hn, hb, hl, hQ⟩
  show t_fillings_of _ _ [_, _, .un, .un, .un, .un, .un]
  unfold t_fillings_of
  have e : ([[]].flatMap fun f => (fills S ns).map (f ++ ·)) = fills S ns := by simp
  rcases hW with rfl | rfl
  all_goals
    trivial
    refine ⟨by decide, by decide, ?_⟩
    refine q3_fillings_of hZ ns [[]] 0 _ _ _ hn (by simpa using hb) (by simp) (by omega) fun u3 u4 u5 => ?_
    unfold k5_fillings_of
    trivial
    rw [e]
    exact hQ _
def sp_law_fillings : DSpec := sp_fillings_of
def e1_law_fillings : DT :=
    (dOp fAdd (dVar 5) (dTup (dCons (dVar 6) dNil)))
def b2_law_fillings : DTS :=
    (sDrop (dExtend 4 (dLc (dRange1 (dCons (dOp fIx (dVar 0) (dVar 3)) dNil)) (gSet 6) dYes e1_law_fillings [6])))
def k3_law_fillings : DTS :=
    (sSetE 2 (dVar 4))
def b4_law_fillings : DTS :=
    (sSeq (sSet 4 (dLst dNil))
    (sSeq (sFor (dSeq (dVar 2)) (gSet 5) b2_law_fillings)
    k3_law_fillings))
def k5_law_fillings : DTS :=
    (sRet (dVar 2))
def t_law_fillings : DTS :=
    (sSeq (sSetE 2 (dLst (dCons (dTup dNil) dNil)))
    (sSeq (sFor (dSeq (dVar 1)) (gSet 3) b4_law_fillings)
    k5_law_fillings))
theorem m_law_fillings : Meets t_law_fillings 2 5 sp_law_fillings := m_fillings_of
/-! ### places -/
def sp_place_of : DSpec := fun args Q _ => ∃ (S ns ws : List Nat) (W : D), args = [dSz S, .ext (.tup (nD ns)), .ext W] ∧ (W = .lst (nD ws) ∨ W = .tup (nD ws)) ∧ (∀ n ∈ ns, n < S.length ∧ 0 < sz S n) ∧ Good S ns ws ∧ psz S ns ≤ 4096 ∧ ∀ fin, Q (dI (pl S 0 ns ws : Nat)) fin
def b1_place_of : DTS :=
    (sSetE 3 (dOp fAdd (dOp fMul (dVar 3) (dOp fIx (dVar 0) (dVar 4))) (dVar 5)))
def k2_place_of : DTS :=
    (sRet (dVar 3))
def t_place_of : DTS :=
    (sSeq (sSetE 3 (dC (.int 0)))
    (sSeq (sFor (dZip (dVar 1) (dVar 2)) (gTupD 2 (gsCons (gSet 4) (gsCons (gSet 5) gsNil))) b1_place_of)
    k2_place_of))
theorem zip_pairs (ns ws : List Nat) : ((nD ns).zip (nD ws)).map (fun p => D.tk [p.1, p.2]) = (ns.zip ws).map fun p => D.tk [.int (p.1 : Nat), .int (p.2 : Nat)] := by
  induction ns generalizing ws with
  | nil => rfl
  | cons n ns ih =>
    cases ws with
    | nil => rfl
    | cons w ws => simp only [nD_cons, List.zip_cons_cons, List.map_cons, ih]
theorem q1_place_of {Ex : DX} {E : DEnds} {S : List Nat} {s1 s2 : Sl} {keep : Env' → Prop} (hk : ∀ e, keep e) (ns : List Nat) : ∀ (ws : List Nat) (acc : Nat) (s4 s5 : Sl), (∀ n ∈ ns, n < S.length ∧ 0 < sz S n) → Good S ns ws → (acc + 1) * psz S ns ≤ 4096 →
    (∀ u4 u5, E.nx [dSz S, s1, s2, dI (pl S acc ns ws : Nat), u4, u5]) →
    forD (gTupD 2 (gsCons (gSet 4) (gsCons (gSet 5) gsNil))) b1_place_of keep Ex E ((ns.zip ws).map fun p => D.tk [.int (p.1 : Nat), .int (p.2 : Nat)]) [dSz S, s1, s2, dI (acc : Nat), s4, s5] := by
  induction ns with
  | nil =>
    intro ws acc s4 s5 _ hg _ hE
    have e : ws = [] := hg
    subst e
    exact ⟨hk _, hE s4 s5⟩
  | cons n ns ih =>
    intro ws acc s4 s5 hn hg hb hE
    obtain ⟨w, r, rfl, hw, hr⟩ := hg
    obtain ⟨hn1, hn2⟩ := hn n List.mem_cons_self
    have hpos : 0 < psz S ns := prodN_pos fun x hx => by
      obtain ⟨y, hy, rfl⟩ := List.mem_map.1 hx
      exact (hn y (List.mem_cons_of_mem _ hy)).2
    have e : psz S (n :: ns) = sz S n * psz S ns := rfl
    rw [e, ← Nat.mul_assoc] at hb
    have hb2 : (acc + 1) * sz S n ≤ 4096 := Nat.le_trans (Nat.le_mul_of_pos_right _ hpos) hb
    have hb3 : acc + 1 ≤ 4096 := Nat.le_trans (Nat.le_mul_of_pos_right _ hn2) hb2
    have hb4 : sz S n ≤ 4096 := Nat.le_trans (Nat.le_mul_of_pos_left _ (by omega)) hb2
    have hb5 : (acc * sz S n + w + 1) ≤ (acc + 1) * sz S n := by rw [Nat.add_mul]; omega
    rw [List.zip_cons_cons, List.map_cons, forD]
    unfold b1_place_of
    trivial
    refine ⟨hk _, ⟨_, atN (sz_at hn1), ?_⟩⟩
    trivial
    refine ⟨cmul64 (by omega) (by omega) (by omega) (by omega), ?_⟩
    have := ih r (acc * sz S n + w) (dI (n : Nat)) (dI (w : Nat)) (fun m hm => hn m (List.mem_cons_of_mem _ hm)) hr (Nat.le_trans (Nat.mul_le_mul_right _ hb5) hb) hE
    rw [Int.natCast_add, Int.natCast_mul] at this
    exact this
theorem m_place_of : Meets t_place_of 3 3 sp_place_of := by
  rintro args Qd Xd ⟨S, ns, ws, W, rfl, hW, hn, hg, hb, hQ⟩
  show t_place_of _ _ [_, _, _, .un, .un, .un]
  unfold t_place_of
  rcases hW with rfl | rfl
  all_goals
    trivial
    rw [zip_pairs]
    refine q1_place_of (fun _ => by trivial) ns ws 0 _ _ hn hg (by simpa using hb) fun u4 u5 => ?_
    unfold k2_place_of
    trivial
    exact hQ _
def sp_law_look : DSpec := fun args Q _ => ∃ (S : List Nat) (p : Part) (g : List Nat), args = [dSz S, .ext (dP p), .ext (.lst (nD g))] ∧ SzOk S ∧ p.Ok S ∧ g.length = S.length ∧ (∀ n ∈ p.ns, g.getD n 0 < sz S n) ∧ ∀ fin, Q (dI (val S p fun n => g.getD n 0)) fin
def b1_law_look : DTS :=
    (sSetE 3 (dOp fAdd (dOp fMul (dVar 3) (dOp fIx (dVar 0) (dVar 4))) (dOp fIx (dVar 2) (dVar 4))))
def k2_law_look : DTS :=
    (sRet (dOp fIx (dOp fIx (dVar 1) (dC (.int 1))) (dVar 3)))
def t_law_look : DTS :=
    (sSeq (sSetE 3 (dC (.int 0)))
    (sSeq (sFor (dSeq (dOp fIx (dVar 1) (dC (.int 0)))) (gSet 4) b1_law_look)
    k2_law_look))
theorem getD_at {g : List Nat} {n : Nat} (h : n < g.length) : (nD g)[n]? = some (.int (g.getD n 0 : Nat)) := by
  simp [List.getElem?_map, List.getD_eq_getElem?_getD, List.getElem?_eq_getElem h]
theorem q1_law_look {Ex : DX} {E : DEnds} {S g : List Nat} {s1 : Sl} (hl : g.length = S.length) (ns : List Nat) : ∀ (acc : Nat) (s4 : Sl), (∀ n ∈ ns, n < S.length ∧ 0 < sz S n) → (∀ n ∈ ns, g.getD n 0 < sz S n) → (acc + 1) * psz S ns ≤ 4096 →
    (∀ u4, E.nx [dSz S, s1, .ext (.lst (nD g)), dI (pl S acc ns (ns.map fun n => g.getD n 0) : Nat), u4]) →
    forD (gSet 4) b1_law_look (fun _ => True) Ex E (nD ns) [dSz S, s1, .ext (.lst (nD g)), dI (acc : Nat), s4] := by
  induction ns with
  | nil => intro acc s4 _ _ _ hE; exact ⟨True.intro, hE s4⟩
  | cons n ns ih =>
    intro acc s4 hn hg hb hE
    obtain ⟨hn1, hn2⟩ := hn n List.mem_cons_self
    have hw := hg n List.mem_cons_self
    have hpos : 0 < psz S ns := prodN_pos fun x hx => by
      obtain ⟨y, hy, rfl⟩ := List.mem_map.1 hx
      exact (hn y (List.mem_cons_of_mem _ hy)).2
    have e : psz S (n :: ns) = sz S n * psz S ns := rfl
    rw [e, ← Nat.mul_assoc] at hb
    have hb2 : (acc + 1) * sz S n ≤ 4096 := Nat.le_trans (Nat.le_mul_of_pos_right _ hpos) hb
    have hb3 : acc + 1 ≤ 4096 := Nat.le_trans (Nat.le_mul_of_pos_right _ hn2) hb2
    have hb4 : sz S n ≤ 4096 := Nat.le_trans (Nat.le_mul_of_pos_left _ (by omega)) hb2
    have hb5 : (acc * sz S n + g.getD n 0 + 1) ≤ (acc + 1) * sz S n := by rw [Nat.add_mul]; omega
    rw [nD_cons, forD]
    unfold b1_law_look
    trivial
    refine ⟨_, atN (sz_at hn1), ?_⟩
    trivial
    refine ⟨cmul64 (by omega) (by omega) (by omega) (by omega), _, atN (getD_at (by omega)), ?_⟩
    trivial
    have := ih (acc * sz S n + g.getD n 0) (dI (n : Nat)) (fun m hm => hn m (List.mem_cons_of_mem _ hm)) (fun m hm => hg m (List.mem_cons_of_mem _ hm)) (Nat.le_trans (Nat.mul_le_mul_right _ hb5) hb) hE
    rw [Int.natCast_add, Int.natCast_mul] at this
    exact this
theorem Part.Ok.both {S : List Nat} {p : Part} (hS : SzOk S) (hp : p.Ok S) : ∀ n ∈ p.ns, n < S.length ∧ 0 < sz S n := fun n hn => ⟨hp.lt n hn, hS.pos _ (sz_mem (hp.lt n hn))⟩
theorem Part.Ok.psz {S : List Nat} {p : Part} (hS : SzOk S) (hp : p.Ok S) : PM.psz S p.ns ≤ 4096 := Nat.le_trans (psz_le hS.pos hp.rise hp.lt) hS.prod
theorem iD_at {l : List Int} {i : Nat} {x : Int} (h : l[i]? = some x) : (iD l)[i]? = some (.int x) := by
  rw [List.getElem?_map, h]; rfl
theorem m_law_look : Meets t_law_look 3 2 sp_law_look := by
  rintro args Qd Xd ⟨S, p, g, rfl, hS, hp, hl, hg, hQ⟩
  show t_law_look _ _ [_, _, _, .un, .un]
  unfold t_law_look
  trivial
  refine q1_law_look hl p.ns 0 _ (Part.Ok.both hS hp) hg (by have := Part.Ok.psz hS hp; simpa using this) fun u4 => ?_
  unfold k2_law_look
  trivial
  refine ⟨_, atN (iD_at (val_at hp hg)), ?_⟩
  trivial
  exact hQ _
def sp_worth_by : DSpec := fun args Q _ => ∃ (S : List Nat) (p : Part) (U f : List Nat), args = [dSz S, .ext (dP p), .ext (.tup (nD U)), .ext (.tup (nD f))] ∧ SzOk S ∧ p.Ok S ∧ U.Nodup ∧ (∀ n ∈ p.ns, n ∈ U) ∧ Good S U f ∧ ∀ fin, Q (dI (val S p (ats U f))) fin
def e1_worth_by : DT :=
    (dOp fIx (dVar 3) (dIndex (dVar 2) (dVar 6)))
def t_worth_by : DTS :=
    (sSeq (sAsg (dVar 1) (gTupD 2 (gsCons (gSet 4) (gsCons (gSet 5) gsNil))))
    (sRet (dOp fIx (dVar 5) (dCall sp_place_of (dCons (dVar 0) (dCons (dVar 4) (dCons (dLc (dSeq (dVar 4)) (gSet 6) dYes e1_worth_by [6]) dNil)))))))
theorem idx_at {U : List Nat} {n : Nat} (h : n ∈ U) : D.at? (.int (n : Nat)) (nD U) = some (U.idxOf n) := by
  unfold D.at?
  induction U with
  | nil => cases h
  | cons u U ih =>
    rw [nD_cons, List.findIdx?_cons]
    by_cases e : u = n
    · subst e
      have : eqV (D.int (u : Nat)).toV (D.int (u : Nat)).toV = true := by simp [D.toV, eqV]
      rw [if_pos this]
      simp
    · have h' : n ∈ U := by
        rcases List.mem_cons.1 h with h | h
        · exact absurd h.symm e
        · exact h
      have : ¬ eqV (D.int (u : Nat)).toV (D.int (n : Nat)).toV = true := by
        simp [D.toV, eqV]; omega
      rw [if_neg this, ih h', List.idxOf_cons]
      have b : (u == n) = false := by simpa using e
      simp [b]
theorem q1_worth_by {Q : Sl → Env' → Prop} {s0 s1 s4 s5 : Sl} {U f : List Nat} (hf : f.length = U.length) (ns : List Nat) : ∀ (acc : List Nat), (∀ n ∈ ns, n ∈ U) → acc.length + ns.length ≤ 1000 →
    (∀ b, Q (.lst b (nD (acc ++ ns.map (ats U f)))) [s0, s1, .ext (.tup (nD U)), .ext (.tup (nD f)), s4, s5, .un]) →
    lcD (gSet 6) dYes e1_worth_by [6] (fun _ => True) Q (nD ns) (nD acc) [s0, s1, .ext (.tup (nD U)), .ext (.tup (nD f)), s4, s5, .un] := by
  induction ns with
  | nil => intro acc _ _ hQ; exact ⟨True.intro, fun b => by simpa using hQ b⟩
  | cons n ns ih =>
    intro acc hn hl hQ
    rw [List.length_cons] at hl
    have hi := List.idxOf_lt_length_of_mem (hn n List.mem_cons_self)
    rw [nD_cons, lcD]
    unfold e1_worth_by
    trivial
    refine ⟨by rw [nD_len]; exact Nat.lt_of_le_of_lt (by omega : acc.length ≤ 1000) (by decide), rfl, by simp [D.flat], U.idxOf n, idx_at (hn n List.mem_cons_self), ?_⟩
    refine ⟨_, atN (getD_at (g := f) (by omega)), ?_⟩
    trivial
    have := ih (acc ++ [ats U f n]) (fun m hm => hn m (List.mem_cons_of_mem _ hm)) (by rw [List.length_append, List.length_singleton]; omega) (fun b => by simpa using hQ b)
    rw [nD_app] at this
    exact this
theorem m_worth_by : Meets t_worth_by 4 3 sp_worth_by := by
  rintro args Qd Xd ⟨S, p, U, f, rfl, hS, hp, hU, hs, hg, hQ⟩
  show t_worth_by _ _ [_, _, _, _, .un, .un, .un]
  unfold t_worth_by
  trivial
  have hfit : Fit S p.ns (ats U f) := fun n hn => ats_lt hg (hs n hn)
  have hfew := rising_len hp.rise hp.lt
  have := hS.few
  refine q1_worth_by hg.len p.ns [] hs (by simp; omega) fun b => ?_
  trivial
  refine ⟨S, p.ns, p.ns.map (ats U f), _, rfl, .inl rfl, Part.Ok.both hS hp, good_map hfit, Part.Ok.psz hS hp, fun fin => ?_⟩
  trivial
  refine ⟨_, atN (iD_at (val_at hp hfit)), ?_⟩
  trivial
  exact hQ _
end LS

/-! LW: joins -/
namespace LS
open PySem L2 HD PM
local macro_rules | `(tactic| trivial) => `(tactic| try simp -dsimp only [↓sSeq, ↓sIf, ↓sRet, ↓retD_ext, ↓retD_lst, ↓retD_al, ↓sSet, ↓sSetE, ↓sAsg, ↓sDrop, ↓sNext, ↓sFor, ↓sRetN, ↓sCont, ↓sBreak, ↓dTest, ↓dOp, ↓dVar_w, ↓dC, ↓dCons, ↓dNil, ↓dTup, ↓dLst, ↓frzDs, ↓frzD_ext, ↓frzD_lst, ↓frzD_al, ↓wd_ext, ↓wd_lst, ↓wd_al, ↓wds, ↓AtS_ext, ↓AtS_lst, ↓AtL, ↓fAdd, ↓fSub, ↓fMul, ↓fDiv, ↓fMod, ↓fPow, ↓fCmp, ↓fIn, ↓fEq_ii, ↓fEq_ss, ↓fEq_bb, ↓fEq_tt, ↓fEq_ll, ↓fNe_ii, ↓fNe_ss, ↓fNe_bb, ↓fNe_tt, ↓fNe_ll, ↓fIx_l, ↓fIx_t, ↓fIx_k, ↓fIx_f, ↓GetS_some, ↓NatS_some, ↓fSl, ↓fIsN, ↓fNotN, ↓D.knN, ↓dNot, ↓dAnd, ↓dOr, ↓dAndV_w, ↓dOrV_w, ↓dNotV, ↓dIf, ↓dNeg, ↓dChain_w, ↓BlS_bl, ↓dCall_w, ↓dCallJ_w, ↓anyAl, ↓frozs, ↓froz, ↓gSet, ↓gTupD, ↓gsCons, ↓gsNil, ↓dSeq, ↓seqD_tup, ↓seqD_elst, ↓seqD_lst, ↓seqD_al, ↓dRange1, ↓dRange2, ↓dZip, ↓dCB, ↓dLc, ↓dYes, ↓dNoPart, ↓dPart, ↓dSl, ↓fLen, ↓fMin, ↓fMax, ↓fSum, ↓fAll, ↓fAny, ↓fSorted, ↓fTuple, ↓fList, ↓dRg1, ↓dRg2, ↓dLstRg, ↓dTupRg, ↓dIndex, ↓fIdx, ↓dAppend_w, ↓dExtend_w, ↓extD_lst, ↓dPopAt_w, ↓popD_int, ↓dPop_w, ↓mutD_w, ↓sSetItem_w, ↓setD_int, ↓dSortSet, ↓dTable_w, ↓wipeE, finals1, finals2, finals3, finals4, finals5, finals6, fin1_ext, fin1_lst, List.getElem?_cons_zero, List.getElem?_cons_succ, List.getElem?_nil, List.set_cons_zero, List.set_cons_succ, List.cons_append, List.nil_append, List.append_nil, List.replicate_succ, List.replicate_zero, List.map_cons, List.map_nil, List.length_cons, List.length_nil, true_and, and_true, ite_true, ite_false, if_true, if_false, Bool.false_eq_true, decide_eq_true_eq, Sl.plain, D.isSq, eq_self_iff_true, forall_const, reduceIte, true_or, or_true, atI_0, atI_1, atI_2, atI_3, ixN_0, ixN_1, ixN_2, AtS_ext, AtS_lst, FzS_lst, FzS_ext, GetS_some, NatS_some, ↓fIsi1, ↓fIsi2, BoolS_some, HD.kb_non_tuple, HD.kb_non_list, HD.kb_non_bool, HD.kb_non_int, HD.kb_non_str, HD.kb_bl_tuple, HD.kb_bl_list, HD.kb_bl_bool, HD.kb_bl_int, HD.kb_bl_str, HD.kb_int_tuple, HD.kb_int_list, HD.kb_int_bool, HD.kb_int_int, HD.kb_int_str, HD.kb_str_tuple, HD.kb_str_list, HD.kb_str_bool, HD.kb_str_int, HD.kb_str_str, HD.kb_lst_tuple, HD.kb_lst_list, HD.kb_lst_bool, HD.kb_lst_int, HD.kb_lst_str, HD.kb_tup_tuple, HD.kb_tup_list, HD.kb_tup_bool, HD.kb_tup_int, HD.kb_tup_str, ↓sFz_w, ↓FzS_lst, ↓FzS_ext, ↓dSortSetL, ↓fAbs, ↓fInt, ↓fRepr, ↓fLtT, ↓sRaise, ↓sTryKeep, ↓dCallV_w, ↓dMeth, ↓fCount, ↓fSplit])
def MulOk (p q : Part) : Prop := ∀ x ∈ p.ws, ∀ y ∈ q.ws, CMulW x y
def sp_joined : DSpec := fun args Q _ => ∃ (w : Wd) (S : List Nat) (p q : Part), args = [dW w, dSz S, .ext (dP p), .ext (dP q)] ∧ SzOk S ∧ p.Ok S ∧ q.Ok S ∧ MulOk p q ∧ ∀ U fin, Uni U p.ns q.ns → Q (.ext (dP (joinP S (jn w) U p q))) fin
def b1_joined : DTS :=
    (sDrop (dAppend 5 (dCall sp_join (dCons (dVar 0) (dCons (dCall sp_worth_by (dCons (dVar 1) (dCons (dVar 2) (dCons (dVar 4) (dCons (dVar 6) dNil))))) (dCons (dCall sp_worth_by (dCons (dVar 1) (dCons (dVar 3) (dCons (dVar 4) (dCons (dVar 6) dNil))))) dNil))))))
def k2_joined : DTS :=
    (sRet (dTup (dCons (dVar 4) (dCons (dCB fTuple (dCons (dVar 5) dNil)) dNil))))
def t_joined : DTS :=
    (sSeq (sSetE 4 (dCB fTuple (dCons (dSortSet (dOp fAdd (dOp fIx (dVar 2) (dC (.int 0))) (dOp fIx (dVar 3) (dC (.int 0))))) dNil)))
    (sSeq (sSet 5 (dLst dNil))
    (sSeq (sFor (dSeq (dCall sp_fillings_of (dCons (dVar 1) (dCons (dVar 4) dNil)))) (gSet 6) b1_joined)
    k2_joined)))
theorem nat_of_set {l : List Nat} {ns : List Int} (hp : ns.Pairwise (· < ·)) (h : ∀ n : Int, n ∈ ns ↔ n ∈ l.map fun n : Nat => (n : Int)) : ∃ U : List Nat, ns = U.map (fun n : Nat => (n : Int)) ∧ Rising U ∧ ∀ n, n ∈ U ↔ n ∈ l := by
  have h1 : ∀ x ∈ ns, 0 ≤ x := by
    intro x hx
    obtain ⟨y, _, rfl⟩ := List.mem_map.1 ((h x).1 hx)
    omega
  have e : ns = (ns.map Int.toNat).map fun n : Nat => (n : Int) := by
    rw [List.map_map]
    conv => lhs; rw [← List.map_id ns]
    refine List.map_congr_left fun x hx => ?_
    have := h1 x hx
    simp; omega
  refine ⟨ns.map Int.toNat, e, ?_, fun n => ?_⟩
  · unfold Rising
    rw [e, List.pairwise_map] at hp
    exact hp.imp fun h => by omega
  · have : n ∈ ns.map Int.toNat ↔ (n : Int) ∈ ns := by
      rw [List.mem_map]
      constructor
      · rintro ⟨x, hx, rfl⟩
        have := h1 x hx
        rwa [Int.toNat_of_nonneg this]
      · intro hx
        exact ⟨_, hx, by simp⟩
    rw [this, h]
    constructor
    · intro hm
      obtain ⟨y, hy, e⟩ := List.mem_map.1 hm
      have : y = n := by omega
      exact this ▸ hy
    · exact fun hm => List.mem_map.2 ⟨n, hm, rfl⟩
theorem q1_joined {Ex : DX} {E : DEnds} {w : Wd} {S U : List Nat} {p q : Part} {a5 : Addr} (hS : SzOk S) (hp : p.Ok S) (hq : q.Ok S) (hm : MulOk p q) (hU : Uni U p.ns q.ns) (fs : List (List Nat)) : ∀ (acc : List Int) (s6 : Sl), (∀ f ∈ fs, Good S U f) → acc.length + fs.length ≤ 5000 →
    (∀ u6, E.nx [dW w, dSz S, .ext (dP p), .ext (dP q), .ext (.tup (nD U)), .lst a5 (iD (acc ++ fs.map fun f => jn w (val S p (ats U f)) (val S q (ats U f)))), u6]) →
    forD (gSet 6) b1_joined (fun _ => True) Ex E (fD fs) [dW w, dSz S, .ext (dP p), .ext (dP q), .ext (.tup (nD U)), .lst a5 (iD acc), s6] := by
  induction fs with
  | nil => intro acc s6 _ _ hE; exact ⟨True.intro, by simpa using hE s6⟩
  | cons f fs ih =>
    intro acc s6 hg hl hE
    rw [List.length_cons] at hl
    have hf := hg f List.mem_cons_self
    have hpU : ∀ n ∈ p.ns, n ∈ U := fun n hn => (hU.2 n).2 (.inl hn)
    have hqU : ∀ n ∈ q.ns, n ∈ U := fun n hn => (hU.2 n).2 (.inr hn)
    rw [fD_cons, forD]
    unfold b1_joined
    trivial
    refine ⟨S, p, U, f, rfl, hS, hp, hU.1.nd, hpU, hf, fun fin => ?_⟩
    trivial
    refine ⟨S, q, U, f, rfl, hS, hq, hU.1.nd, hqU, hf, fun fin => ?_⟩
    trivial
    refine ⟨w, _, _, rfl, hm _ (val_mem hp fun n hn => ats_lt hf (hpU n hn)) _ (val_mem hq fun n hn => ats_lt hf (hqU n hn)), fun fin => ?_⟩
    trivial
    refine ⟨by rw [iD_len]; exact Nat.lt_of_le_of_lt (by omega : acc.length ≤ 5000) (by decide), ?_⟩
    have := ih (acc ++ [jn w (val S p (ats U f)) (val S q (ats U f))]) (.ext (.tup (nD f))) (fun g h => hg g (List.mem_cons_of_mem _ h)) (by rw [List.length_append, List.length_singleton]; omega) (fun u6 => by simpa using hE u6)
    rw [iD_app] at this
    exact this
theorem Uni.both {S U : List Nat} {p q : Part} (hS : SzOk S) (hp : p.Ok S) (hq : q.Ok S) (hU : Uni U p.ns q.ns) : ∀ n ∈ U, n < S.length ∧ 0 < sz S n := fun n hn => by
  rcases (hU.2 n).1 hn with h | h
  · exact Part.Ok.both hS hp n h
  · exact Part.Ok.both hS hq n h
theorem Uni.psz {S U : List Nat} {p q : Part} (hS : SzOk S) (hp : p.Ok S) (hq : q.Ok S) (hU : Uni U p.ns q.ns) : PM.psz S U ≤ 4096 :=
  Nat.le_trans (psz_le hS.pos hU.1 fun n hn => (Uni.both hS hp hq hU n hn).1) hS.prod
theorem Uni.len {S U : List Nat} {p q : Part} (hS : SzOk S) (hp : p.Ok S) (hq : q.Ok S) (hU : Uni U p.ns q.ns) : U.length ≤ 24 :=
  Nat.le_trans (rising_len hU.1 fun n hn => (Uni.both hS hp hq hU n hn).1) hS.few
theorem m_joined : Meets t_joined 4 3 sp_joined := by
  rintro args Qd Xd ⟨w, S, p, q, rfl, hS, hp, hq, hm, hQ⟩
  show t_joined _ _ [_, _, _, _, .un, .un, .un]
  unfold t_joined
  trivial
  have h1 := rising_len hp.rise hp.lt
  have h2 := rising_len hq.rise hq.lt
  have h3 := hS.few
  refine ⟨by rw [nD_len, nD_len]; exact Nat.le_trans (by omega : p.ns.length + q.ns.length ≤ 100) (by decide), (p.ns ++ q.ns).map (fun n : Nat => (n : Int)), by rw [← nD_app]; exact (iD_nat _).symm, by rw [List.length_map, List.length_append]; omega, fun ns' hs hmem => ?_⟩
  obtain ⟨U, rfl, hr, hu⟩ := nat_of_set hs hmem
  rw [show List.map D.int (List.map (fun n : Nat => (n : Int)) U) = nD U from iD_nat U]
  have hU : Uni U p.ns q.ns := ⟨hr, fun n => (hu n).trans List.mem_append⟩
  refine ⟨by decide, fun a5 => ⟨S, U, fArgs_tt, Uni.both hS hp hq hU, Uni.psz hS hp hq hU, by have := Uni.len hS hp hq hU; omega, fun fin => ?_⟩⟩
  trivial
  refine q1_joined hS hp hq hm hU (fills S U) [] _ (fun f hf => mem_fills.1 hf) (by rw [len_fills]; have := Uni.psz hS hp hq hU; simp; omega) fun u6 => ?_
  unfold k2_joined
  trivial
  exact ⟨by decide, hQ U _ hU⟩
end LS

/-! LX: what is due by law k10 -/
namespace LS
open PySem L2 HD PM
local macro_rules | `(tactic| trivial) => `(tactic| try simp -dsimp only [↓sSeq, ↓sIf, ↓sRet, ↓retD_ext, ↓retD_lst, ↓retD_al, ↓sSet, ↓sSetE, ↓sAsg, ↓sDrop, ↓sNext, ↓sFor, ↓sRetN, ↓sCont, ↓sBreak, ↓dTest, ↓dOp, ↓dVar_w, ↓dC, ↓dCons, ↓dNil, ↓dTup, ↓dLst, ↓frzDs, ↓frzD_ext, ↓frzD_lst, ↓frzD_al, ↓wd_ext, ↓wd_lst, ↓wd_al, ↓wds, ↓AtS_ext, ↓AtS_lst, ↓AtL, ↓fAdd, ↓fSub, ↓fMul, ↓fDiv, ↓fMod, ↓fPow, ↓fCmp, ↓fIn, ↓fEq_ii, ↓fEq_ss, ↓fEq_bb, ↓fEq_tt, ↓fEq_ll, ↓fNe_ii, ↓fNe_ss, ↓fNe_bb, ↓fNe_tt, ↓fNe_ll, ↓fIx_l, ↓fIx_t, ↓fIx_k, ↓fIx_f, ↓GetS_some, ↓NatS_some, ↓fSl, ↓fIsN, ↓fNotN, ↓D.knN, ↓dNot, ↓dAnd, ↓dOr, ↓dAndV_w, ↓dOrV_w, ↓dNotV, ↓dIf, ↓dNeg, ↓dChain_w, ↓BlS_bl, ↓dCall_w, ↓dCallJ_w, ↓anyAl, ↓frozs, ↓froz, ↓gSet, ↓gTupD, ↓gsCons, ↓gsNil, ↓dSeq, ↓seqD_tup, ↓seqD_elst, ↓seqD_lst, ↓seqD_al, ↓dRange1, ↓dRange2, ↓dZip, ↓dCB, ↓dLc, ↓dYes, ↓dNoPart, ↓dPart, ↓dSl, ↓fLen, ↓fMin, ↓fMax, ↓fSum, ↓fAll, ↓fAny, ↓fSorted, ↓fTuple, ↓fList, ↓dRg1, ↓dRg2, ↓dLstRg, ↓dTupRg, ↓dIndex, ↓fIdx, ↓dAppend_w, ↓dExtend_w, ↓extD_lst, ↓dPopAt_w, ↓popD_int, ↓dPop_w, ↓mutD_w, ↓sSetItem_w, ↓setD_int, ↓dSortSet, ↓dTable_w, ↓wipeE, finals1, finals2, finals3, finals4, finals5, finals6, fin1_ext, fin1_lst, List.getElem?_cons_zero, List.getElem?_cons_succ, List.getElem?_nil, List.set_cons_zero, List.set_cons_succ, List.cons_append, List.nil_append, List.append_nil, List.replicate_succ, List.replicate_zero, List.map_cons, List.map_nil, List.length_cons, List.length_nil, true_and, and_true, ite_true, ite_false, if_true, if_false, Bool.false_eq_true, decide_eq_true_eq, Sl.plain, D.isSq, eq_self_iff_true, forall_const, reduceIte, true_or, or_true, atI_0, atI_1, atI_2, atI_3, ixN_0, ixN_1, ixN_2, AtS_ext, AtS_lst, FzS_lst, FzS_ext, GetS_some, NatS_some, ↓fIsi1, ↓fIsi2, BoolS_some, HD.kb_non_tuple, HD.kb_non_list, HD.kb_non_bool, HD.kb_non_int, HD.kb_non_str, HD.kb_bl_tuple, HD.kb_bl_list, HD.kb_bl_bool, HD.kb_bl_int, HD.kb_bl_str, HD.kb_int_tuple, HD.kb_int_list, HD.kb_int_bool, HD.kb_int_int, HD.kb_int_str, HD.kb_str_tuple, HD.kb_str_list, HD.kb_str_bool, HD.kb_str_int, HD.kb_str_str, HD.kb_lst_tuple, HD.kb_lst_list, HD.kb_lst_bool, HD.kb_lst_int, HD.kb_lst_str, HD.kb_tup_tuple, HD.kb_tup_list, HD.kb_tup_bool, HD.kb_tup_int, HD.kb_tup_str, ↓sFz_w, ↓FzS_lst, ↓FzS_ext, ↓dSortSetL, ↓fAbs, ↓fInt, ↓fRepr, ↓fLtT, ↓sRaise, ↓sTryKeep, ↓dCallV_w, ↓dMeth, ↓fCount, ↓fSplit])
def sp_law_due : DSpec := sp_joined
def e1_law_due : DT :=
    (dVar 5)
def b2_law_due : DTS :=
    (sSetItem 8 (dVar 5) (dVar 9))
def k3_law_due : DTS :=
    (sDrop (dAppend 6 (dCall sp_law_join (dCons (dVar 0) (dCons (dCall sp_law_look (dCons (dVar 1) (dCons (dVar 2) (dCons (dVar 8) dNil)))) (dCons (dCall sp_law_look (dCons (dVar 1) (dCons (dVar 3) (dCons (dVar 8) dNil)))) dNil))))))
def b4_law_due : DTS :=
    (sSeq (sSet 8 (dOp fMul (dLst (dCons (dC (.int 0)) dNil)) (dCB fLen (dCons (dVar 1) dNil))))
    (sSeq (sFor (dZip (dVar 4) (dVar 7)) (gTupD 2 (gsCons (gSet 5) (gsCons (gSet 9) gsNil))) b2_law_due)
    k3_law_due))
def k5_law_due : DTS :=
    (sRet (dTup (dCons (dVar 4) (dCons (dCB fTuple (dCons (dVar 6) dNil)) dNil))))
def t_law_due : DTS :=
    (sSeq (sSetE 4 (dCB fTuple (dCons (dLc (dRange1 (dCons (dCB fLen (dCons (dVar 1) dNil)) dNil)) (gSet 5) (dTest (dOp (fIn false) (dVar 5) (dOp fAdd (dOp fIx (dVar 2) (dC (.int 0))) (dOp fIx (dVar 3) (dC (.int 0)))))) e1_law_due [5]) dNil)))
    (sSeq (sSet 6 (dLst dNil))
    (sSeq (sFor (dSeq (dCall sp_law_fillings (dCons (dVar 1) (dCons (dVar 4) dNil)))) (gSet 7) b4_law_due)
    k5_law_due)))
theorem isIn_nat (n : Nat) (l : List Nat) : (D.int (n : Nat)).isIn (nD l) = decide (n ∈ l) := by
  unfold D.isIn
  induction l with
  | nil => rfl
  | cons x l ih =>
    have e : inV (D.int (n : Nat)).toV ((nD (x :: l)).map D.toV) = (eqV (V.int (x : Nat)) (V.int (n : Nat)) || inV (D.int (n : Nat)).toV ((nD l).map D.toV)) := rfl
    rw [e, ih]
    have e2 : eqV (V.int (x : Nat)) (V.int (n : Nat)) = decide (n = x) := by
      simp only [eqV]
      by_cases h : n = x
      · subst h; simp
      · simp [h]; omega
    rw [e2]
    simp
theorem flat_nD (l : List Nat) : (nD l).all D.flat = true := by simp [D.flat]
theorem q1_law_due {Q : Sl → Env' → Prop} {s0 s1 s4 s6 s7 s8 s9 : Sl} {p q : Part} (hpq : p.ns.length + q.ns.length ≤ 1000) (xs : List Nat) : ∀ (acc : List Nat), acc.length + xs.length ≤ 1000 →
    (∀ b, Q (.lst b (nD (acc ++ xs.filter fun n => decide (n ∈ p.ns ++ q.ns)))) [s0, s1, .ext (dP p), .ext (dP q), s4, .un, s6, s7, s8, s9]) →
    lcD (gSet 5) (dTest (dOp (fIn false) (dVar 5) (dOp fAdd (dOp fIx (dVar 2) (dC (.int 0))) (dOp fIx (dVar 3) (dC (.int 0)))))) e1_law_due [5] (fun _ => True) Q (nD xs) (nD acc) [s0, s1, .ext (dP p), .ext (dP q), s4, .un, s6, s7, s8, s9] := by
  induction xs with
  | nil => intro acc _ hQ; exact ⟨True.intro, fun b => by simpa using hQ b⟩
  | cons x xs ih =>
    intro acc hl hQ
    rw [List.length_cons] at hl
    rw [nD_cons, lcD]
    unfold e1_law_due
    trivial
    rw [← nD_app, isIn_nat]
    refine ⟨by rw [nD_len]; exact Nat.lt_of_le_of_lt (by omega : acc.length ≤ 1000) (by decide), by rw [nD_len, nD_len]; exact Nat.le_trans hpq (by decide), rfl, flat_nD _, ?_⟩
    by_cases hx : x ∈ p.ns ++ q.ns
    · rw [if_pos (by simpa using hx)]
      have := ih (acc ++ [x]) (by rw [List.length_append, List.length_singleton]; omega) (fun b => by
        have := hQ b
        rw [List.filter_cons_of_pos (by simpa using hx)] at this
        simpa using this)
      rw [nD_app] at this
      exact this
    · rw [if_neg (by simpa using hx)]
      exact ih acc (by omega) (fun b => by
        have := hQ b
        rw [List.filter_cons_of_neg (by simpa using hx)] at this
        simpa using this)
def putAll : List Nat → List Nat → List Nat → List Nat
  | g, n :: ns, w :: ws => putAll (g.set n w) ns ws
  | g, _, _ => g
theorem putAll_len (ns : List Nat) : ∀ (g ws : List Nat), (putAll g ns ws).length = g.length := by
  induction ns with
  | nil => intro g ws; rfl
  | cons n ns ih =>
    intro g ws
    cases ws with
    | nil => rfl
    | cons w ws => rw [putAll, ih, List.length_set]
theorem putAll_out (ns : List Nat) : ∀ (g ws : List Nat) (m : Nat), m ∉ ns → (putAll g ns ws).getD m 0 = g.getD m 0 := by
  induction ns with
  | nil => intro g ws m _; rfl
  | cons n ns ih =>
    intro g ws m hm
    cases ws with
    | nil => rfl
    | cons w ws =>
      rw [putAll, ih _ _ _ fun h => hm (List.mem_cons_of_mem _ h)]
      have : n ≠ m := fun e => hm (e ▸ List.mem_cons_self)
      simp [List.getD_eq_getElem?_getD, List.getElem?_set_ne this]
theorem putAll_at (ns : List Nat) : ∀ (g ws : List Nat) (m : Nat), ns.Nodup → ws.length = ns.length → (∀ n ∈ ns, n < g.length) → m ∈ ns → (putAll g ns ws).getD m 0 = ats ns ws m := by
  induction ns with
  | nil => intro g ws m _ _ _ h; cases h
  | cons n ns ih =>
    intro g ws m nd hl hn hm
    cases ws with
    | nil => simp at hl
    | cons w ws =>
      obtain ⟨h1, h2⟩ := List.nodup_cons.1 nd
      rw [putAll]
      by_cases e : m = n
      · subst e
        rw [putAll_out _ _ _ _ h1]
        have := hn m List.mem_cons_self
        simp [ats, List.getD_eq_getElem?_getD, List.getElem?_set_self this]
      · have hm' : m ∈ ns := by
          rcases List.mem_cons.1 hm with h | h
          · exact absurd h e
          · exact h
        rw [ih _ _ _ h2 (by simpa using hl) (fun k hk => by rw [List.length_set]; exact hn k (List.mem_cons_of_mem _ hk)) hm']
        have b : (n == m) = false := by simpa using fun h : n = m => e h.symm
        simp [ats, List.idxOf_cons, b]
theorem q2_law_due {Ex : DX} {E : DEnds} {s0 s1 s2 s3 s4 s6 s7 : Sl} {a8 : Addr} {keep : Env' → Prop} (hk : ∀ e, keep e) (ns : List Nat) : ∀ (ws g : List Nat) (s5 s9 : Sl), (∀ n ∈ ns, n < g.length) →
    (∀ u5 u9, E.nx [s0, s1, s2, s3, s4, u5, s6, s7, .lst a8 (nD (putAll g ns ws)), u9]) →
    forD (gTupD 2 (gsCons (gSet 5) (gsCons (gSet 9) gsNil))) b2_law_due keep Ex E ((ns.zip ws).map fun p => D.tk [.int (p.1 : Nat), .int (p.2 : Nat)]) [s0, s1, s2, s3, s4, s5, s6, s7, .lst a8 (nD g), s9] := by
  induction ns with
  | nil => intro ws g s5 s9 _ hE; exact ⟨hk _, hE s5 s9⟩
  | cons n ns ih =>
    intro ws g s5 s9 hn hE
    cases ws with
    | nil => exact ⟨hk _, hE s5 s9⟩
    | cons w ws =>
      have hn0 := hn n List.mem_cons_self
      rw [List.zip_cons_cons, List.map_cons, forD]
      unfold b2_law_due
      trivial
      refine ⟨hk _, n, ixN_nat (by rw [nD_len]; exact hn0), ?_⟩
      trivial
      have := ih ws (g.set n w) (dI (n : Nat)) (dI (w : Nat)) (fun m hm => by rw [List.length_set]; exact hn m (List.mem_cons_of_mem _ hm)) hE
      have e : nD (g.set n w) = (nD g).set n (.int (w : Nat)) := List.map_set
      rw [e] at this
      exact this
theorem zeros (k : Nat) : (List.replicate k [D.int 0]).flatten = nD (List.replicate k 0) := by
  induction k with
  | zero => rfl
  | succ k ih => rw [List.replicate_succ, List.flatten_cons, ih, List.replicate_succ]; rfl
theorem q3_law_due {Ex : DX} {E : DEnds} {w : Wd} {S U : List Nat} {p q : Part} {a6 : Addr} (hS : SzOk S) (hp : p.Ok S) (hq : q.Ok S) (hm : MulOk p q) (hU : Uni U p.ns q.ns) (fs : List (List Nat)) : ∀ (acc : List Int) (s5 s7 s8 s9 : Sl), (∀ f ∈ fs, Good S U f) → acc.length + fs.length ≤ 5000 →
    (∀ u5 u7 u8 u9, E.nx [dW w, dSz S, .ext (dP p), .ext (dP q), .ext (.tup (nD U)), u5, .lst a6 (iD (acc ++ fs.map fun f => jn w (val S p (ats U f)) (val S q (ats U f)))), u7, u8, u9]) →
    forD (gSet 7) b4_law_due (fun _ => True) Ex E (fD fs) [dW w, dSz S, .ext (dP p), .ext (dP q), .ext (.tup (nD U)), s5, .lst a6 (iD acc), s7, s8, s9] := by
  induction fs with
  | nil => intro acc s5 s7 s8 s9 _ _ hE; exact ⟨True.intro, by simpa using hE s5 s7 s8 s9⟩
  | cons f fs ih =>
    intro acc s5 s7 s8 s9 hg hl hE
    rw [List.length_cons] at hl
    have hf := hg f List.mem_cons_self
    have hpU : ∀ n ∈ p.ns, n ∈ U := fun n hn => (hU.2 n).2 (.inl hn)
    have hqU : ∀ n ∈ q.ns, n ∈ U := fun n hn => (hU.2 n).2 (.inr hn)
    have hUl : ∀ n ∈ U, n < S.length := fun n hn => (Uni.both hS hp hq hU n hn).1
    have h24 := hS.few
    rw [fD_cons, forD]
    unfold b4_law_due
    trivial
    rw [nD_len]
    refine ⟨by decide, by omega, by omega, by have : S.length ≤ sizeLine := Nat.le_trans h24 (by decide); simpa using this, fun a8 => ?_⟩
    rw [zip_pairs, show ((S.length : Nat) : Int).toNat = S.length from rfl, zeros]
    have hl0 : (List.replicate S.length 0).length = S.length := List.length_replicate
    refine q2_law_due (fun _ => True.intro) U f (List.replicate S.length 0) _ _ (fun n hn => by rw [hl0]; exact hUl n hn) fun u5 u9 => ?_
    have hat : ∀ n ∈ U, (putAll (List.replicate S.length 0) U f).getD n 0 = ats U f n := fun n hn => putAll_at U _ f n hU.1.nd hf.len (fun k hk => by rw [hl0]; exact hUl k hk) hn
    have hlen : (putAll (List.replicate S.length 0) U f).length = S.length := by rw [putAll_len, hl0]
    generalize putAll (List.replicate S.length 0) U f = g at hat hlen
    have vp : val S p (fun n => g.getD n 0) = val S p (ats U f) := val_congr fun n hn => hat n (hpU n hn)
    have vq : val S q (fun n => g.getD n 0) = val S q (ats U f) := val_congr fun n hn => hat n (hqU n hn)
    unfold k3_law_due
    trivial
    refine ⟨S, p, g, rfl, hS, hp, hlen, fun n hn => by rw [hat n (hpU n hn)]; exact ats_lt hf (hpU n hn), fun fin => ?_⟩
    trivial
    refine ⟨.inr rfl, S, q, g, rfl, hS, hq, hlen, fun n hn => by rw [hat n (hqU n hn)]; exact ats_lt hf (hqU n hn), fun fin => ?_⟩
    trivial
    rw [vp, vq]
    refine ⟨.inr rfl, w, _, _, rfl, hm _ (val_mem hp fun n hn => ats_lt hf (hpU n hn)) _ (val_mem hq fun n hn => ats_lt hf (hqU n hn)), fun fin => ?_⟩
    trivial
    refine ⟨by rw [iD_len]; exact Nat.lt_of_le_of_lt (by omega : acc.length ≤ 5000) (by decide), ?_⟩
    have := ih (acc ++ [jn w (val S p (ats U f)) (val S q (ats U f))]) u5 (.ext (.tup (nD f))) (.lst a8 (nD g)) u9 (fun g h => hg g (List.mem_cons_of_mem _ h)) (by rw [List.length_append, List.length_singleton]; omega) (fun u5 u7 u8 u9 => by simpa using hE u5 u7 u8 u9)
    rw [iD_app] at this
    exact this
theorem m_law_due : Meets t_law_due 4 6 sp_law_due := by
  rintro args Qd Xd ⟨w, S, p, q, rfl, hS, hp, hq, hm, hQ⟩
  show t_law_due _ _ [_, _, _, _, .un, .un, .un, .un, .un, .un]
  unfold t_law_due
  trivial
  have h1 := rising_len hp.rise hp.lt
  have h2 := rising_len hq.rise hq.lt
  have h3 := hS.few
  rw [nD_len]
  refine ⟨⟨by omega, by omega⟩, ?_⟩
  rw [rgD_nat]
  refine q1_law_due (by omega) (List.range S.length) [] (by simp; omega) fun b => ?_
  trivial
  have hU : Uni ((List.range S.length).filter fun n => decide (n ∈ p.ns ++ q.ns)) p.ns q.ns := by
    refine ⟨List.Pairwise.filter _ List.pairwise_lt_range, fun n => ?_⟩
    rw [List.mem_filter, List.mem_range, decide_eq_true_eq, List.mem_append]
    refine ⟨fun h => h.2, fun h => ⟨?_, h⟩⟩
    rcases h with h | h
    · exact hp.lt n h
    · exact hq.lt n h
  generalize ((List.range S.length).filter fun n => decide (n ∈ p.ns ++ q.ns)) = U at hU
  refine ⟨by decide, fun a6 => ⟨S, U, fArgs_tt, Uni.both hS hp hq hU, Uni.psz hS hp hq hU, by have := Uni.len hS hp hq hU; omega, fun fin => ?_⟩⟩
  trivial
  refine q3_law_due hS hp hq hm hU (fills S U) [] _ _ _ _ (fun f hf => mem_fills.1 hf) (by rw [len_fills]; have := Uni.psz hS hp hq hU; simp; omega) fun u5 u7 u8 u9 => ?_
  unfold k5_law_due
  trivial
  exact ⟨by decide, hQ U _ hU⟩
end LS

/-! LY: alike -/
namespace LS
open PySem L2 HD PM
local macro_rules | `(tactic| trivial) => `(tactic| try simp -dsimp only [↓sSeq, ↓sIf, ↓sRet, ↓retD_ext, ↓retD_lst, ↓retD_al, ↓sSet, ↓sSetE, ↓sAsg, ↓sDrop, ↓sNext, ↓sFor, ↓sRetN, ↓sCont, ↓sBreak, ↓dTest, ↓dOp, ↓dVar_w, ↓dC, ↓dCons, ↓dNil, ↓dTup, ↓dLst, ↓frzDs, ↓frzD_ext, ↓frzD_lst, ↓frzD_al, ↓wd_ext, ↓wd_lst, ↓wd_al, ↓wds, ↓AtS_ext, ↓AtS_lst, ↓AtL, ↓fAdd, ↓fSub, ↓fMul, ↓fDiv, ↓fMod, ↓fPow, ↓fCmp, ↓fIn, ↓fEq_ii, ↓fEq_ss, ↓fEq_bb, ↓fEq_tt, ↓fEq_ll, ↓fNe_ii, ↓fNe_ss, ↓fNe_bb, ↓fNe_tt, ↓fNe_ll, ↓fIx_l, ↓fIx_t, ↓fIx_k, ↓fIx_f, ↓GetS_some, ↓NatS_some, ↓fSl, ↓fIsN, ↓fNotN, ↓D.knN, ↓dNot, ↓dAnd, ↓dOr, ↓dAndV_w, ↓dOrV_w, ↓dNotV, ↓dIf, ↓dNeg, ↓dChain_w, ↓BlS_bl, ↓dCall_w, ↓dCallJ_w, ↓anyAl, ↓frozs, ↓froz, ↓gSet, ↓gTupD, ↓gsCons, ↓gsNil, ↓dSeq, ↓seqD_tup, ↓seqD_elst, ↓seqD_lst, ↓seqD_al, ↓dRange1, ↓dRange2, ↓dZip, ↓dCB, ↓dLc, ↓dYes, ↓dNoPart, ↓dPart, ↓dSl, ↓fLen, ↓fMin, ↓fMax, ↓fSum, ↓fAll, ↓fAny, ↓fSorted, ↓fTuple, ↓fList, ↓dRg1, ↓dRg2, ↓dLstRg, ↓dTupRg, ↓dIndex, ↓fIdx, ↓dAppend_w, ↓dExtend_w, ↓extD_lst, ↓dPopAt_w, ↓popD_int, ↓dPop_w, ↓mutD_w, ↓sSetItem_w, ↓setD_int, ↓dSortSet, ↓dTable_w, ↓wipeE, finals1, finals2, finals3, finals4, finals5, finals6, fin1_ext, fin1_lst, List.getElem?_cons_zero, List.getElem?_cons_succ, List.getElem?_nil, List.set_cons_zero, List.set_cons_succ, List.cons_append, List.nil_append, List.append_nil, List.replicate_succ, List.replicate_zero, List.map_cons, List.map_nil, List.length_cons, List.length_nil, true_and, and_true, ite_true, ite_false, if_true, if_false, Bool.false_eq_true, decide_eq_true_eq, Sl.plain, D.isSq, eq_self_iff_true, forall_const, reduceIte, true_or, or_true, atI_0, atI_1, atI_2, atI_3, ixN_0, ixN_1, ixN_2, AtS_ext, AtS_lst, FzS_lst, FzS_ext, GetS_some, NatS_some, ↓fIsi1, ↓fIsi2, BoolS_some, HD.kb_non_tuple, HD.kb_non_list, HD.kb_non_bool, HD.kb_non_int, HD.kb_non_str, HD.kb_bl_tuple, HD.kb_bl_list, HD.kb_bl_bool, HD.kb_bl_int, HD.kb_bl_str, HD.kb_int_tuple, HD.kb_int_list, HD.kb_int_bool, HD.kb_int_int, HD.kb_int_str, HD.kb_str_tuple, HD.kb_str_list, HD.kb_str_bool, HD.kb_str_int, HD.kb_str_str, HD.kb_lst_tuple, HD.kb_lst_list, HD.kb_lst_bool, HD.kb_lst_int, HD.kb_lst_str, HD.kb_tup_tuple, HD.kb_tup_list, HD.kb_tup_bool, HD.kb_tup_int, HD.kb_tup_str, ↓sFz_w, ↓FzS_lst, ↓FzS_ext, ↓dSortSetL, ↓fAbs, ↓fInt, ↓fRepr, ↓fLtT, ↓sRaise, ↓sTryKeep, ↓dCallV_w, ↓dMeth, ↓fCount, ↓fSplit])
/-- plain data of at most this depth -/
def D.pl : Nat → D → Bool
  | _, .non => true
  | _, .bl _ => true
  | _, .int _ => true
  | _, .str _ => true
  | k + 1, .lst ds => decide (ds.length ≤ 100000) && ds.all (D.pl k)
  | k + 1, .tup ds => decide (ds.length ≤ 100000) && ds.all (D.pl k)
  | _, _ => false
theorem noVals_of {ds : List D} (h : ∀ d ∈ ds, d.noVal = true) : D.noVals ds = true := by
  induction ds with
  | nil => rfl
  | cons d ds ih => rw [D.noVals, h d List.mem_cons_self, ih fun e he => h e (List.mem_cons_of_mem _ he)]; rfl
theorem pl_noVal : ∀ (k : Nat) (d : D), D.pl k d = true → d.noVal = true := by
  intro k
  induction k with
  | zero => intro d h; cases d <;> first | rfl | simp [D.pl] at h
  | succ k ih =>
    intro d h
    cases d with
    | lst ds => rw [D.pl, Bool.and_eq_true, List.all_eq_true] at h; exact noVals_of fun e he => ih e (h.2 e he)
    | tup ds => rw [D.pl, Bool.and_eq_true, List.all_eq_true] at h; exact noVals_of fun e he => ih e (h.2 e he)
    | non => rfl
    | bl _ => rfl
    | int _ => rfl
    | str _ => rfl
    | val _ => simp [D.pl] at h
    | fz _ => simp [D.pl] at h
    | tk _ => simp [D.pl] at h
    | exc _ => simp [D.pl] at h
    | glo _ => simp [D.pl] at h
def sp_same (k : Nat) : DSpec := fun args Q _ => ∃ d, args = [.ext d, .ext d] ∧ D.pl k d = true ∧ ∀ fin, Q (.ext (.bl true)) fin
/-- by depth -/
def sp_sameR : Nat → DSpec
  | 0 => fun _ _ _ => False
  | k + 1 => sp_same k
def e1_law_same (sp_law_same : DSpec) : DT :=
    (dCall sp_law_same (dCons (dVar 2) (dCons (dVar 3) dNil)))
def t_law_same (sp_law_same : DSpec) : DTS :=
    (sSeq (sIf (dTest (dCB fIsi (dCons (dVar 1) (dCons (dTup (dCons (dC (.val (.ty "tuple"))) (dCons (dC (.val (.ty "list"))) dNil))) dNil)))) (sSeq (sIf (dOr (dTest (dOp fNe (dCB fIsi (dCons (dVar 1) (dCons (dC (.val (.ty "tuple"))) dNil))) (dCB fIsi (dCons (dVar 0) (dCons (dC (.val (.ty "tuple"))) dNil))))) (dTest (dOp fNe (dCB fIsi (dCons (dVar 1) (dCons (dC (.val (.ty "list"))) dNil))) (dCB fIsi (dCons (dVar 0) (dCons (dC (.val (.ty "list"))) dNil)))))) (sRet (dC (.bl false))) sNext)
    (sRet (dAndV (dOp fEq (dCB fLen (dCons (dVar 0) dNil)) (dCB fLen (dCons (dVar 1) dNil))) (dCB fAll (dCons (dLc (dZip (dVar 0) (dVar 1)) (gTupD 2 (gsCons (gSet 2) (gsCons (gSet 3) gsNil))) dYes (e1_law_same sp_law_same) [2, 3]) dNil))))) sNext)
    (sSeq (sIf (dOr (dTest (dCB fIsi (dCons (dVar 1) (dCons (dC (.val (.ty "bool"))) dNil)))) (dTest (dCB fIsi (dCons (dVar 0) (dCons (dC (.val (.ty "bool"))) dNil))))) (sRet (dAndV (dCB fIsi (dCons (dVar 1) (dCons (dC (.val (.ty "bool"))) dNil))) (dAndV (dCB fIsi (dCons (dVar 0) (dCons (dC (.val (.ty "bool"))) dNil))) (dOp fEq (dVar 0) (dVar 1))))) sNext)
    (sSeq (sIf (dTest (dCB fIsi (dCons (dVar 1) (dCons (dC (.val (.ty "int"))) dNil)))) (sRet (dAndV (dCB fIsi (dCons (dVar 0) (dCons (dC (.val (.ty "int"))) dNil))) (dOp fEq (dVar 0) (dVar 1)))) sNext)
    (sSeq (sIf (dTest (dOp fIsN (dVar 1) (dC .non))) (sRet (dOp fIsN (dVar 0) (dC .non))) sNext)
    (sRet (dAndV (dCB fIsi (dCons (dVar 0) (dCons (dC (.val (.ty "str"))) dNil))) (dOp fEq (dVar 0) (dVar 1))))))))
theorem zip_self (ds : List D) : (ds.zip ds).map (fun p => D.tk [p.1, p.2]) = ds.map fun d => D.tk [d, d] := by
  induction ds with
  | nil => rfl
  | cons d ds ih => simp only [List.zip_cons_cons, List.map_cons, ih]
theorem q1_law_same {k : Nat} {Q : Sl → Env' → Prop} {s0 s1 : Sl} {keep : Env' → Prop} (hk : ∀ e, keep e) (ds : List D) : ∀ (n : Nat), n + ds.length ≤ 100000 → (∀ d ∈ ds, D.pl k d = true) → (∀ b, Q (.lst b (List.replicate (n + ds.length) (.bl true))) [s0, s1, .un, .un]) →
    lcD (gTupD 2 (gsCons (gSet 2) (gsCons (gSet 3) gsNil))) dYes (e1_law_same (sp_same k)) [2, 3] keep Q (ds.map fun d => D.tk [d, d]) (List.replicate n (.bl true)) [s0, s1, .un, .un] := by
  induction ds with
  | nil => intro n _ _ hQ; exact ⟨hk _, hQ⟩
  | cons d ds ih =>
    intro n hl hp hQ
    rw [List.length_cons] at hl
    rw [List.map_cons, lcD]
    unfold e1_law_same
    trivial
    refine ⟨hk _, by rw [List.length_replicate]; exact Nat.lt_of_le_of_lt (by omega : n ≤ 100000) (by decide), d, rfl, hp d List.mem_cons_self, fun fin => ?_⟩
    trivial
    have := ih (n + 1) (by omega) (fun e he => hp e (List.mem_cons_of_mem _ he)) (fun b => by have := hQ b; rw [List.length_cons] at this; rw [show n + 1 + ds.length = n + (ds.length + 1) by omega]; exact this)
    rw [List.replicate_succ'] at this
    exact this
theorem m_law_same (k : Nat) : Meets (t_law_same (sp_sameR k)) 2 2 (sp_same k) := by
  rintro args Qd Xd ⟨d, rfl, hp, hQ⟩
  have nv := pl_noVal k d hp
  show t_law_same _ _ _ [_, _, .un, .un]
  unfold t_law_same
  cases d with
  | non =>
    trivial
    simp only [nv, D.isFz, D.isNon, Bool.or_false, Bool.or_true, Bool.false_eq_true, if_true, if_false, true_and]
    exact ⟨by decide, hQ _⟩
  | bl b =>
    trivial
    simp only [nv, D.isFz, D.isNon, Bool.or_false, Bool.or_true, Bool.false_eq_true, if_true, if_false, true_and, beq_self_eq_true]
    exact ⟨by decide, hQ _⟩
  | int i =>
    trivial
    simp only [nv, D.isFz, D.isNon, Bool.or_false, Bool.or_true, Bool.false_eq_true, if_true, if_false, true_and, beq_self_eq_true]
    exact ⟨by decide, hQ _⟩
  | str x =>
    trivial
    simp only [nv, D.isFz, D.isNon, Bool.or_false, Bool.or_true, Bool.false_eq_true, if_true, if_false, true_and, beq_self_eq_true]
    exact ⟨by decide, hQ _⟩
  | lst ds =>
    cases k with
    | zero => simp [D.pl] at hp
    | succ k =>
      rw [D.pl, Bool.and_eq_true, List.all_eq_true, decide_eq_true_eq] at hp
      trivial
      simp only [nv, D.isFz, D.isNon, Bool.or_false, Bool.or_true, Bool.true_or, Bool.false_eq_true, if_true, if_false, true_and, beq_self_eq_true, Bool.not_true]
      refine ⟨by decide, ?_⟩
      rw [zip_self]
      refine q1_law_same (k := k) (fun _ => True.intro) ds 0 (by omega) hp.2 fun b => ?_
      trivial
      refine ⟨List.replicate (0 + ds.length) true, by simp, ?_⟩
      have e : (List.replicate (0 + ds.length) true).all id = true := by simp
      rw [e]
      exact hQ _
  | tup ds =>
    cases k with
    | zero => simp [D.pl] at hp
    | succ k =>
      rw [D.pl, Bool.and_eq_true, List.all_eq_true, decide_eq_true_eq] at hp
      trivial
      simp only [nv, D.isFz, D.isNon, Bool.or_false, Bool.or_true, Bool.true_or, Bool.false_eq_true, if_true, if_false, true_and, beq_self_eq_true, Bool.not_true]
      refine ⟨by decide, ?_⟩
      rw [zip_self]
      refine q1_law_same (k := k) (fun _ => True.intro) ds 0 (by omega) hp.2 fun b => ?_
      trivial
      refine ⟨List.replicate (0 + ds.length) true, by simp, ?_⟩
      have e : (List.replicate (0 + ds.length) true).all id = true := by simp
      rw [e]
      exact hQ _
  | val _ => cases k <;> simp [D.pl] at hp
  | fz _ => cases k <;> simp [D.pl] at hp
  | tk _ => cases k <;> simp [D.pl] at hp
  | exc _ => cases k <;> simp [D.pl] at hp
  | glo _ => cases k <;> simp [D.pl] at hp
/-- alike, of depth four -/
def sp_law_same : DSpec := sp_same 4
end LS

/-! LZ: data that may be compared; bounds of worths; unions -/
namespace LS
open PySem L2 HD PM
def D.pi : Nat → D → Bool
  | _, .non => true
  | _, .bl _ => true
  | _, .int _ => true
  | _, .str x => PyData.canLay0 (.str x)
  | k + 1, .lst ds => ds.all (D.pi k)
  | k + 1, .tup ds => ds.all (D.pi k)
  | _, _ => false
theorem pys_of {k : Nat} {ds : List D} (h : ∀ d ∈ ds, d.noVal = true ∧ d.py.canLay0 = true ∧ d.py.depth ≤ k) : D.noVals ds = true ∧ PyData.canLayAll0 (D.pys ds) = true ∧ PyData.depthAll (D.pys ds) ≤ k := by
  induction ds with
  | nil => exact ⟨rfl, rfl, by simp [D.pys, PyData.depthAll]⟩
  | cons d ds ih =>
    obtain ⟨h1, h2, h3⟩ := h d List.mem_cons_self
    obtain ⟨i1, i2, i3⟩ := ih fun e he => h e (List.mem_cons_of_mem _ he)
    refine ⟨by simp [D.noVals, h1, i1], by simp [D.pys, PyData.canLayAll0, h2, i2], ?_⟩
    simp only [D.pys, PyData.depthAll]
    omega
theorem pi_cmp0 : ∀ (k : Nat) (d : D), D.pi k d = true → d.noVal = true ∧ d.py.canLay0 = true ∧ d.py.depth ≤ k := by
  intro k
  induction k with
  | zero => intro d h; cases d <;> first | exact ⟨rfl, rfl, by simp [D.py, PyData.depth]⟩ | exact ⟨rfl, h, by simp [D.py, PyData.depth]⟩ | simp [D.pi] at h
  | succ k ih =>
    intro d h
    cases d with
    | lst ds =>
      rw [D.pi, List.all_eq_true] at h
      obtain ⟨h1, h2, h3⟩ := pys_of fun e he => ih e (h e he)
      exact ⟨h1, by simpa [D.py, PyData.canLay0] using h2, by simp only [D.py, PyData.depth]; omega⟩
    | tup ds =>
      rw [D.pi, List.all_eq_true] at h
      obtain ⟨h1, h2, h3⟩ := pys_of fun e he => ih e (h e he)
      exact ⟨h1, by simpa [D.py, PyData.canLay0] using h2, by simp only [D.py, PyData.depth]; omega⟩
    | non => exact ⟨rfl, rfl, by simp [D.py, PyData.depth]⟩
    | bl _ => exact ⟨rfl, rfl, by simp [D.py, PyData.depth]⟩
    | int _ => exact ⟨rfl, rfl, by simp [D.py, PyData.depth]⟩
    | str _ => exact ⟨rfl, h, by simp [D.py, PyData.depth]⟩
    | val _ => simp [D.pi] at h
    | fz _ => simp [D.pi] at h
    | tk _ => simp [D.pi] at h
    | exc _ => simp [D.pi] at h
    | glo _ => simp [D.pi] at h
theorem pi_cmp {k : Nat} {d : D} (hk : k ≤ 64) (h : D.pi k d = true) : d.cmp := by
  obtain ⟨h1, h2, h3⟩ := pi_cmp0 k d h
  refine ⟨h1, ?_⟩
  unfold SeqAt.shaped
  rw [h2]
  simp; omega
theorem pi_ints (k : Nat) (l : List Int) : (iD l).all (D.pi k) = true := by
  rw [List.all_eq_true]
  intro d hd
  obtain ⟨i, _, rfl⟩ := List.mem_map.1 hd
  cases k <;> rfl
theorem pi_nats (k : Nat) (l : List Nat) : (nD l).all (D.pi k) = true := by
  rw [List.all_eq_true]
  intro d hd
  obtain ⟨i, _, rfl⟩ := List.mem_map.1 hd
  cases k <;> rfl
theorem pi_dP (p : Part) : D.pi 2 (dP p) = true := by
  simp only [D.pi, List.all_cons, List.all_nil, pi_ints, pi_nats]
  rfl
theorem cmp_dP (p : Part) : (dP p).cmp := pi_cmp (by decide) (pi_dP p)
theorem eqv_self (p : Part) : D.eqv (dP p) (dP p) = true := eqv_refl (cmp_dP p)
theorem pl_ints (k : Nat) (l : List Int) : (iD l).all (D.pl k) = true := by
  rw [List.all_eq_true]
  intro d hd
  obtain ⟨i, _, rfl⟩ := List.mem_map.1 hd
  cases k <;> rfl
theorem pl_nats (k : Nat) (l : List Nat) : (nD l).all (D.pl k) = true := by
  rw [List.all_eq_true]
  intro d hd
  obtain ⟨i, _, rfl⟩ := List.mem_map.1 hd
  cases k <;> rfl
theorem pl_dP (p : Part) (h1 : p.ns.length ≤ 100000) (h2 : p.ws.length ≤ 100000) : D.pl 4 (dP p) = true := by
  simp only [D.pl, List.all_cons, List.all_nil, pl_ints, pl_nats, nD_len, iD_len, h1, h2]
  rfl
/-! ### bounds -/
def Bd (k : Nat) (p : Part) : Prop := ∀ x ∈ p.ws, x.natAbs < 2 ^ k
theorem NumsOk.bd {w : Wd} {p : Part} (h : NumsOk w p) : Bd 40 p := fun x hx => by
  obtain ⟨h1, h2, _⟩ := h x hx
  omega
theorem Bd.mul {a b : Nat} {p q : Part} (hp : Bd a p) (hq : Bd b q) (h : a + b < 1000000) : MulOk p q := fun x hx y hy => cmulN (hp x hx) (hq y hy) h
theorem jn_bd {w : Wd} {a b : Nat} {x y : Int} (ha : 0 < a) (hb : 0 < b) (hx : x.natAbs < 2 ^ a) (hy : y.natAbs < 2 ^ b) : (jn w x y).natAbs < 2 ^ (a + b) := by
  have e : 2 ^ (a + b) = 2 ^ a * 2 ^ b := Nat.pow_add 2 a b
  have a2 : 2 ≤ 2 ^ a := by
    have := Nat.pow_le_pow_right (n := 2) (by decide) ha
    simpa using this
  have b2 : 2 ≤ 2 ^ b := by
    have := Nat.pow_le_pow_right (n := 2) (by decide) hb
    simpa using this
  have s1 : 2 ^ a * 2 ≤ 2 ^ a * 2 ^ b := Nat.mul_le_mul_left _ b2
  have s2 : 2 * 2 ^ b ≤ 2 ^ a * 2 ^ b := Nat.mul_le_mul_right _ a2
  cases w with
  | sum =>
    show (x * y).natAbs < _
    rw [Int.natAbs_mul, e]
    rcases Nat.eq_zero_or_pos y.natAbs with z | z
    · rw [z, Nat.mul_zero]; omega
    · exact Nat.mul_lt_mul'' hx hy
  | most => show (x + y).natAbs < _; omega
  | least => show (x + y).natAbs < _; omega
  | wide => show (if y < x then y else x).natAbs < _; split <;> omega
  | any => show (if y < x then y else x).natAbs < _; split <;> omega
theorem Bd.join {w : Wd} {a b : Nat} {S U : List Nat} {p q : Part} (ha : 0 < a) (hb : 0 < b) (hp : p.Ok S) (hq : q.Ok S) (h1 : Bd a p) (h2 : Bd b q) (hU : Uni U p.ns q.ns) : Bd (a + b) (joinP S (jn w) U p q) := by
  intro x hx
  obtain ⟨f, hf, rfl⟩ := List.mem_map.1 hx
  have hg := mem_fills.1 hf
  exact jn_bd ha hb (h1 _ (val_mem hp fun n hn => ats_lt hg ((hU.2 n).2 (.inl hn)))) (h2 _ (val_mem hq fun n hn => ats_lt hg ((hU.2 n).2 (.inr hn))))
theorem Bd.up {a b : Nat} {p : Part} (h : Bd a p) (hab : a ≤ b) : Bd b p := fun x hx => Nat.lt_of_lt_of_le (h x hx) (Nat.pow_le_pow_right (by decide) hab)
/-- the names of either, by the program -/
theorem uni_ex (a b : List Nat) : ∃ U, Uni U a b := by
  refine ⟨(List.range ((a ++ b).foldr max 0 + 1)).filter fun n => decide (n ∈ a ++ b), List.Pairwise.filter _ List.pairwise_lt_range, fun n => ?_⟩
  rw [List.mem_filter, List.mem_range, decide_eq_true_eq, List.mem_append]
  refine ⟨fun h => h.2, fun h => ⟨?_, h⟩⟩
  have gen : ∀ (l : List Nat), n ∈ l → n ≤ l.foldr max 0 := by
    intro l
    induction l with
    | nil => intro h; cases h
    | cons x l ih =>
      intro h
      rw [List.foldr_cons]
      rcases List.mem_cons.1 h with rfl | h
      · omega
      · have := ih h; omega
  have := gen (a ++ b) (List.mem_append.2 h)
  omega
/-! ### the words' joins -/
theorem jn_comm (w : Wd) (a b : Int) : jn w a b = jn w b a := by
  cases w <;> simp only [jn]
  · exact Int.mul_comm _ _
  · omega
  · omega
  · split <;> split <;> omega
  · split <;> split <;> omega
theorem jn_assoc (w : Wd) (a b c : Int) : jn w (jn w a b) c = jn w a (jn w b c) := by
  cases w <;> simp only [jn]
  · exact Int.mul_assoc _ _ _
  · omega
  · omega
  · repeat' split
    all_goals omega
  · repeat' split
    all_goals omega
theorem jn_unitL {w : Wd} {x : Int} (h : NumOk w x) : jn w (unitW w) x = x := by
  obtain ⟨h1, h2, h3⟩ := h
  cases w with
  | sum => exact Int.one_mul _
  | most => exact Int.zero_add _
  | least => exact Int.zero_add _
  | wide => show (if x < 10 ^ 30 then x else 10 ^ 30) = x; rw [if_pos (by omega)]
  | any =>
    have := h3 rfl
    show (if x < 1 then x else 1) = x
    split <;> omega
theorem jn_unitR {w : Wd} {x : Int} (h : NumOk w x) : jn w x (unitW w) = x := by rw [jn_comm, jn_unitL h]
end LS

/-! MG: the plain law of gathering, settling, widening -/
namespace PM
open LS
/-- fold of a list that is not empty -/
def fold1 (op : Int → Int → Int) : List Int → Int
  | [] => 0
  | x :: xs => xs.foldl op x
structure CA (op : Int → Int → Int) : Prop where
  comm : ∀ a b, op a b = op b a
  assoc : ∀ a b c, op (op a b) c = op a (op b c)
theorem foldl_pull {op : Int → Int → Int} (h : CA op) (xs : List Int) : ∀ a b, xs.foldl op (op a b) = op a (xs.foldl op b) := by
  induction xs with
  | nil => intro a b; rfl
  | cons x xs ih => intro a b; rw [List.foldl_cons, List.foldl_cons, h.assoc, ih]
theorem fold1_cons {op : Int → Int → Int} (h : CA op) (x : Int) {xs : List Int} (hx : xs ≠ []) : fold1 op (x :: xs) = op x (fold1 op xs) := by
  cases xs with
  | nil => exact absurd rfl hx
  | cons y ys =>
    show ys.foldl op (op x y) = op x (ys.foldl op y)
    exact foldl_pull h ys x y
theorem fold1_op {α : Type} {op : Int → Int → Int} (h : CA op) (a b : α → Int) {ys : List α} (hy : ys ≠ []) : op (fold1 op (ys.map a)) (fold1 op (ys.map b)) = fold1 op (ys.map fun y => op (a y) (b y)) := by
  induction ys with
  | nil => exact absurd rfl hy
  | cons y ys ih =>
    by_cases e : ys = []
    · subst e; rfl
    · have e1 : ys.map a ≠ [] := by simpa using e
      have e2 : ys.map b ≠ [] := by simpa using e
      have e3 : (ys.map fun y => op (a y) (b y)) ≠ [] := by simpa using e
      rw [List.map_cons, List.map_cons, List.map_cons, fold1_cons h _ e1, fold1_cons h _ e2, fold1_cons h _ e3, ← ih e]
      rw [h.assoc, h.assoc, ← h.assoc (fold1 op (ys.map a)), h.comm (fold1 op (ys.map a)) (b y), h.assoc]
theorem fold1_swap {α β : Type} {op : Int → Int → Int} (h : CA op) (f : α → β → Int) {xs : List α} {ys : List β} (hx : xs ≠ []) (hy : ys ≠ []) :
    fold1 op (xs.map fun x => fold1 op (ys.map fun y => f x y)) = fold1 op (ys.map fun y => fold1 op (xs.map fun x => f x y)) := by
  induction xs with
  | nil => exact absurd rfl hx
  | cons x xs ih =>
    by_cases e : xs = []
    · subst e; rfl
    · have e1 : (xs.map fun x => fold1 op (ys.map fun y => f x y)) ≠ [] := by simpa using e
      rw [List.map_cons, fold1_cons h _ e1, ih e, fold1_op h _ _ hy]
      congr 1
      refine List.map_congr_left fun y _ => ?_
      rw [List.map_cons, fold1_cons h _ (by simpa using e)]
/-- the word's gathering -/
def gop : Wd → Int → Int → Int
  | .sum, a, b => a + b
  | .least, a, b => if b < a then b else a
  | _, a, b => if a < b then b else a
theorem gop_ca (w : Wd) : CA (gop w) := by
  constructor
  · intro a b; cases w <;> simp only [gop] <;> first | omega | (repeat' split <;> omega)
  · intro a b c; cases w <;> simp only [gop] <;> first | omega | (repeat' split) <;> omega
abbrev gt (w : Wd) (l : List Int) : Int := fold1 (gop w) l
theorem jn_gop (w : Wd) (a b c : Int) : jn w (gop w a b) c = gop w (jn w a c) (jn w b c) ∨ w = .least := by
  cases w
  · left; simp only [jn, gop]; rw [Int.add_mul]
  · left; simp only [jn, gop]; repeat' split
    all_goals omega
  · right; rfl
  · left; simp only [jn, gop]; repeat' split
    all_goals omega
  · left; simp only [jn, gop]; repeat' split
    all_goals omega
theorem jn_gop' (w : Wd) (a b c : Int) : jn w (gop w a b) c = gop w (jn w a c) (jn w b c) := by
  rcases jn_gop w a b c with h | rfl
  · exact h
  · simp only [jn, gop]; repeat' split
    all_goals omega
theorem jn_gt (w : Wd) (c : Int) {l : List Int} (hl : l ≠ []) : jn w (gt w l) c = gt w (l.map fun x => jn w x c) := by
  induction l with
  | nil => exact absurd rfl hl
  | cons x l ih =>
    by_cases e : l = []
    · subst e; rfl
    · rw [gt, fold1_cons (gop_ca w) _ e, jn_gop', ih e, List.map_cons]
      exact (fold1_cons (gop_ca w) _ (by simpa using e)).symm
/-- a filling with one worth put -/
def put (g : Nat → Nat) (n v : Nat) : Nat → Nat := fun m => if m = n then v else g m
def wo (ns : List Nat) (n : Nat) : List Nat := ns.filter fun m => decide (m ≠ n)
theorem mem_wo {ns : List Nat} {n m : Nat} : m ∈ wo ns n ↔ m ∈ ns ∧ m ≠ n := by simp [wo]
theorem wo_rise {ns : List Nat} {n : Nat} (h : Rising ns) : Rising (wo ns n) := List.Pairwise.filter _ h
theorem wo_self {ns : List Nat} {n : Nat} (h : n ∉ ns) : wo ns n = ns := by
  unfold wo
  rw [List.filter_eq_self]
  intro m hm
  simp; intro e; exact h (e ▸ hm)
def gathP (S : List Nat) (w : Wd) (p : Part) (n : Nat) : Part := mkP S (wo p.ns n) fun g => gt w ((List.range (sz S n)).map fun v => val S p (put g n v))
def setP (S : List Nat) (p : Part) (n v : Nat) : Part := mkP S (wo p.ns n) fun g => val S p (put g n v)
def widP (S : List Nat) (p : Part) (U : List Nat) : Part := mkP S U (val S p)
section
variable {S : List Nat} {w : Wd} {p q : Part} {n v : Nat} {g : Nat → Nat}
theorem gathP_ok (hp : p.Ok S) : (gathP S w p n).Ok S := mkP_ok (wo_rise hp.rise) fun m hm => hp.lt m (mem_wo.1 hm).1
theorem setP_ok (hp : p.Ok S) : (setP S p n v).Ok S := mkP_ok (wo_rise hp.rise) fun m hm => hp.lt m (mem_wo.1 hm).1
theorem widP_ok {U : List Nat} (hU : Rising U) (hl : ∀ m ∈ U, m < S.length) : (widP S p U).Ok S := mkP_ok hU hl
theorem put_congr {ns : List Nat} {g' : Nat → Nat} (h : ∀ m ∈ wo ns n, g m = g' m) : ∀ m ∈ ns, put g n v m = put g' n v m := by
  intro m hm
  unfold put
  split
  · rfl
  · rename_i e; exact h m (mem_wo.2 ⟨hm, e⟩)
theorem val_gathP (hg : Fit S (wo p.ns n) g) : val S (gathP S w p n) g = gt w ((List.range (sz S n)).map fun v => val S p (put g n v)) := by
  refine val_mkP hg ?_
  show gt w _ = gt w _
  congr 1
  refine List.map_congr_left fun v _ => val_congr (put_congr fun m hm => ats_map hm)
theorem val_setP (hg : Fit S (wo p.ns n) g) : val S (setP S p n v) g = val S p (put g n v) := by
  refine val_mkP hg ?_
  exact val_congr (put_congr fun m hm => ats_map hm)
theorem val_widP {U : List Nat} (hU : ∀ m ∈ p.ns, m ∈ U) (hg : Fit S U g) : val S (widP S p U) g = val S p g := by
  refine val_mkP hg ?_
  exact val_congr fun m hm => ats_map (hU m hm)
theorem fit_put {ns : List Nat} (hg : Fit S (wo ns n) g) (hv : v < sz S n) : Fit S ns (put g n v) := by
  intro m hm
  unfold put
  split
  · rename_i e; subst e; exact hv
  · rename_i e; exact hg m (mem_wo.2 ⟨hm, e⟩)
theorem range_ne {k : Nat} (h : 0 < k) : List.range k ≠ [] := by
  intro e
  have := congrArg List.length e
  simp at this; omega
theorem put_out {m u : Nat} (h : n ≠ m) : put (put g n v) m u = put (put g m u) n v := by
  funext k
  unfold put
  by_cases e1 : k = m
  · by_cases e2 : k = n
    · omega
    · simp [e1, e2]; intro e; omega
  · by_cases e2 : k = n
    · subst e2; simp [e1]
    · simp [e1, e2]
theorem val_put_out (h : n ∉ q.ns) : val S q (put g n v) = val S q g := val_congr fun m hm => by
  have e : m ≠ n := fun e => h (e ▸ hm)
  unfold put
  rw [if_neg e]
theorem gath_join {U U' : List Nat} (hn : 0 < sz S n) (hp : p.Ok S) (hq : q.Ok S) (h : n ∉ q.ns) (hU : Uni U p.ns q.ns) (hU' : Uni U' (wo p.ns n) q.ns) : gathP S w (joinP S (jn w) U p q) n = joinP S (jn w) U' (gathP S w p n) q := by
  have e : wo U n = U' := rising_ext (wo_rise hU.1) hU'.1 fun m => by
    rw [mem_wo, hU.2, hU'.2, mem_wo]
    constructor
    · rintro ⟨h1 | h1, h2⟩
      · exact .inl ⟨h1, h2⟩
      · exact .inr h1
    · rintro (⟨h1, h2⟩ | h1)
      · exact ⟨.inl h1, h2⟩
      · exact ⟨.inr h1, fun e => h (e ▸ h1)⟩
  have oj : (joinP S (jn w) U p q).Ok S := joinP_ok hU hp hq
  refine Part.ext' (gathP_ok oj) (joinP_ok (p := gathP S w p n) hU' (gathP_ok hp) hq) e fun g (hg : Fit S (wo U n) g) => ?_
  have hg' : Fit S U' g := e ▸ hg
  rw [val_gathP (p := joinP S (jn w) U p q) hg, val_joinP (p := gathP S w p n) hU' hg', val_gathP fun m hm => hg' m ((hU'.2 m).2 (.inl hm)), jn_gt w _ (by simpa using range_ne hn), List.map_map]
  congr 1
  refine List.map_congr_left fun v hv => ?_
  rw [val_joinP hU (fit_put hg (List.mem_range.1 hv))]
  show jn w _ _ = jn w _ _
  rw [val_put_out h]
theorem gath_gath {m : Nat} (hn : 0 < sz S n) (hm : 0 < sz S m) (hnm : n ≠ m) (hp : p.Ok S) : gathP S w (gathP S w p n) m = gathP S w (gathP S w p m) n := by
  have e : wo (wo p.ns n) m = wo (wo p.ns m) n := by
    unfold wo
    rw [List.filter_filter, List.filter_filter]
    congr 1
    funext k
    exact Bool.and_comm _ _
  refine Part.ext' (gathP_ok (gathP_ok hp)) (gathP_ok (gathP_ok hp)) e fun g (hg : Fit S (wo (wo p.ns n) m) g) => ?_
  have hg' : Fit S (wo (wo p.ns m) n) g := e ▸ hg
  rw [val_gathP (p := gathP S w p n) hg, val_gathP (p := gathP S w p m) hg']
  have e1 : ((List.range (sz S m)).map fun v => val S (gathP S w p n) (put g m v)) = (List.range (sz S m)).map fun v => gt w ((List.range (sz S n)).map fun u => val S p (put (put g m v) n u)) :=
    List.map_congr_left fun v hv => val_gathP (fit_put hg (List.mem_range.1 hv))
  have e2 : ((List.range (sz S n)).map fun u => val S (gathP S w p m) (put g n u)) = (List.range (sz S n)).map fun u => gt w ((List.range (sz S m)).map fun v => val S p (put (put g m v) n u)) :=
    List.map_congr_left fun u hu => by
      rw [val_gathP (fit_put hg' (List.mem_range.1 hu))]
      congr 1
      exact List.map_congr_left fun v _ => by rw [put_out hnm]
  rw [e1, e2]
  exact fold1_swap (gop_ca w) (fun v u => val S p (put (put g m v) n u)) (range_ne hm) (range_ne hn)
theorem fold1_const {op : Int → Int → Int} (h : CA op) (hi : ∀ a, op a a = a) (x : Int) {k : Nat} (hk : 0 < k) : fold1 op ((List.range k).map fun _ => x) = x := by
  have e : ((List.range k).map fun _ => x) = List.replicate k x := by simp [List.map_const']
  rw [e]
  obtain ⟨j, rfl⟩ : ∃ j, k = j + 1 := ⟨k - 1, by omega⟩
  clear hk e
  induction j with
  | zero => rfl
  | succ j ih => rw [List.replicate_succ, fold1_cons h _ (by simp), ih, hi]
theorem fold1_sum (x : Int) {k : Nat} (hk : 0 < k) : fold1 (gop .sum) ((List.range k).map fun _ => x) = x * k := by
  have e : ((List.range k).map fun _ => x) = List.replicate k x := by simp [List.map_const']
  rw [e]
  obtain ⟨j, rfl⟩ : ∃ j, k = j + 1 := ⟨k - 1, by omega⟩
  clear hk e
  induction j with
  | zero => show x = x * 1; omega
  | succ j ih =>
    rw [List.replicate_succ, fold1_cons (gop_ca .sum) _ (by simp), ih]
    show x + x * ((j + 1 : Nat) : Int) = x * ((j + 1 + 1 : Nat) : Int)
    rw [Int.natCast_add (j + 1) 1, Int.mul_add]
    omega
def timesW (w : Wd) (k : Nat) : Int := if w = .sum then k else 1
theorem gt_const (w : Wd) (x : Int) {k : Nat} (hk : 0 < k) : gt w ((List.range k).map fun _ => x) = x * timesW w k := by
  cases w with
  | sum => exact fold1_sum x hk
  | _ => rw [gt, fold1_const (gop_ca _) (by intro a; simp [gop]) x hk]; simp [timesW]
theorem gath_wid {U : List Nat} (hn : 0 < sz S n) (hn2 : n < S.length) (hp : p.Ok S) (h : n ∉ p.ns) (hU : Uni U p.ns [n]) : gathP S w (widP S p U) n = ⟨p.ns, p.ws.map fun x => x * timesW w (sz S n)⟩ := by
  have e : wo U n = p.ns := rising_ext (wo_rise hU.1) hp.rise fun m => by
    rw [mem_wo, hU.2]
    constructor
    · rintro ⟨h1 | h1, h2⟩
      · exact h1
      · exact absurd (List.mem_singleton.1 h1) h2
    · exact fun h1 => ⟨.inl h1, fun e => h (e ▸ h1)⟩
  have ow : (widP S p U).Ok S := widP_ok hU.1 fun m hm => by
    rcases (hU.2 m).1 hm with h1 | h1
    · exact hp.lt m h1
    · rw [List.mem_singleton.1 h1]; exact hn2
  have o2 : Part.Ok S ⟨p.ns, p.ws.map fun x => x * timesW w (sz S n)⟩ := ⟨hp.rise, hp.lt, by simp [hp.len]⟩
  refine Part.ext' (gathP_ok ow) o2 e fun g (hg : Fit S (wo U n) g) => ?_
  have hg' : Fit S p.ns g := e ▸ hg
  rw [val_gathP (p := widP S p U) hg]
  have e1 : ((List.range (sz S n)).map fun v => val S (widP S p U) (put g n v)) = (List.range (sz S n)).map fun _ => val S p g :=
    List.map_congr_left fun v hv => by rw [val_widP (fun m hm => (hU.2 m).2 (.inl hm)) (fit_put hg (List.mem_range.1 hv)), val_put_out h]
  rw [e1, gt_const w _ hn]
  have := val_at hp hg'
  show _ = (List.map _ p.ws).getD _ 0
  rw [List.getD_eq_getElem?_getD, List.getElem?_map, this]
  rfl
theorem set_join {U U' : List Nat} {q' : Part} (hp : p.Ok S) (hq : q.Ok S) (hv : v < sz S n) (hU : Uni U p.ns q.ns) (hU' : Uni U' (wo p.ns n) (wo q.ns n)) : setP S (joinP S (jn w) U p q) n v = joinP S (jn w) U' (setP S p n v) (setP S q n v) := by
  have e : wo U n = U' := rising_ext (wo_rise hU.1) hU'.1 fun m => by
    rw [mem_wo, hU.2, hU'.2, mem_wo, mem_wo]
    constructor
    · rintro ⟨h1 | h1, h2⟩
      · exact .inl ⟨h1, h2⟩
      · exact .inr ⟨h1, h2⟩
    · rintro (⟨h1, h2⟩ | ⟨h1, h2⟩)
      · exact ⟨.inl h1, h2⟩
      · exact ⟨.inr h1, h2⟩
  have oj : (joinP S (jn w) U p q).Ok S := joinP_ok hU hp hq
  refine Part.ext' (setP_ok oj) (joinP_ok (p := setP S p n v) (q := setP S q n v) hU' (setP_ok hp) (setP_ok hq)) e fun g (hg : Fit S (wo U n) g) => ?_
  have hg' : Fit S U' g := e ▸ hg
  rw [val_setP (p := joinP S (jn w) U p q) hg, val_joinP (p := setP S p n v) (q := setP S q n v) hU' hg', val_setP fun m hm => hg' m ((hU'.2 m).2 (.inl hm)), val_setP fun m hm => hg' m ((hU'.2 m).2 (.inr hm)), val_joinP hU (fit_put hg hv)]
theorem set_out (hq : q.Ok S) (h : n ∉ q.ns) : setP S q n v = q := by
  refine Part.ext' (setP_ok hq) hq (wo_self h) fun g (hg : Fit S (wo q.ns n) g) => ?_
  rw [val_setP hg, val_put_out h]
end
end PM

/-! LG: gathering, settling, widening as the program does it -/
namespace LS
open PySem L2 HD PM
local macro_rules | `(tactic| trivial) => `(tactic| try simp -dsimp only [↓sSeq, ↓sIf, ↓sRet, ↓retD_ext, ↓retD_lst, ↓retD_al, ↓sSet, ↓sSetE, ↓sAsg, ↓sDrop, ↓sNext, ↓sFor, ↓sRetN, ↓sCont, ↓sBreak, ↓dTest, ↓dOp, ↓dVar_w, ↓dC, ↓dCons, ↓dNil, ↓dTup, ↓dLst, ↓frzDs, ↓frzD_ext, ↓frzD_lst, ↓frzD_al, ↓wd_ext, ↓wd_lst, ↓wd_al, ↓wds, ↓AtS_ext, ↓AtS_lst, ↓AtL, ↓fAdd, ↓fSub, ↓fMul, ↓fDiv, ↓fMod, ↓fPow, ↓fCmp, ↓fIn, ↓fEq_ii, ↓fEq_ss, ↓fEq_bb, ↓fEq_tt, ↓fEq_ll, ↓fNe_ii, ↓fNe_ss, ↓fNe_bb, ↓fNe_tt, ↓fNe_ll, ↓fIx_l, ↓fIx_t, ↓fIx_k, ↓fIx_f, ↓GetS_some, ↓NatS_some, ↓fSl, ↓fIsN, ↓fNotN, ↓D.knN, ↓dNot, ↓dAnd, ↓dOr, ↓dAndV_w, ↓dOrV_w, ↓dNotV, ↓dIf, ↓dNeg, ↓dChain_w, ↓BlS_bl, ↓dCall_w, ↓dCallJ_w, ↓anyAl, ↓frozs, ↓froz, ↓gSet, ↓gTupD, ↓gsCons, ↓gsNil, ↓dSeq, ↓seqD_tup, ↓seqD_elst, ↓seqD_lst, ↓seqD_al, ↓dRange1, ↓dRange2, ↓dZip, ↓dCB, ↓dLc, ↓dYes, ↓dNoPart, ↓dPart, ↓dSl, ↓fLen, ↓fMin, ↓fMax, ↓fSum, ↓fAll, ↓fAny, ↓fSorted, ↓fTuple, ↓fList, ↓dRg1, ↓dRg2, ↓dLstRg, ↓dTupRg, ↓dIndex, ↓fIdx, ↓dAppend_w, ↓dExtend_w, ↓extD_lst, ↓dPopAt_w, ↓popD_int, ↓dPop_w, ↓mutD_w, ↓sSetItem_w, ↓setD_int, ↓dSortSet, ↓dTable_w, ↓wipeE, finals1, finals2, finals3, finals4, finals5, finals6, fin1_ext, fin1_lst, List.getElem?_cons_zero, List.getElem?_cons_succ, List.getElem?_nil, List.set_cons_zero, List.set_cons_succ, List.cons_append, List.nil_append, List.append_nil, List.replicate_succ, List.replicate_zero, List.map_cons, List.map_nil, List.length_cons, List.length_nil, true_and, and_true, ite_true, ite_false, if_true, if_false, Bool.false_eq_true, decide_eq_true_eq, Sl.plain, D.isSq, eq_self_iff_true, forall_const, reduceIte, true_or, or_true, atI_0, atI_1, atI_2, atI_3, ixN_0, ixN_1, ixN_2, AtS_ext, AtS_lst, FzS_lst, FzS_ext, GetS_some, NatS_some, ↓fIsi1, ↓fIsi2, BoolS_some, HD.kb_non_tuple, HD.kb_non_list, HD.kb_non_bool, HD.kb_non_int, HD.kb_non_str, HD.kb_bl_tuple, HD.kb_bl_list, HD.kb_bl_bool, HD.kb_bl_int, HD.kb_bl_str, HD.kb_int_tuple, HD.kb_int_list, HD.kb_int_bool, HD.kb_int_int, HD.kb_int_str, HD.kb_str_tuple, HD.kb_str_list, HD.kb_str_bool, HD.kb_str_int, HD.kb_str_str, HD.kb_lst_tuple, HD.kb_lst_list, HD.kb_lst_bool, HD.kb_lst_int, HD.kb_lst_str, HD.kb_tup_tuple, HD.kb_tup_list, HD.kb_tup_bool, HD.kb_tup_int, HD.kb_tup_str, ↓sFz_w, ↓FzS_lst, ↓FzS_ext, ↓dSortSetL, ↓fAbs, ↓fInt, ↓fRepr, ↓fLtT, ↓sRaise, ↓sTryKeep, ↓dCallV_w, ↓dMeth, ↓fCount, ↓fSplit])
def sp_gather : DSpec := fun args Q _ => ∃ (w : Wd) (l : List Int), args = [dW w, .ext (.lst (iD l))] ∧ l ≠ [] ∧ ∀ fin, Q (dI (gt w l)) fin
def t_gather : DTS :=
    (sSeq (sIf (dTest (dOp fEq (dVar 0) (dC (.str (Str.ofString "sum"))))) (sRet (dCB fSum (dCons (dVar 1) dNil))) sNext)
    (sRet (dIf (dTest (dOp fEq (dVar 0) (dC (.str (Str.ofString "least"))))) (dCB fMin (dCons (dVar 1) dNil)) (dCB fMax (dCons (dVar 1) dNil)))))
theorem fold1_mem {op : Int → Int → Int} (h : ∀ a b, op a b = a ∨ op a b = b) (l : List Int) : ∀ x, l.foldl op x = x ∨ l.foldl op x ∈ l := by
  induction l with
  | nil => intro x; exact .inl rfl
  | cons y l ih =>
    intro x
    rw [List.foldl_cons]
    rcases ih (op x y) with e | e
    · rw [e]
      rcases h x y with h | h <;> rw [h]
      · exact .inl rfl
      · exact .inr List.mem_cons_self
    · exact .inr (List.mem_cons_of_mem _ e)
theorem fold1_low {op : Int → Int → Int} (R : Int → Int → Prop) (rf : ∀ a, R a a) (tr : ∀ a b c, R a b → R b c → R a c) (hl : ∀ a b, R (op a b) a) (hr : ∀ a b, R (op a b) b) (l : List Int) : ∀ x, R (l.foldl op x) x ∧ ∀ y ∈ l, R (l.foldl op x) y := by
  induction l with
  | nil => intro x; exact ⟨rf x, by simp⟩
  | cons y l ih =>
    intro x
    rw [List.foldl_cons]
    obtain ⟨h1, h2⟩ := ih (op x y)
    refine ⟨tr _ _ _ h1 (hl x y), fun z hz => ?_⟩
    rcases List.mem_cons.1 hz with rfl | hz
    · exact tr _ _ _ h1 (hr x z)
    · exact h2 z hz
theorem gt_least {l : List Int} (hl : l ≠ []) {m : Int} (h1 : m ∈ l) (h2 : ∀ y ∈ l, m ≤ y) : gt .least l = m := by
  cases l with
  | nil => exact absurd rfl hl
  | cons x l =>
    obtain ⟨a1, a2⟩ := fold1_low (op := gop .least) (· ≤ ·) Int.le_refl (fun a b c => Int.le_trans) (fun a b => by simp only [gop]; split <;> omega) (fun a b => by simp only [gop]; split <;> omega) l x
    have a3 : l.foldl (gop .least) x ≤ m := by
      rcases List.mem_cons.1 h1 with rfl | h
      · exact a1
      · exact a2 m h
    have a4 : m ≤ l.foldl (gop .least) x := by
      rcases fold1_mem (op := gop .least) (fun a b => by simp only [gop]; split <;> simp) l x with e | e
      · rw [e]; exact h2 x List.mem_cons_self
      · exact h2 _ (List.mem_cons_of_mem _ e)
    exact Int.le_antisymm a3 a4
theorem gt_max {w : Wd} (hw : w ≠ .sum) (hw2 : w ≠ .least) {l : List Int} (hl : l ≠ []) {m : Int} (h1 : m ∈ l) (h2 : ∀ y ∈ l, y ≤ m) : gt w l = m := by
  have e : gop w = gop .most := by cases w <;> first | rfl | contradiction
  cases l with
  | nil => exact absurd rfl hl
  | cons x l =>
    show l.foldl (gop w) x = m
    rw [e]
    obtain ⟨a1, a2⟩ := fold1_low (op := gop .most) (· ≥ ·) Int.le_refl (fun a b c h1 h2 => Int.le_trans h2 h1) (fun a b => by simp only [gop]; split <;> omega) (fun a b => by simp only [gop]; split <;> omega) l x
    have a3 : l.foldl (gop .most) x ≥ m := by
      rcases List.mem_cons.1 h1 with rfl | h
      · exact a1
      · exact a2 m h
    have a4 : m ≥ l.foldl (gop .most) x := by
      rcases fold1_mem (op := gop .most) (fun a b => by simp only [gop]; split <;> simp) l x with e | e
      · rw [e]; exact h2 x List.mem_cons_self
      · exact h2 _ (List.mem_cons_of_mem _ e)
    exact Int.le_antisymm a4 a3
theorem gt_sum (l : List Int) : gt .sum l = l.sum := by
  cases l with
  | nil => rfl
  | cons x l =>
    show l.foldl (gop .sum) x = _
    rw [List.sum_cons]
    induction l generalizing x with
    | nil => show x = x + 0; omega
    | cons y l ih =>
      rw [List.foldl_cons, ih, List.sum_cons]
      show x + y + _ = _
      omega
theorem w_least' (w : Wd) : (w.s == Str.ofString "least") = decide (w = .least) := w_least w
theorem m_gather : Meets t_gather 2 0 sp_gather := by
  rintro args Qd Xd ⟨w, l, rfl, hl, hQ⟩
  show t_gather _ _ [_, _]
  unfold t_gather
  trivial
  simp only [w_sum, w_least, decide_eq_true_eq]
  split
  · rename_i e; subst e
    refine ⟨l, rfl, ?_⟩
    rw [gt_sum] at hQ
    exact hQ _
  · rename_i e1
    split
    · rename_i e; subst e
      refine ⟨l, rfl, hl, fun m h1 h2 => ?_⟩
      have := hQ [dW Wd.least, .ext (.lst (iD l))]
      rw [gt_least hl h1 h2] at this
      exact this
    · rename_i e2
      refine ⟨l, rfl, hl, fun m h1 h2 => ?_⟩
      have := hQ [dW w, .ext (.lst (iD l))]
      rw [gt_max e1 e2 hl h1 h2] at this
      exact this
def D.isInt : D → Bool
  | .int _ => true
  | _ => false
def sp_is_whole : DSpec := fun args Q _ => ∃ (d : D) (k : Nat), args = [.ext d] ∧ D.pl k d = true ∧ ∀ fin, Q (.ext (.bl (D.isInt d))) fin
def t_is_whole : DTS :=
    (sRet (dAndV (dCB fIsi (dCons (dVar 0) (dCons (dC (.val (.ty "int"))) dNil))) (dNotV (dCB fIsi (dCons (dVar 0) (dCons (dC (.val (.ty "bool"))) dNil))))))
theorem m_is_whole : Meets t_is_whole 1 0 sp_is_whole := by
  rintro args Qd Xd ⟨d, k, rfl, hp, hQ⟩
  have nv := pl_noVal k d hp
  show t_is_whole _ _ [_]
  unfold t_is_whole
  cases d with
  | val _ => cases k <;> simp [D.pl] at hp
  | fz _ => cases k <;> simp [D.pl] at hp
  | tk _ => cases k <;> simp [D.pl] at hp
  | exc _ => cases k <;> simp [D.pl] at hp
  | glo _ => cases k <;> simp [D.pl] at hp
  | _ =>
    trivial
    simp only [nv, D.isFz, true_and, Bool.not_true, Bool.not_false]
    exact hQ _
def sp_without : DSpec := fun args Q _ => ∃ (ns : List Nat) (n : Nat), args = [.ext (.tup (nD ns)), dI (n : Nat)] ∧ ns.length ≤ 1000 ∧ ∀ fin, Q (.ext (.tup (nD (wo ns n)))) fin
def e1_without : DT :=
    (dVar 2)
def t_without : DTS :=
    (sRet (dCB fTuple (dCons (dLc (dSeq (dVar 0)) (gSet 2) (dTest (dOp fNe (dVar 2) (dVar 1))) e1_without [2]) dNil)))
theorem q1_without {Q : Sl → Env' → Prop} {s0 : Sl} {n : Nat} (ns : List Nat) : ∀ acc : List Nat, acc.length + ns.length ≤ 1000 → (∀ b, Q (.lst b (nD (acc ++ wo ns n))) [s0, dI (n : Nat), .un]) →
    lcD (gSet 2) (dTest (dOp fNe (dVar 2) (dVar 1))) e1_without [2] (fun _ => True) Q (nD ns) (nD acc) [s0, dI (n : Nat), .un] := by
  induction ns with
  | nil => intro acc _ hQ; exact ⟨True.intro, fun b => by simpa [wo] using hQ b⟩
  | cons x ns ih =>
    intro acc hl hQ
    rw [List.length_cons] at hl
    rw [nD_cons, lcD]
    unfold e1_without
    trivial
    refine ⟨by rw [nD_len]; exact Nat.lt_of_le_of_lt (by omega : acc.length ≤ 1000) (by decide), ?_⟩
    by_cases hx : x = n
    · subst hx
      rw [if_neg (by simp)]
      refine ih acc (by omega) fun b => ?_
      have := hQ b
      rw [wo, List.filter_cons_of_neg (by simp)] at this
      exact this
    · rw [if_pos (by simp; omega)]
      have := ih (acc ++ [x]) (by rw [List.length_append, List.length_singleton]; omega) (fun b => by
        have := hQ b
        rw [wo, List.filter_cons_of_pos (by simpa using hx)] at this
        simpa [wo] using this)
      rw [nD_app] at this
      exact this
theorem m_without : Meets t_without 2 1 sp_without := by
  rintro args Qd Xd ⟨ns, n, rfl, hl, hQ⟩
  show t_without _ _ [_, _, .un]
  unfold t_without
  trivial
  refine q1_without ns [] (by simpa using hl) fun b => ?_
  trivial
  exact hQ _
/-- no name of the part -/
def NotName (p : Part) (d : D) : Prop := ∀ n ∈ p.ns, d ≠ .int (n : Nat)
theorem isIn_int (i : Int) (l : List Int) : (D.int i).isIn (iD l) = decide (i ∈ l) := by
  unfold D.isIn
  induction l with
  | nil => rfl
  | cons x l ih =>
    show (eqV (V.int x) (V.int i) || inV (V.int i) ((iD l).map D.toV)) = _
    rw [show inV (V.int i) ((iD l).map D.toV) = decide (i ∈ l) from ih]
    show (decide (x = i) || _) = _
    by_cases h : x = i
    · subst h; simp
    · have h' : ¬ i = x := fun e => h e.symm
      simp [h, h']
def sp_need_name : DSpec := fun args Q X => (∃ (p : Part) (n : Nat), args = [.ext (dP p), dI (n : Nat)] ∧ n ∈ p.ns ∧ ∀ fin, Q (.ext .non) fin) ∨
  ∃ (p : Part) (d : D) (k : Nat), args = [.ext (dP p), .ext d] ∧ D.pl k d = true ∧ NotName p d ∧ ∀ fin, X "NoName" fin
def t_need_name : DTS :=
    (sIf (dOr (dNot (dTest (dCall sp_is_whole (dCons (dVar 1) dNil)))) (dTest (dOp (fIn true) (dVar 1) (dOp fIx (dVar 0) (dC (.int 0)))))) (sRaise "NoName") sNext)
theorem m_need_name : Meets t_need_name 2 0 sp_need_name := by
  rintro args Qd Xd (⟨p, n, rfl, hn, hQ⟩ | ⟨p, d, k, rfl, hd, hn, hX⟩)
  all_goals
    show t_need_name _ _ [_, _]
    unfold t_need_name
    trivial
  · refine ⟨_, 0, rfl, rfl, fun fin => ?_⟩
    trivial
    rw [if_neg (by simp [D.isInt]), isIn_nat, if_neg (by simpa using hn)]
    exact ⟨rfl, flat_nD _, hQ _⟩
  · refine ⟨_, k, rfl, hd, fun fin => ?_⟩
    trivial
    cases d with
    | int i =>
      rw [if_neg (by simp [D.isInt])]
      trivial
      rw [← iD_nat, isIn_int, if_pos]
      · exact ⟨rfl, by rw [iD_nat]; exact flat_nD _, hX _⟩
      · simp only [Bool.not_eq_true', decide_eq_false_iff_not, List.mem_map, not_exists, not_and]
        rintro n h1 rfl
        exact hn n h1 rfl
    | _ => rw [if_pos (by simp [D.isInt])]; exact hX _
theorem good_app {S ns f : List Nat} {n v : Nat} (h : Good S ns f) (hv : v < sz S n) : Good S (ns ++ [n]) (f ++ [v]) := by
  induction ns generalizing f with
  | nil =>
    have e : f = [] := h
    subst e
    exact ⟨v, [], rfl, hv, rfl⟩
  | cons m ns ih =>
    obtain ⟨u, r, rfl, hu, hr⟩ := h
    exact ⟨u, r ++ [v], rfl, hu, ih hr⟩
theorem ats_app {ns f : List Nat} {n v : Nat} (hl : f.length = ns.length) (hn : n ∉ ns) (m : Nat) (hm : m ∈ ns ∨ m = n) : ats (ns ++ [n]) (f ++ [v]) m = put (ats ns f) n v m := by
  unfold ats put
  by_cases e : m = n
  · subst e
    rw [if_pos rfl, List.idxOf_append, if_neg hn]
    have : List.idxOf m [m] + ns.length = f.length := by simp [hl]
    rw [this]
    simp [List.getD_eq_getElem?_getD]
  · rw [if_neg e]
    have hm' : m ∈ ns := hm.resolve_right e
    rw [List.idxOf_append, if_pos hm']
    have := List.idxOf_lt_length_of_mem hm'
    simp only [List.getD_eq_getElem?_getD]
    rw [List.getElem?_append_left (by omega)]
theorem val_app {S : List Nat} {p : Part} {n v : Nat} {f : List Nat} (hp : p.Ok S) (hl : f.length = (wo p.ns n).length) : val S p (ats (wo p.ns n ++ [n]) (f ++ [v])) = val S p (put (ats (wo p.ns n) f) n v) :=
  val_congr fun m hm => ats_app hl (fun h => (mem_wo.1 h).2 rfl) m (by
    by_cases e : m = n
    · exact .inr e
    · exact .inl (mem_wo.2 ⟨hm, e⟩))
theorem wo_app_nd {ns : List Nat} {n : Nat} (h : Rising ns) : (wo ns n ++ [n]).Nodup := by
  rw [List.nodup_append]
  refine ⟨(wo_rise h).nd, by simp, fun a ha b hb e => ?_⟩
  subst e
  exact (mem_wo.1 ha).2 (List.mem_singleton.1 hb)
def sp_gathered : DSpec := fun args Q X => (∃ (w : Wd) (S : List Nat) (p : Part) (n : Nat), args = [dW w, dSz S, .ext (dP p), dI (n : Nat)] ∧ SzOk S ∧ p.Ok S ∧ n ∈ p.ns ∧ ∀ fin, Q (.ext (dP (gathP S w p n))) fin) ∨
  ∃ (w : Wd) (S : List Nat) (p : Part) (d : D) (k : Nat), args = [dW w, dSz S, .ext (dP p), .ext d] ∧ D.pl k d = true ∧ NotName p d ∧ ∀ fin, X "NoName" fin
def e1_gathered : DT :=
    (dCall sp_worth_by (dCons (dVar 1) (dCons (dVar 2) (dCons (dOp fAdd (dVar 4) (dTup (dCons (dVar 3) dNil))) (dCons (dOp fAdd (dVar 6) (dTup (dCons (dVar 8) dNil))) dNil)))))
def b2_gathered : DTS :=
    (sSeq (sSetE 7 (dLc (dRange1 (dCons (dOp fIx (dVar 1) (dVar 3)) dNil)) (gSet 8) dYes e1_gathered [8]))
    (sDrop (dAppend 5 (dCall sp_gather (dCons (dVar 0) (dCons (dVar 7) dNil))))))
def k3_gathered : DTS :=
    (sRet (dTup (dCons (dVar 4) (dCons (dCB fTuple (dCons (dVar 5) dNil)) dNil))))
def t_gathered : DTS :=
    (sSeq (sDrop (dCall sp_need_name (dCons (dVar 2) (dCons (dVar 3) dNil))))
    (sSeq (sSetE 4 (dCall sp_without (dCons (dOp fIx (dVar 2) (dC (.int 0))) (dCons (dVar 3) dNil))))
    (sSeq (sSet 5 (dLst dNil))
    (sSeq (sFor (dSeq (dCall sp_fillings_of (dCons (dVar 1) (dCons (dVar 4) dNil)))) (gSet 6) b2_gathered)
    k3_gathered))))
theorem q1_gathered {Q : Sl → Env' → Prop} {s0 s5 s7 : Sl} {S : List Nat} {p : Part} {n : Nat} {f : List Nat} (hS : SzOk S) (hp : p.Ok S) (hn : n ∈ p.ns) (hf : Good S (wo p.ns n) f) (vs : List Nat) : ∀ acc : List Int, acc.length + vs.length ≤ 1000 → (∀ v ∈ vs, v < sz S n) →
    (∀ b, Q (.lst b (iD (acc ++ vs.map fun v => val S p (put (ats (wo p.ns n) f) n v)))) [s0, dSz S, .ext (dP p), dI (n : Nat), .ext (.tup (nD (wo p.ns n))), s5, .ext (.tup (nD f)), s7, .un]) →
    lcD (gSet 8) dYes e1_gathered [8] (fun _ => True) Q (nD vs) (iD acc) [s0, dSz S, .ext (dP p), dI (n : Nat), .ext (.tup (nD (wo p.ns n))), s5, .ext (.tup (nD f)), s7, .un] := by
  induction vs with
  | nil => intro acc _ _ hQ; exact ⟨True.intro, fun b => by simpa using hQ b⟩
  | cons v vs ih =>
    intro acc hl hv hQ
    rw [List.length_cons] at hl
    have hw : (wo p.ns n).length ≤ 24 := Nat.le_trans (rising_len (wo_rise hp.rise) fun m hm => hp.lt m (mem_wo.1 hm).1) hS.few
    have hfl := hf.len
    rw [nD_cons, lcD]
    unfold e1_gathered
    trivial
    rw [nD_len, nD_len]
    have hv0 := hv v List.mem_cons_self
    refine ⟨by rw [iD_len]; exact Nat.lt_of_le_of_lt (by omega : acc.length ≤ 1000) (by decide), by decide, Nat.le_trans (by omega : (wo p.ns n).length + (0 + 1) ≤ 100) (by decide), by decide, Nat.le_trans (by omega : f.length + (0 + 1) ≤ 100) (by decide), ?_⟩
    refine ⟨S, p, wo p.ns n ++ [n], f ++ [v], by simp, hS, hp, wo_app_nd hp.rise, fun m hm => ?_, good_app hf hv0, fun fin => ?_⟩
    · by_cases e : m = n
      · simp [e]
      · exact List.mem_append_left _ (mem_wo.2 ⟨hm, e⟩)
    trivial
    rw [val_app hp hfl]
    have := ih (acc ++ [val S p (put (ats (wo p.ns n) f) n v)]) (by rw [List.length_append, List.length_singleton]; omega) (fun u hu => hv u (List.mem_cons_of_mem _ hu)) (fun b => by simpa using hQ b)
    rw [iD_app] at this
    exact this
theorem q2_gathered {Ex : DX} {E : DEnds} {w : Wd} {S : List Nat} {p : Part} {n : Nat} {a5 : Addr} (hS : SzOk S) (hp : p.Ok S) (hn : n ∈ p.ns) (fs : List (List Nat)) : ∀ (acc : List Int) (s6 s7 : Sl), (∀ f ∈ fs, Good S (wo p.ns n) f) → acc.length + fs.length ≤ 5000 →
    (∀ u6 u7, E.nx [dW w, dSz S, .ext (dP p), dI (n : Nat), .ext (.tup (nD (wo p.ns n))), .lst a5 (iD (acc ++ fs.map fun f => gt w ((List.range (sz S n)).map fun v => val S p (put (ats (wo p.ns n) f) n v)))), u6, u7, .un]) →
    forD (gSet 6) b2_gathered (fun _ => True) Ex E (fD fs) [dW w, dSz S, .ext (dP p), dI (n : Nat), .ext (.tup (nD (wo p.ns n))), .lst a5 (iD acc), s6, s7, .un] := by
  induction fs with
  | nil => intro acc s6 s7 _ _ hE; exact ⟨True.intro, by simpa using hE s6 s7⟩
  | cons f fs ih =>
    intro acc s6 s7 hg hl hE
    rw [List.length_cons] at hl
    have hf := hg f List.mem_cons_self
    have hnS := hp.lt n hn
    have hz := hS.pos _ (sz_mem hnS)
    have hz4 := hS.small _ (sz_mem hnS)
    rw [fD_cons, forD]
    unfold b2_gathered
    trivial
    refine ⟨_, atN (sz_at hnS), ?_⟩
    trivial
    refine ⟨⟨by omega, by omega⟩, ?_⟩
    rw [rgD_nat]
    refine q1_gathered hS hp hn hf (List.range (sz S n)) [] (by simp; omega) (fun v hv => List.mem_range.1 hv) fun b => ?_
    trivial
    refine ⟨w, _, rfl, by simpa using range_ne hz, fun fin => ?_⟩
    trivial
    refine ⟨by rw [iD_len]; exact Nat.lt_of_le_of_lt (by omega : acc.length ≤ 5000) (by decide), ?_⟩
    have := ih (acc ++ [gt w ((List.range (sz S n)).map fun v => val S p (put (ats (wo p.ns n) f) n v))]) (.ext (.tup (nD f))) (.ext (.lst (iD ((List.range (sz S n)).map fun v => val S p (put (ats (wo p.ns n) f) n v))))) (fun g h => hg g (List.mem_cons_of_mem _ h)) (by rw [List.length_append, List.length_singleton]; omega) (fun u6 u7 => by simpa using hE u6 u7)
    rw [iD_app] at this
    exact this
theorem wo_both {S : List Nat} {p : Part} {n : Nat} (hS : SzOk S) (hp : p.Ok S) : ∀ m ∈ wo p.ns n, m < S.length ∧ 0 < sz S m := fun m hm => Part.Ok.both hS hp m (mem_wo.1 hm).1
theorem wo_psz {S : List Nat} {p : Part} {n : Nat} (hS : SzOk S) (hp : p.Ok S) : psz S (wo p.ns n) ≤ 4096 := Nat.le_trans (psz_le hS.pos (wo_rise hp.rise) fun m hm => hp.lt m (mem_wo.1 hm).1) hS.prod
theorem wo_len {S : List Nat} {p : Part} {n : Nat} (hS : SzOk S) (hp : p.Ok S) : (wo p.ns n).length ≤ 24 := Nat.le_trans (rising_len (wo_rise hp.rise) fun m hm => hp.lt m (mem_wo.1 hm).1) hS.few
theorem ok_len {S : List Nat} {p : Part} (hS : SzOk S) (hp : p.Ok S) : p.ns.length ≤ 24 := Nat.le_trans (rising_len hp.rise hp.lt) hS.few
theorem m_gathered : Meets t_gathered 4 5 sp_gathered := by
  rintro args Qd Xd (⟨w, S, p, n, rfl, hS, hp, hn, hQ⟩ | ⟨w, S, p, d, k, rfl, hd, hn, hX⟩)
  all_goals
    show t_gathered _ _ [_, _, _, _, .un, .un, .un, .un, .un]
    unfold t_gathered
    trivial
  rotate_left
  · exact .inr ⟨p, d, k, rfl, hd, hn, fun fin => hX _⟩
  refine .inl ⟨p, n, rfl, hn, fun fin => ?_⟩
  trivial
  refine ⟨p.ns, n, rfl, by have := ok_len hS hp; omega, fun fin => ?_⟩
  trivial
  refine ⟨by decide, fun a5 => ⟨S, wo p.ns n, fArgs_tt, wo_both hS hp, wo_psz hS hp, by have := wo_len (n := n) hS hp; omega, fun fin => ?_⟩⟩
  trivial
  refine q2_gathered hS hp hn (fills S (wo p.ns n)) [] _ _ (fun f hf => mem_fills.1 hf) (by rw [len_fills]; have := wo_psz (n := n) hS hp; simp; omega) fun u6 u7 => ?_
  unfold k3_gathered
  trivial
  exact ⟨by decide, hQ _⟩
/-- no worth below z -/
def NotBelow (z : Nat) (d : D) : Prop := ∀ v : Nat, v < z → d ≠ .int (v : Nat)
def sp_settled : DSpec := fun args Q X => (∃ (S : List Nat) (p : Part) (n v : Nat), args = [dSz S, .ext (dP p), dI (n : Nat), dI (v : Nat)] ∧ SzOk S ∧ p.Ok S ∧ n ∈ p.ns ∧ v < sz S n ∧ ∀ fin, Q (.ext (dP (setP S p n v))) fin) ∨
  (∃ (S : List Nat) (p : Part) (d e : D) (k : Nat), args = [dSz S, .ext (dP p), .ext d, .ext e] ∧ D.pl k d = true ∧ NotName p d ∧ ∀ fin, X "NoName" fin) ∨
  ∃ (S : List Nat) (p : Part) (n : Nat) (e : D) (k : Nat), args = [dSz S, .ext (dP p), dI (n : Nat), .ext e] ∧ p.Ok S ∧ n ∈ p.ns ∧ D.pl k e = true ∧ NotBelow (sz S n) e ∧ ∀ fin, X "NoFilling" fin
def e1_settled : DT :=
    (dCall sp_worth_by (dCons (dVar 0) (dCons (dVar 1) (dCons (dOp fAdd (dVar 4) (dTup (dCons (dVar 2) dNil))) (dCons (dOp fAdd (dVar 6) (dTup (dCons (dVar 3) dNil))) dNil)))))
def t_settled : DTS :=
    (sSeq (sDrop (dCall sp_need_name (dCons (dVar 1) (dCons (dVar 2) dNil))))
    (sSeq (sIf (dOr (dNot (dTest (dCall sp_is_whole (dCons (dVar 3) dNil)))) (dNot (dTest (dChain (fCmp fun i j => decide (i ≤ j)) (fCmp fun i j => decide (i < j)) (dC (.int 0)) (dVar 3) (dOp fIx (dVar 0) (dVar 2)))))) (sRaise "NoFilling") sNext)
    (sSeq (sSetE 4 (dCall sp_without (dCons (dOp fIx (dVar 1) (dC (.int 0))) (dCons (dVar 2) dNil))))
    (sSeq (sSetE 5 (dCall sp_fillings_of (dCons (dVar 0) (dCons (dVar 4) dNil))))
    (sRet (dTup (dCons (dVar 4) (dCons (dCB fTuple (dCons (dLc (dSeq (dVar 5)) (gSet 6) dYes e1_settled [6]) dNil)) dNil))))))))
theorem q1_settled {Q : Sl → Env' → Prop} {s5 : Sl} {S : List Nat} {p : Part} {n v : Nat} (hS : SzOk S) (hp : p.Ok S) (hn : n ∈ p.ns) (hv : v < sz S n) (fs : List (List Nat)) : ∀ acc : List Int, acc.length + fs.length ≤ 5000 → (∀ f ∈ fs, Good S (wo p.ns n) f) →
    (∀ b, Q (.lst b (iD (acc ++ fs.map fun f => val S p (put (ats (wo p.ns n) f) n v)))) [dSz S, .ext (dP p), dI (n : Nat), dI (v : Nat), .ext (.tup (nD (wo p.ns n))), s5, .un]) →
    lcD (gSet 6) dYes e1_settled [6] (fun _ => True) Q (fD fs) (iD acc) [dSz S, .ext (dP p), dI (n : Nat), dI (v : Nat), .ext (.tup (nD (wo p.ns n))), s5, .un] := by
  induction fs with
  | nil => intro acc _ _ hQ; exact ⟨True.intro, fun b => by simpa using hQ b⟩
  | cons f fs ih =>
    intro acc hl hg hQ
    rw [List.length_cons] at hl
    have hf := hg f List.mem_cons_self
    have hw : (wo p.ns n).length ≤ 24 := wo_len hS hp
    have hfl := hf.len
    rw [fD_cons, lcD]
    unfold e1_settled
    trivial
    rw [nD_len, nD_len]
    refine ⟨by rw [iD_len]; exact Nat.lt_of_le_of_lt (by omega : acc.length ≤ 5000) (by decide), by decide, Nat.le_trans (by omega : (wo p.ns n).length + (0 + 1) ≤ 100) (by decide), by decide, Nat.le_trans (by omega : f.length + (0 + 1) ≤ 100) (by decide), ?_⟩
    refine ⟨S, p, wo p.ns n ++ [n], f ++ [v], by simp, hS, hp, wo_app_nd hp.rise, fun m hm => ?_, good_app hf hv, fun fin => ?_⟩
    · by_cases e : m = n
      · simp [e]
      · exact List.mem_append_left _ (mem_wo.2 ⟨hm, e⟩)
    trivial
    rw [val_app hp hfl]
    have := ih (acc ++ [val S p (put (ats (wo p.ns n) f) n v)]) (by rw [List.length_append, List.length_singleton]; omega) (fun u hu => hg u (List.mem_cons_of_mem _ hu)) (fun b => by simpa using hQ b)
    rw [iD_app] at this
    exact this
theorem m_settled : Meets t_settled 4 3 sp_settled := by
  rintro args Qd Xd (⟨S, p, n, v, rfl, hS, hp, hn, hv, hQ⟩ | ⟨S, p, d, e, k, rfl, hd, hn, hX⟩ | ⟨S, p, n, e, k, rfl, hp, hn, hd, hv, hX⟩)
  all_goals
    show t_settled _ _ [_, _, _, _, .un, .un, .un]
    unfold t_settled
    trivial
  rotate_left
  · exact .inr ⟨p, d, k, rfl, hd, hn, fun fin => hX _⟩
  · refine .inl ⟨p, n, rfl, hn, fun fin => ?_⟩
    trivial
    refine ⟨_, k, rfl, hd, fun fin => ?_⟩
    trivial
    cases e with
    | int i =>
      rw [if_neg (by simp [D.isInt])]
      trivial
      by_cases h0 : 0 ≤ i
      · rw [if_pos h0]
        refine ⟨_, atN (sz_at (hp.lt n hn)), ?_⟩
        trivial
        rw [if_pos]
        · exact hX _
        · simp only [Bool.not_eq_true', decide_eq_false_iff_not]
          intro h1
          exact hv i.toNat (by omega) (by rw [Int.toNat_of_nonneg h0])
      · rw [if_neg h0]
        exact hX _
    | _ => rw [if_pos (by simp [D.isInt])]; exact hX _
  refine .inl ⟨p, n, rfl, hn, fun fin => ?_⟩
  trivial
  refine ⟨_, 0, rfl, rfl, fun fin => ?_⟩
  trivial
  rw [if_neg (by simp [D.isInt])]
  trivial
  rw [if_pos (by omega)]
  refine ⟨_, atN (sz_at (hp.lt n hn)), ?_⟩
  trivial
  rw [if_neg (by simp; omega)]
  trivial
  refine ⟨p.ns, n, rfl, by have := ok_len hS hp; omega, fun fin => ?_⟩
  trivial
  refine ⟨S, wo p.ns n, fArgs_tt, wo_both hS hp, wo_psz hS hp, by have := wo_len (n := n) hS hp; omega, fun fin => ?_⟩
  trivial
  refine q1_settled hS hp hn hv (fills S (wo p.ns n)) [] (by rw [len_fills]; have := wo_psz (n := n) hS hp; simp; omega) (fun f hf => mem_fills.1 hf) fun b => ?_
  trivial
  exact ⟨by decide, hQ _⟩
/-! ### names -/
def NamesD (many : Int) (d : D) : Prop := ∃ ns : List Nat, d = .tup (nD ns) ∧ Rising ns ∧ ∀ n ∈ ns, (n : Int) < many
def inR (many : Int) : D → Bool
  | .int i => decide (0 ≤ i) && decide (i < many)
  | _ => false
theorem all_inR {many : Int} {ds : List D} (h : ds.all (inR many) = true) : ∃ ns : List Nat, ds = nD ns ∧ ∀ n ∈ ns, (n : Int) < many := by
  induction ds with
  | nil => exact ⟨[], rfl, by simp⟩
  | cons d ds ih =>
    rw [List.all_cons, Bool.and_eq_true] at h
    obtain ⟨ns, rfl, h2⟩ := ih h.2
    cases d with
    | int i =>
      have h1 : decide (0 ≤ i) && decide (i < many) := h.1
      rw [Bool.and_eq_true, decide_eq_true_eq, decide_eq_true_eq] at h1
      refine ⟨i.toNat :: ns, ?_, fun n hn => ?_⟩
      · rw [nD_cons, Int.toNat_of_nonneg h1.1]
      · rcases List.mem_cons.1 hn with rfl | hn
        · omega
        · exact h2 n hn
    | _ => exact absurd h.1 (by simp [inR])
theorem inR_all {many : Int} {ns : List Nat} (h : ∀ n ∈ ns, (n : Int) < many) : (nD ns).all (inR many) = true := by
  rw [List.all_eq_true]
  intro d hd
  obtain ⟨n, hn, rfl⟩ := List.mem_map.1 hd
  have := h n hn
  simp [inR]; omega
theorem rising_adj {ns : List Nat} : Rising ns ↔ ∀ k, k + 1 < ns.length → ns.getD k 0 < ns.getD (k + 1) 0 := by
  induction ns with
  | nil => exact ⟨fun _ k hk => by simp at hk, fun _ => .nil⟩
  | cons x ns ih =>
    unfold Rising at *
    rw [List.pairwise_cons, ih]
    constructor
    · rintro ⟨h1, h2⟩ k hk
      cases k with
      | zero =>
        cases ns with
        | nil => simp at hk
        | cons y ns => simpa using h1 y List.mem_cons_self
      | succ k => simpa using h2 k (by simpa using hk)
    · intro h
      refine ⟨?_, fun k hk => by simpa using h (k + 1) (by simpa using hk)⟩
      have h2 : ∀ k, k < ns.length → x < ns.getD k 0 := by
        intro k
        induction k with
        | zero =>
          intro hk
          have := h 0 (by simp; omega)
          simpa using this
        | succ k ihk =>
          intro hk
          have a := ihk (by omega)
          have b := h (k + 1) (by simp; omega)
          have b' : ns.getD k 0 < ns.getD (k + 1) 0 := by simpa using b
          omega
      intro y hy
      obtain ⟨i, hi, rfl⟩ := List.getElem_of_mem hy
      have := h2 i hi
      simpa [List.getD_eq_getElem?_getD, List.getElem?_eq_getElem hi] using this
theorem nD_inj {a b : List Nat} (h : nD a = nD b) : a = b := by
  induction a generalizing b with
  | nil => cases b with
    | nil => rfl
    | cons y b => simp at h
  | cons x a ih => cases b with
    | nil => simp at h
    | cons y b =>
      rw [nD_cons, nD_cons] at h
      have h1 := (List.cons.inj h).1
      have h2 := ih (List.cons.inj h).2
      have h3 := D.int.inj h1
      rw [h2, show x = y by omega]
def sp_are_names : DSpec := fun args Q _ => ∃ (many : Int) (d : D) (k : Nat), args = [dI many, .ext d] ∧ D.pl k d = true ∧ ∀ (b : Bool) fin, (b = true ↔ NamesD many d) → Q (.ext (.bl b)) fin
def e1_are_names : DT :=
    (dAndV (dCall sp_is_whole (dCons (dVar 2) dNil)) (dChain (fCmp fun i j => decide (i ≤ j)) (fCmp fun i j => decide (i < j)) (dC (.int 0)) (dVar 2) (dVar 0)))
def e2_are_names : DT :=
    (dOp (fCmp fun i j => decide (i < j)) (dOp fIx (dVar 1) (dOp fSub (dVar 3) (dC (.int 1)))) (dOp fIx (dVar 1) (dVar 3)))
def t_are_names : DTS :=
    (sSeq (sIf (dOr (dNot (dTest (dCB fIsi (dCons (dVar 1) (dCons (dC (.val (.ty "tuple"))) dNil))))) (dNot (dTest (dCB fAll (dCons (dLc (dSeq (dVar 1)) (gSet 2) dYes e1_are_names [2]) dNil))))) (sRet (dC (.bl false))) sNext)
    (sRet (dCB fAll (dCons (dLc (dRange2 (dCons (dC (.int 1)) (dCons (dCB fLen (dCons (dVar 1) dNil)) dNil))) (gSet 3) dYes e2_are_names [3]) dNil))))
theorem q1_are_names {Q : Sl → Env' → Prop} {many : Int} {s1 s3 : Sl} {k : Nat} (ds : List D) : ∀ acc : List Bool, (∀ d ∈ ds, D.pl k d = true) → acc.length + ds.length ≤ 200000 → (∀ b, Q (.lst b ((acc ++ ds.map (inR many)).map D.bl)) [dI many, s1, .un, s3]) →
    lcD (gSet 2) dYes e1_are_names [2] (fun _ => True) Q ds (acc.map D.bl) [dI many, s1, .un, s3] := by
  induction ds with
  | nil => intro acc _ _ hQ; exact ⟨True.intro, fun b => by simpa using hQ b⟩
  | cons d ds ih =>
    intro acc hp hl hQ
    rw [List.length_cons] at hl
    rw [lcD]
    unfold e1_are_names
    trivial
    refine ⟨by rw [List.length_map]; exact Nat.lt_of_le_of_lt (by omega : acc.length ≤ 200000) (by decide), d, k, rfl, hp d List.mem_cons_self, fun fin => ?_⟩
    trivial
    have next : ∀ b : Bool, b = inR many d → lcD (gSet 2) dYes e1_are_names [2] (fun _ => True) Q ds (acc.map D.bl ++ [.bl b]) [dI many, s1, .un, s3] := by
      intro b hb
      have := ih (acc ++ [b]) (fun e he => hp e (List.mem_cons_of_mem _ he)) (by rw [List.length_append, List.length_singleton]; omega) (fun a => by rw [hb]; simpa using hQ a)
      rw [List.map_append] at this
      exact this
    cases d with
    | int i =>
      rw [if_pos (show D.isInt (.int i) = true from rfl)]
      trivial
      split
      · refine next _ ?_
        rename_i h0
        simp [inR, h0]
      · refine next _ ?_
        rename_i h0
        simp [inR, h0]
    | _ =>
      rw [if_neg (by simp [D.isInt])]
      exact next _ rfl
theorem q2_are_names {Q : Sl → Env' → Prop} {s0 s2 : Sl} {ns : List Nat} (m : Nat) : ∀ (j : Nat) (acc : List Bool), j + m = ns.length - 1 → acc.length = j → ns.length ≤ 200000 → (∀ b, Q (.lst b ((acc ++ (List.range m).map fun i => decide (ns.getD (j + i) 0 < ns.getD (j + i + 1) 0)).map D.bl)) [s0, .ext (.tup (nD ns)), s2, .un]) →
    lcD (gSet 3) dYes e2_are_names [3] (fun _ => True) Q ((List.range m).map fun i => D.int (1 + ((j + i : Nat) : Int))) (acc.map D.bl) [s0, .ext (.tup (nD ns)), s2, .un] := by
  induction m with
  | zero => intro j acc _ _ _ hQ; exact ⟨True.intro, fun b => by simpa using hQ b⟩
  | succ m ih =>
    intro j acc hj ha hl hQ
    rw [List.range_succ_eq_map, List.map_cons, List.map_map, lcD]
    unfold e2_are_names
    trivial
    refine ⟨by rw [List.length_map]; exact Nat.lt_of_le_of_lt (by omega : acc.length ≤ 200000) (by decide), ?_⟩
    rw [show (1 + ((j + 0 : Nat) : Int) - 1) = ((j : Nat) : Int) by omega, show (1 + ((j + 0 : Nat) : Int)) = ((j + 1 : Nat) : Int) by omega]
    refine ⟨_, atN (getD_at (g := ns) (n := j) (by omega)), ?_⟩
    trivial
    refine ⟨_, atN (getD_at (g := ns) (n := j + 1) (by omega)), ?_⟩
    trivial
    have := ih (j + 1) (acc ++ [decide (ns.getD j 0 < ns.getD (j + 1) 0)]) (by omega) (by simp; omega) hl (fun b => by
      have := hQ b
      rw [List.range_succ_eq_map, List.map_cons, List.map_map] at this
      rw [List.append_assoc]
      have e : ((List.range m).map fun i => decide (ns.getD (j + 1 + i) 0 < ns.getD (j + 1 + i + 1) 0)) = (List.range m).map ((fun i => decide (ns.getD (j + i) 0 < ns.getD (j + i + 1) 0)) ∘ Nat.succ) :=
        List.map_congr_left fun i _ => by show _ = decide (ns.getD (j + (i + 1)) 0 < ns.getD (j + (i + 1) + 1) 0); rw [show j + 1 + i = j + (i + 1) by omega]
      rw [e]
      exact this)
    rw [List.map_append] at this
    have e : ((List.range m).map ((fun i : Nat => D.int (1 + ((j + i : Nat) : Int))) ∘ Nat.succ)) = (List.range m).map fun i : Nat => D.int (1 + ((j + 1 + i : Nat) : Int)) :=
      List.map_congr_left fun i _ => by show D.int (1 + ((j + (i + 1) : Nat) : Int)) = _; rw [show j + 1 + i = j + (i + 1) by omega]
    rw [e]
    have e2 : decide (((ns.getD j 0 : Nat) : Int) < ((ns.getD (j + 1) 0 : Nat) : Int)) = decide (ns.getD j 0 < ns.getD (j + 1) 0) := by
      simp
    rw [e2]
    exact this
theorem m_are_names : Meets t_are_names 2 2 sp_are_names := by
  rintro args Qd Xd ⟨many, d, k, rfl, hp, hQ⟩
  have nv := pl_noVal k d hp
  show t_are_names _ _ [_, _, .un, .un]
  unfold t_are_names
  cases d with
  | val _ => cases k <;> simp [D.pl] at hp
  | fz _ => cases k <;> simp [D.pl] at hp
  | tk _ => cases k <;> simp [D.pl] at hp
  | exc _ => cases k <;> simp [D.pl] at hp
  | glo _ => cases k <;> simp [D.pl] at hp
  | tup ds =>
    cases k with
    | zero => simp [D.pl] at hp
    | succ k =>
      rw [D.pl, Bool.and_eq_true, List.all_eq_true, decide_eq_true_eq] at hp
      trivial
      simp only [nv, D.isFz, true_and, Bool.not_true, Bool.false_eq_true, if_false]
      refine q1_are_names (k := k) ds [] hp.2 (by simp; omega) fun b => ?_
      trivial
      refine ⟨ds.map (inR many), rfl, ?_⟩
      have ea : (ds.map (inR many)).all id = ds.all (inR many) := by rw [List.all_map]; rfl
      rw [ea]
      by_cases h : ds.all (inR many) = true
      · rw [h, if_neg (by simp)]
        obtain ⟨ns, rfl, hns⟩ := all_inR h
        rw [nD_len] at *
        trivial
        refine ⟨⟨by omega, by omega⟩, ⟨by omega, by omega⟩, ?_⟩
        have er : rgD 1 (ns.length : Int) = (List.range (ns.length - 1)).map fun i : Nat => D.int (1 + ((0 + i : Nat) : Int)) := by
          unfold rgD
          rw [show ((ns.length : Int) - 1).toNat = ns.length - 1 by omega]
          exact List.map_congr_left fun i _ => by rw [Nat.zero_add]
        rw [er]
        refine q2_are_names (ns.length - 1) 0 [] (by omega) rfl (by omega) fun b => ?_
        trivial
        refine ⟨_, rfl, ?_⟩
        refine hQ _ _ ?_
        rw [List.all_map, List.all_eq_true]
        constructor
        · intro hr
          refine ⟨ns, rfl, rising_adj.2 fun j hj => ?_, hns⟩
          have := hr j (List.mem_range.2 (by omega))
          simpa using this
        · rintro ⟨ns', e, hr, _⟩ j hj
          have e' : ns = ns' := by
            have := D.tup.inj e
            exact nD_inj this
          subst e'
          have := rising_adj.1 hr j (by have := List.mem_range.1 hj; omega)
          simpa using this
      · have hf : ds.all (inR many) = false := by simpa using h
        rw [hf, if_pos (by simp)]
        refine hQ _ _ ⟨fun z => by simp at z, ?_⟩
        rintro ⟨ns, e, _, hn⟩
        have e := D.tup.inj e
        subst e
        exact absurd (inR_all hn) h
  | _ =>
    trivial
    simp only [nv, D.isFz, true_and, Bool.not_false, if_true]
    exact hQ _ _ ⟨fun z => by simp at z, fun ⟨_, e, _⟩ => by simp at e⟩
def sp_need_names : DSpec := fun args Q X => ∃ (many : Int) (d : D) (k : Nat), args = [dI many, .ext d] ∧ D.pl k d = true ∧ (NamesD many d → ∀ fin, Q (.ext .non) fin) ∧ (¬ NamesD many d → ∀ fin, X "NoName" fin)
def t_need_names : DTS :=
    (sIf (dNot (dTest (dCall sp_are_names (dCons (dVar 0) (dCons (dVar 1) dNil))))) (sRaise "NoName") sNext)
theorem m_need_names : Meets t_need_names 2 0 sp_need_names := by
  rintro args Qd Xd ⟨many, d, k, rfl, hp, hQ, hX⟩
  show t_need_names _ _ [_, _]
  unfold t_need_names
  trivial
  refine ⟨many, d, k, rfl, hp, fun b fin hb => ?_⟩
  trivial
  by_cases hn : NamesD many d
  · rw [hb.2 hn, if_neg (by simp)]
    exact hQ hn _
  · rw [if_pos (by cases b with
      | true => exact absurd (hb.1 rfl) hn
      | false => rfl)]
    exact hX hn _
def sp_widened : DSpec := fun args Q X => (∃ (S : List Nat) (p : Part) (ns : List Nat), args = [dSz S, .ext (dP p), .ext (.tup (nD ns))] ∧ SzOk S ∧ p.Ok S ∧ Rising ns ∧ (∀ n ∈ ns, n < S.length) ∧ ∀ U fin, Uni U p.ns ns → Q (.ext (dP (widP S p U))) fin) ∨
  ∃ (S : List Nat) (p : Part) (d : D) (k : Nat), args = [dSz S, .ext (dP p), .ext d] ∧ D.pl k d = true ∧ ¬ NamesD (S.length : Nat) d ∧ ∀ fin, X "NoName" fin
def e1_widened : DT :=
    (dCall sp_worth_by (dCons (dVar 0) (dCons (dVar 1) (dCons (dVar 3) (dCons (dVar 4) dNil)))))
def t_widened : DTS :=
    (sSeq (sDrop (dCall sp_need_names (dCons (dCB fLen (dCons (dVar 0) dNil)) (dCons (dVar 2) dNil))))
    (sSeq (sSetE 3 (dCB fTuple (dCons (dSortSet (dOp fAdd (dOp fIx (dVar 1) (dC (.int 0))) (dVar 2))) dNil)))
    (sRet (dTup (dCons (dVar 3) (dCons (dCB fTuple (dCons (dLc (dSeq (dCall sp_fillings_of (dCons (dVar 0) (dCons (dVar 3) dNil)))) (gSet 4) dYes e1_widened [4]) dNil)) dNil))))))
theorem q1_widened {Q : Sl → Env' → Prop} {s2 : Sl} {S U : List Nat} {p : Part} (hS : SzOk S) (hp : p.Ok S) (hU : U.Nodup) (hs : ∀ m ∈ p.ns, m ∈ U) (fs : List (List Nat)) : ∀ acc : List Int, acc.length + fs.length ≤ 5000 → (∀ f ∈ fs, Good S U f) →
    (∀ b, Q (.lst b (iD (acc ++ fs.map fun f => val S p (ats U f)))) [dSz S, .ext (dP p), s2, .ext (.tup (nD U)), .un]) →
    lcD (gSet 4) dYes e1_widened [4] (fun _ => True) Q (fD fs) (iD acc) [dSz S, .ext (dP p), s2, .ext (.tup (nD U)), .un] := by
  induction fs with
  | nil => intro acc _ _ hQ; exact ⟨True.intro, fun b => by simpa using hQ b⟩
  | cons f fs ih =>
    intro acc hl hg hQ
    rw [List.length_cons] at hl
    have hf := hg f List.mem_cons_self
    rw [fD_cons, lcD]
    unfold e1_widened
    trivial
    refine ⟨by rw [iD_len]; exact Nat.lt_of_le_of_lt (by omega : acc.length ≤ 5000) (by decide), S, p, U, f, rfl, hS, hp, hU, hs, hf, fun fin => ?_⟩
    trivial
    have := ih (acc ++ [val S p (ats U f)]) (by rw [List.length_append, List.length_singleton]; omega) (fun u hu => hg u (List.mem_cons_of_mem _ hu)) (fun b => by simpa using hQ b)
    rw [iD_app] at this
    exact this
theorem pl_tupN (ns : List Nat) (h : ns.length ≤ 100000) : D.pl 1 (.tup (nD ns)) = true := by
  simp only [D.pl, pl_nats, nD_len, h]
  rfl
theorem m_widened : Meets t_widened 3 2 sp_widened := by
  rintro args Qd Xd (⟨S, p, ns, rfl, hS, hp, hr, hns, hQ⟩ | ⟨S, p, d, k, rfl, hd, hn, hX⟩)
  all_goals
    show t_widened _ _ [_, _, _, .un, .un]
    unfold t_widened
    trivial
  rotate_left
  · rw [nD_len]
    exact ⟨(S.length : Int), d, k, rfl, hd, fun z => absurd z hn, fun _ fin => hX _⟩
  have h1 := ok_len hS hp
  have h2 := rising_len hr hns
  have h3 := hS.few
  rw [nD_len]
  refine ⟨(S.length : Int), .tup (nD ns), 1, rfl, pl_tupN ns (by omega), fun _ fin => ?_, fun z => absurd ⟨ns, rfl, hr, fun n hn => by have := hns n hn; omega⟩ z⟩
  trivial
  refine ⟨by rw [nD_len, nD_len]; exact Nat.le_trans (by omega : p.ns.length + ns.length ≤ 100) (by decide), (p.ns ++ ns).map (fun n : Nat => (n : Int)), by rw [← nD_app]; exact (iD_nat _).symm, by rw [List.length_map, List.length_append]; omega, fun ns' hs hmem => ?_⟩
  obtain ⟨U, rfl, hur, hu⟩ := nat_of_set hs hmem
  rw [show List.map D.int (List.map (fun n : Nat => (n : Int)) U) = nD U from iD_nat U]
  have hU : Uni U p.ns ns := ⟨hur, fun n => (hu n).trans List.mem_append⟩
  have hUl : ∀ n ∈ U, n < S.length := fun n hn => by
    rcases (hU.2 n).1 hn with h | h
    · exact hp.lt n h
    · exact hns n h
  have hps : psz S U ≤ 4096 := Nat.le_trans (psz_le hS.pos hur hUl) hS.prod
  trivial
  refine ⟨S, U, fArgs_tt, fun n hn => ⟨hUl n hn, hS.pos _ (sz_mem (hUl n hn))⟩, hps, by have := rising_len hur hUl; omega, fun fin => ?_⟩
  trivial
  refine q1_widened hS hp hur.nd (fun m hm => (hU.2 m).2 (.inl hm)) (fills S U) [] (by rw [len_fills]; simp; omega) (fun f hf => mem_fills.1 hf) fun b => ?_
  trivial
  exact ⟨by decide, hQ U _ hU⟩
/-! ### the law's own gathering -/
def sp_law_gather : DSpec := sp_gather
def b1_law_gather : DTS :=
    (sIf (dTest (dOp fEq (dVar 0) (dC (.str (Str.ofString "sum"))))) (sSetE 2 (dOp fAdd (dVar 2) (dVar 3))) (sIf (dTest (dOp fEq (dOp (fCmp fun i j => decide (i < j)) (dVar 3) (dVar 2)) (dOp fEq (dVar 0) (dC (.str (Str.ofString "least")))))) (sSetE 2 (dVar 3)) sNext))
def k2_law_gather : DTS :=
    (sRet (dVar 2))
def t_law_gather : DTS :=
    (sSeq (sSetE 2 (dOp fIx (dVar 1) (dC (.int 0))))
    (sSeq (sFor (dSeq (dSl (dVar 1) (dPart (dC (.int 1))) dNoPart)) (gSet 3) b1_law_gather)
    k2_law_gather))
theorem q1_law_gather {Ex : DX} {E : DEnds} {w : Wd} {s1 : Sl} (l : List Int) : ∀ (x : Int) (s3 : Sl), (∀ u3, E.nx [dW w, s1, dI (l.foldl (gop w) x), u3]) →
    forD (gSet 3) b1_law_gather (fun _ => True) Ex E (iD l) [dW w, s1, dI x, s3] := by
  induction l with
  | nil => intro x s3 hE; exact ⟨True.intro, hE s3⟩
  | cons y l ih =>
    intro x s3 hE
    rw [iD_cons, forD]
    unfold b1_law_gather
    trivial
    simp only [w_sum, w_least, decide_eq_true_eq]
    split
    · rename_i e; subst e
      exact ih (x + y) _ hE
    · rename_i e1
      have := ih (gop w x y) (dI y) hE
      by_cases hc : (decide (y < x) == decide (w = .least)) = true
      · rw [if_pos hc]
        have e : gop w x y = y ∨ (gop w x y = x ∧ x = y) := by
          cases w <;> simp [gop] at * <;> omega
        rcases e with e | ⟨e, e'⟩
        · rw [e] at this; exact this
        · rw [e, e'] at this; exact this
      · rw [if_neg hc]
        have e : gop w x y = x := by
          cases w <;> simp [gop] at * <;> omega
        rw [e] at this
        exact this
theorem m_law_gather : Meets t_law_gather 2 2 sp_law_gather := by
  rintro args Qd Xd ⟨w, l, rfl, hl, hQ⟩
  cases l with
  | nil => exact absurd rfl hl
  | cons x l =>
    show t_law_gather _ _ [_, _, .un, .un]
    unfold t_law_gather
    trivial
    have e : cutD (D.int x :: iD l) (some 1) none = iD l := by
      simp [cutD, HT.sIx]
      exact List.take_of_length_le (by simp)
    rw [e]
    refine q1_law_gather l x _ fun u3 => ?_
    unfold k2_law_gather
    trivial
    exact hQ _
end LS

/-! MT: gathering all at once -/
namespace LS
open PySem L2 HD PM
theorem fold1_app {op : Int → Int → Int} (h : CA op) {a b : List Int} (ha : a ≠ []) (hb : b ≠ []) : fold1 op (a ++ b) = op (fold1 op a) (fold1 op b) := by
  induction a with
  | nil => exact absurd rfl ha
  | cons x a ih =>
    by_cases e : a = []
    · subst e; exact fold1_cons h x hb
    · rw [List.cons_append, fold1_cons h x (by simp [e]), ih e, fold1_cons h x e, h.assoc]
theorem gt_flat (w : Wd) {L : List (List Int)} (hL : ∀ l ∈ L, l ≠ []) : gt w (L.map (gt w)) = gt w L.flatten := by
  induction L with
  | nil => rfl
  | cons l L ih =>
    have hl := hL l List.mem_cons_self
    have ih := ih fun m hm => hL m (List.mem_cons_of_mem _ hm)
    by_cases e : L = []
    · subst e; simp [gt, fold1]
    · have hf : L.flatten ≠ [] := by
        cases L with
        | nil => exact absurd rfl e
        | cons m L =>
          intro z
          rw [List.flatten_cons, List.append_eq_nil_iff] at z
          exact hL m (by simp) z.1
      have e1 : gt w (l ++ L.flatten) = gop w (gt w l) (gt w L.flatten) := fold1_app (gop_ca w) hl hf
      rw [List.map_cons, List.flatten_cons, e1, ← ih, gt, fold1_cons (gop_ca w) _ (by simpa using e)]
theorem gt_perm (w : Wd) {l l' : List Int} (h : l.Perm l') : gt w l = gt w l' := by
  induction h with
  | nil => rfl
  | cons x h ih =>
    rename_i a b
    by_cases e : a = []
    · subst e
      rw [List.nil_perm.1 h]
    · have e' : b ≠ [] := fun z => e (by rw [z] at h; exact List.perm_nil.1 h)
      rw [gt, gt, fold1_cons (gop_ca w) x e, fold1_cons (gop_ca w) x e']
      exact congrArg _ ih
  | swap x y l =>
    show List.foldl _ _ _ = List.foldl _ _ _
    rw [List.foldl_cons, List.foldl_cons, (gop_ca w).comm]
  | trans _ _ h1 h2 => exact h1.trans h2
theorem fills_nd (S ns : List Nat) : (fills S ns).Nodup := by
  have h : ((fills S ns).map (pl S 0 ns)).Nodup := by rw [fills_pl]; exact List.nodup_range
  have h := List.pairwise_map.1 h
  exact h.imp fun h e => h (by rw [e])
theorem ws_fills {S : List Nat} {p : Part} (hp : p.Ok S) : p.ws = (fills S p.ns).map fun f => val S p (ats p.ns f) := by
  have := congrArg Part.ws (mkP_val hp)
  exact this.symm
theorem val_self {S : List Nat} {p : Part} {g : Nat → Nat} : val S p (ats p.ns (p.ns.map g)) = val S p g := val_congr fun n hn => ats_map hn
theorem fills_split {S ns : List Nat} {n : Nat} (hr : Rising ns) (hn : n ∈ ns) : ((fills S (wo ns n)).flatMap fun f => (List.range (sz S n)).map fun v => ns.map (put (ats (wo ns n) f) n v)).Perm (fills S ns) := by
  have key : ∀ f v, Good S (wo ns n) f → (ats ns (ns.map (put (ats (wo ns n) f) n v)) n = v ∧ (wo ns n).map (ats ns (ns.map (put (ats (wo ns n) f) n v))) = f) := by
    intro f v hf
    constructor
    · rw [ats_map hn]; simp [put]
    · have : ∀ m ∈ wo ns n, ats ns (ns.map (put (ats (wo ns n) f) n v)) m = ats (wo ns n) f m := fun m hm => by
        rw [ats_map (mem_wo.1 hm).1]
        simp [put, (mem_wo.1 hm).2]
      rw [List.map_congr_left this, map_ats (wo_rise hr).nd hf.len]
  refine (List.perm_ext_iff_of_nodup ?_ (fills_nd S ns)).2 fun F => ?_
  · refine List.pairwise_flatMap.2 ⟨fun f hf => ?_, ?_⟩
    · refine List.pairwise_map.2 (List.nodup_range.imp fun {u v} h e => h ?_)
      have h1 := (key f u (mem_fills.1 hf)).1
      rw [e, (key f v (mem_fills.1 hf)).1] at h1
      exact h1.symm
    · refine List.Pairwise.imp_of_mem ?_ (fills_nd S (wo ns n))
      intro f g hf hg hne x hx y hy e
      obtain ⟨u, _, rfl⟩ := List.mem_map.1 hx
      obtain ⟨v, _, rfl⟩ := List.mem_map.1 hy
      have h1 := (key f u (mem_fills.1 hf)).2
      rw [e, (key g v (mem_fills.1 hg)).2] at h1
      exact hne h1.symm
  · rw [List.mem_flatMap, mem_fills]
    constructor
    · rintro ⟨f, hf, hF⟩
      obtain ⟨v, hv, rfl⟩ := List.mem_map.1 hF
      refine good_map fun m hm => fit_put (fun m hm => ats_lt (mem_fills.1 hf) hm) (List.mem_range.1 hv) m hm
    · intro hF
      refine ⟨(wo ns n).map (ats ns F), mem_fills.2 (good_map fun m hm => ats_lt hF (mem_wo.1 hm).1), List.mem_map.2 ⟨ats ns F n, List.mem_range.2 (ats_lt hF hn), ?_⟩⟩
      have : ∀ m ∈ ns, put (ats (wo ns n) ((wo ns n).map (ats ns F))) n (ats ns F n) m = ats ns F m := fun m hm => by
        unfold put
        split
        · rename_i e; rw [e]
        · rename_i e; rw [ats_map (mem_wo.2 ⟨hm, e⟩)]
      rw [List.map_congr_left this, map_ats hr.nd hF.len]
/-- gathering over a name leaves the whole -/
theorem gath_tot {S : List Nat} {w : Wd} {p : Part} {n : Nat} (hp : p.Ok S) (hn : n ∈ p.ns) (hz : 0 < sz S n) : gt w (gathP S w p n).ws = gt w p.ws := by
  have e1 : (gathP S w p n).ws = ((fills S (wo p.ns n)).map fun f => (List.range (sz S n)).map fun v => val S p (put (ats (wo p.ns n) f) n v)).map (gt w) := by
    rw [List.map_map]; rfl
  rw [e1, gt_flat w (fun l hl => by
    obtain ⟨f, _, rfl⟩ := List.mem_map.1 hl
    simpa using range_ne hz), ws_fills hp]
  have e2 : ((fills S (wo p.ns n)).map fun f => (List.range (sz S n)).map fun v => val S p (put (ats (wo p.ns n) f) n v)).flatten = ((fills S (wo p.ns n)).flatMap fun f => (List.range (sz S n)).map fun v => p.ns.map (put (ats (wo p.ns n) f) n v)).map fun F => val S p (ats p.ns F) := by
    rw [List.map_flatMap, List.flatMap_def]
    congr 1
    refine List.map_congr_left fun f _ => ?_
    rw [List.map_map]
    exact List.map_congr_left fun v _ => val_self.symm
  rw [e2]
  exact gt_perm w ((fills_split hp.rise hn).map _)
theorem one_left {S : List Nat} {p : Part} (hp : p.Ok S) (h : p.ns = []) (w : Wd) : p = ⟨[], [gt w p.ws]⟩ := by
  have hl := hp.len
  rw [h] at hl
  obtain ⟨ns, ws⟩ := p
  simp only at h hl
  subst h
  have hl : ws.length = 1 := hl
  rcases ws with _ | ⟨x, _ | ⟨y, ws⟩⟩
  · simp at hl
  · rfl
  · simp at hl
end LS

/-! LR: refusals, by their classes -/
namespace LS
open PySem L2 HD PM
local macro_rules | `(tactic| trivial) => `(tactic| try simp -dsimp only [↓sSeq, ↓sIf, ↓sRet, ↓retD_ext, ↓retD_lst, ↓retD_al, ↓sSet, ↓sSetE, ↓sAsg, ↓sDrop, ↓sNext, ↓sFor, ↓sRetN, ↓sCont, ↓sBreak, ↓dTest, ↓dOp, ↓dVar_w, ↓dC, ↓dCons, ↓dNil, ↓dTup, ↓dLst, ↓frzDs, ↓frzD_ext, ↓frzD_lst, ↓frzD_al, ↓wd_ext, ↓wd_lst, ↓wd_al, ↓wds, ↓AtS_ext, ↓AtS_lst, ↓AtL, ↓fAdd, ↓fSub, ↓fMul, ↓fDiv, ↓fMod, ↓fPow, ↓fCmp, ↓fIn, ↓fEq_ii, ↓fEq_ss, ↓fEq_bb, ↓fEq_tt, ↓fEq_ll, ↓fNe_ii, ↓fNe_ss, ↓fNe_bb, ↓fNe_tt, ↓fNe_ll, ↓fIx_l, ↓fIx_t, ↓fIx_k, ↓fIx_f, ↓GetS_some, ↓NatS_some, ↓fSl, ↓fIsN, ↓fNotN, ↓D.knN, ↓dNot, ↓dAnd, ↓dOr, ↓dAndV_w, ↓dOrV_w, ↓dNotV, ↓dIf, ↓dNeg, ↓dChain_w, ↓BlS_bl, ↓dCall_w, ↓dCallJ_w, ↓anyAl, ↓frozs, ↓froz, ↓gSet, ↓gTupD, ↓gsCons, ↓gsNil, ↓dSeq, ↓seqD_tup, ↓seqD_elst, ↓seqD_lst, ↓seqD_al, ↓dRange1, ↓dRange2, ↓dZip, ↓dCB, ↓dLc, ↓dYes, ↓dNoPart, ↓dPart, ↓dSl, ↓fLen, ↓fMin, ↓fMax, ↓fSum, ↓fAll, ↓fAny, ↓fSorted, ↓fTuple, ↓fList, ↓dRg1, ↓dRg2, ↓dLstRg, ↓dTupRg, ↓dIndex, ↓fIdx, ↓dAppend_w, ↓dExtend_w, ↓extD_lst, ↓dPopAt_w, ↓popD_int, ↓dPop_w, ↓mutD_w, ↓sSetItem_w, ↓setD_int, ↓dSortSet, ↓dTable_w, ↓wipeE, finals1, finals2, finals3, finals4, finals5, finals6, fin1_ext, fin1_lst, List.getElem?_cons_zero, List.getElem?_cons_succ, List.getElem?_nil, List.set_cons_zero, List.set_cons_succ, List.cons_append, List.nil_append, List.append_nil, List.replicate_succ, List.replicate_zero, List.map_cons, List.map_nil, List.length_cons, List.length_nil, true_and, and_true, ite_true, ite_false, if_true, if_false, Bool.false_eq_true, decide_eq_true_eq, Sl.plain, D.isSq, eq_self_iff_true, forall_const, reduceIte, true_or, or_true, atI_0, atI_1, atI_2, atI_3, ixN_0, ixN_1, ixN_2, AtS_ext, AtS_lst, FzS_lst, FzS_ext, GetS_some, NatS_some, ↓fIsi1, ↓fIsi2, BoolS_some, HD.kb_non_tuple, HD.kb_non_list, HD.kb_non_bool, HD.kb_non_int, HD.kb_non_str, HD.kb_bl_tuple, HD.kb_bl_list, HD.kb_bl_bool, HD.kb_bl_int, HD.kb_bl_str, HD.kb_int_tuple, HD.kb_int_list, HD.kb_int_bool, HD.kb_int_int, HD.kb_int_str, HD.kb_str_tuple, HD.kb_str_list, HD.kb_str_bool, HD.kb_str_int, HD.kb_str_str, HD.kb_lst_tuple, HD.kb_lst_list, HD.kb_lst_bool, HD.kb_lst_int, HD.kb_lst_str, HD.kb_tup_tuple, HD.kb_tup_list, HD.kb_tup_bool, HD.kb_tup_int, HD.kb_tup_str, ↓sFz_w, ↓FzS_lst, ↓FzS_ext, ↓dSortSetL, ↓fAbs, ↓fInt, ↓fRepr, ↓fLtT, ↓sRaise, ↓sTryKeep, ↓dCallV_w, ↓dMeth, ↓fCount, ↓fSplit])
theorem iD_snoc (l : List Int) (x : Int) : iD l ++ [D.int x] = iD (l ++ [x]) := (iD_app l [x]).symm
theorem nD_snoc (l : List Nat) (x : Nat) : nD l ++ [D.int (x : Nat)] = nD (l ++ [x]) := (nD_app l [x]).symm
theorem nD_set (g : List Nat) (i v : Nat) : (nD g).set i (.int (v : Nat)) = nD (g.set i v) := List.map_set.symm
theorem iD_set (g : List Int) (i : Nat) (v : Int) : (iD g).set i (.int v) = iD (g.set i v) := List.map_set.symm
theorem fD_snoc (l : List (List Nat)) (x : List Nat) : fD l ++ [D.tup (nD x)] = fD (l ++ [x]) := (fD_app l [x]).symm
theorem R_if {R : Option HD.D → HD.Env' → Prop} {b b' : Bool} {x : HD.D} {env : HD.Env'} (e : b = b') (h : R (if b' = true then some x else none) env) : if b = true then R (some x) env else R none env := by
  subst e
  cases b <;> exact h
theorem R_ifP {R : Option HD.D → HD.Env' → Prop} {p : Prop} [Decidable p] {b : Bool} {x : HD.D} {env : HD.Env'} (e : decide p = b) (h : R (if b = true then some x else none) env) : if p then R (some x) env else R none env := by
  subst e
  by_cases hp : p
  · rw [if_pos hp]; simpa [hp] using h
  · rw [if_neg hp]; simpa [hp] using h
/-- a call by a def's value -/
def sp_law_call (FT : FTab) : DSpec := fun args Q X => ∃ (nm : Str) (n : Nat) (spec : DSpec) (ds : List D), args = [.ext (.glo nm), .ext (.tup ds)] ∧ FT nm = some (n, spec) ∧ 0 < ds.length ∧ ds.length ≤ 4 ∧
  ∀ (Q' : Sl → List Sl → Prop) (X' : Str → List Sl → Prop), (∀ r fin, r.plain → r ≠ .un → (∀ fin', Q r fin') → Q' r fin) → (∀ c fin, (∀ fin', X c fin') → X' c fin) → spec (ds.map .ext) Q' X'
def t_law_call (FT : FTab) : DTS :=
    (sSeq (sIf (dTest (dOp fEq (dCB fLen (dCons (dVar 1) dNil)) (dC (.int 2)))) (sRet (dCallV FT 0 (dCons (dOp fIx (dVar 1) (dC (.int 0))) (dCons (dOp fIx (dVar 1) (dC (.int 1))) dNil)))) sNext)
    (sSeq (sIf (dTest (dOp fEq (dCB fLen (dCons (dVar 1) dNil)) (dC (.int 3)))) (sRet (dCallV FT 0 (dCons (dOp fIx (dVar 1) (dC (.int 0))) (dCons (dOp fIx (dVar 1) (dC (.int 1))) (dCons (dOp fIx (dVar 1) (dC (.int 2))) dNil))))) sNext)
    (sSeq (sIf (dTest (dOp fEq (dCB fLen (dCons (dVar 1) dNil)) (dC (.int 4)))) (sRet (dCallV FT 0 (dCons (dOp fIx (dVar 1) (dC (.int 0))) (dCons (dOp fIx (dVar 1) (dC (.int 1))) (dCons (dOp fIx (dVar 1) (dC (.int 2))) (dCons (dOp fIx (dVar 1) (dC (.int 3))) dNil)))))) sNext)
    (sRet (dCallV FT 0 (dCons (dOp fIx (dVar 1) (dC (.int 0))) dNil))))))
theorem m_law_call (FT : FTab) : Meets (t_law_call FT) 2 0 (sp_law_call FT) := by
  rintro args Qd Xd ⟨nm, n, spec, ds, rfl, hF, h0, h4, h⟩
  show t_law_call FT _ _ [_, _]
  unfold t_law_call
  rcases ds with _ | ⟨d1, _ | ⟨d2, _ | ⟨d3, _ | ⟨d4, _ | ⟨d5, ds⟩⟩⟩⟩⟩
  · simp at h0
  all_goals try (simp only [List.length_cons] at h4; omega)
  all_goals
    trivial
    simp only [show ((0 + 1 : Nat) : Int) = 1 from rfl, show ((0 + 1 + 1 : Nat) : Int) = 2 from rfl, show ((0 + 1 + 1 + 1 : Nat) : Int) = 3 from rfl, show ((0 + 1 + 1 + 1 + 1 : Nat) : Int) = 4 from rfl, show ((1 : Int) == 2) = false from rfl, show ((1 : Int) == 3) = false from rfl, show ((1 : Int) == 4) = false from rfl, show ((2 : Int) == 2) = true from rfl, show ((3 : Int) == 2) = false from rfl, show ((3 : Int) == 3) = true from rfl, show ((4 : Int) == 2) = false from rfl, show ((4 : Int) == 3) = false from rfl, show ((4 : Int) == 4) = true from rfl, if_true, if_false, Bool.false_eq_true]
    trivial
    refine ⟨n, spec, hF, ?_⟩
    trivial
    refine h _ _ (fun r fin hr hu hQ => ?_) fun c fin hX => hX _
    cases r with
    | ext d => trivial; exact hQ _
    | lst a ds => trivial; exact hQ _
    | un => exact absurd rfl hu
    | reg a cs => exact ⟨.inl rfl, True.intro, hQ _⟩
    | al i a => exact hr.elim
def xWords : List Str := [Str.ofString "filling", Str.ofString "name", Str.ofString "many", Str.ofString "deeds", Str.ofString "offers", Str.ofString "tree", Str.ofString "bag", Str.ofString "part", Str.ofString "worths", Str.ofString "back", Str.ofString "weights", Str.ofString "number", Str.ofString "row", Str.ofString "text"]
def xWord (c : Str) : Str := xWords.getD (xAll.idxOf c) (Str.ofString "")
def sp_law_class (cs : List Str) : DSpec := fun args Q _ => ∃ c : Str, args = [.ext (.exc c)] ∧ c ∈ cs ∧ c ∈ xAll ∧ ∀ fin, Q (.ext (.str (xWord c))) fin
def t_law_class (cs : List Str) : DTS :=
    (sSeq (sSetE 1 (dLst (dCons (dCB (fIsX (xtab cs)) (dCons (dVar 0) (dCons (dC (.glo "NoFilling")) dNil))) (dCons (dCB (fIsX (xtab cs)) (dCons (dVar 0) (dCons (dC (.glo "NoName")) dNil))) (dCons (dCB (fIsX (xtab cs)) (dCons (dVar 0) (dCons (dC (.glo "TooMany")) dNil))) dNil)))))
    (sSeq (sSetE 1 (dOp fAdd (dVar 1) (dLst (dCons (dCB (fIsX (xtab cs)) (dCons (dVar 0) (dCons (dC (.glo "NoDeeds")) dNil))) (dCons (dCB (fIsX (xtab cs)) (dCons (dVar 0) (dCons (dC (.glo "NoOffers")) dNil))) (dCons (dCB (fIsX (xtab cs)) (dCons (dVar 0) (dCons (dC (.glo "NoTree")) dNil))) dNil))))))
    (sSeq (sSetE 1 (dOp fAdd (dVar 1) (dLst (dCons (dCB (fIsX (xtab cs)) (dCons (dVar 0) (dCons (dC (.glo "NoBag")) dNil))) (dCons (dCB (fIsX (xtab cs)) (dCons (dVar 0) (dCons (dC (.glo "NoPart")) dNil))) (dCons (dCB (fIsX (xtab cs)) (dCons (dVar 0) (dCons (dC (.glo "NoWorths")) dNil))) dNil))))))
    (sSeq (sSetE 1 (dOp fAdd (dVar 1) (dLst (dCons (dCB (fIsX (xtab cs)) (dCons (dVar 0) (dCons (dC (.glo "NoBack")) dNil))) (dCons (dCB (fIsX (xtab cs)) (dCons (dVar 0) (dCons (dC (.glo "NoWeights")) dNil))) (dCons (dCB (fIsX (xtab cs)) (dCons (dVar 0) (dCons (dC (.glo "NoNumber")) dNil))) dNil))))))
    (sSeq (sSetE 1 (dOp fAdd (dVar 1) (dLst (dCons (dCB (fIsX (xtab cs)) (dCons (dVar 0) (dCons (dC (.glo "NoRow")) dNil))) (dCons (dCB (fIsX (xtab cs)) (dCons (dVar 0) (dCons (dC (.glo "NoText")) dNil))) dNil)))))
    (sSeq (sIf (dOr (dTest (dOp fNe (dMeth D.isLst fCount (dVar 1) (dC (.bl true))) (dC (.int 1)))) (dNot (dTest (dCB (fIsX (xtab cs)) (dCons (dVar 0) (dCons (dC (.val (.ty "ValueError"))) dNil)))))) (sRet (dC (.str (Str.ofString "odd")))) sNext)
    (sSeq (sSetE 2 (dC (.str (Str.ofString "filling name many deeds offers tree bag part worths back weights number row text"))))
    (sRet (dOp fIx (dMeth D.isStr fSplit (dVar 2) (dC (.str (Str.ofString " ")))) (dIndex (dVar 1) (dC (.bl true))))))))))))
theorem isX_glo {cs : List Str} {c : Str} (hc : c ∈ cs) (x : Str) (hx : x ∈ xAll) (Q : Sl → Prop) : fIsX (xtab cs) [.exc c, .glo x] Q = Q (.ext (.bl (decide (x = c)))) := by
  refine propext ⟨fun ⟨b, h, q⟩ => ?_, fun q => ⟨_, ?_, q⟩⟩
  · unfold xtab at h
    simp only [if_pos hc, if_pos hx, Option.some.injEq] at h
    rw [h]; exact q
  · unfold xtab
    simp only [if_pos hc, if_pos hx]
theorem isX_ve {cs : List Str} {c : Str} (hc : c ∈ cs) (Q : Sl → Prop) : fIsX (xtab cs) [.exc c, .val (.ty "ValueError")] Q = Q (.ext (.bl true)) := by
  refine propext ⟨fun ⟨b, h, q⟩ => ?_, fun q => ⟨_, ?_, q⟩⟩
  · unfold xtab at h
    simp only [if_pos hc, if_true, Option.some.injEq] at h
    rw [h]; exact q
  · unfold xtab
    simp only [if_pos hc, if_true]
def xKinds (c : Str) : List D := xAll.map fun x => D.bl (decide (x = c))
theorem xk_count {c : Str} (h : c ∈ xAll) : (xKinds c).countP (fun z => eqV z.toV (D.bl true).toV) = 1 := by
  simp only [xAll, List.mem_cons, List.not_mem_nil, or_false] at h
  rcases h with rfl | rfl | rfl | rfl | rfl | rfl | rfl | rfl | rfl | rfl | rfl | rfl | rfl | rfl <;> decide +kernel
theorem xk_at {c : Str} (h : c ∈ xAll) : D.at? (.bl true) (xKinds c) = some (xAll.idxOf c) := by
  simp only [xAll, List.mem_cons, List.not_mem_nil, or_false] at h
  rcases h with rfl | rfl | rfl | rfl | rfl | rfl | rfl | rfl | rfl | rfl | rfl | rfl | rfl | rfl <;> decide +kernel
theorem xk_split : Txt.split (Str.ofString "filling name many deeds offers tree bag part worths back weights number row text") (Str.ofString " ") = xWords := by decide +kernel
theorem xk_flat (c : Str) : (xKinds c).all D.flat = true := rfl
theorem m_law_class (cs : List Str) : Meets (t_law_class cs) 1 2 (sp_law_class cs) := by
  rintro args Qd Xd ⟨c, rfl, hc, hx, hQ⟩
  show t_law_class cs _ _ [_, .un, .un]
  unfold t_law_class
  have i1 := isX_glo hc "NoFilling" (by decide)
  have i2 := isX_glo hc "NoName" (by decide)
  have i3 := isX_glo hc "TooMany" (by decide)
  have i4 := isX_glo hc "NoDeeds" (by decide)
  have i5 := isX_glo hc "NoOffers" (by decide)
  have i6 := isX_glo hc "NoTree" (by decide)
  have i7 := isX_glo hc "NoBag" (by decide)
  have i8 := isX_glo hc "NoPart" (by decide)
  have i9 := isX_glo hc "NoWorths" (by decide)
  have i10 := isX_glo hc "NoBack" (by decide)
  have i11 := isX_glo hc "NoWeights" (by decide)
  have i12 := isX_glo hc "NoNumber" (by decide)
  have i13 := isX_glo hc "NoRow" (by decide)
  have i14 := isX_glo hc "NoText" (by decide)
  have iv := isX_ve hc
  simp -dsimp only [↓sSeq, ↓sIf, ↓sRet, ↓retD_ext, ↓retD_lst, ↓retD_al, ↓sSet, ↓sSetE, ↓sAsg, ↓sDrop, ↓sNext, ↓sFor, ↓sRetN, ↓sCont, ↓sBreak, ↓dTest, ↓dOp, ↓dVar_w, ↓dC, ↓dCons, ↓dNil, ↓dTup, ↓dLst, ↓frzDs, ↓frzD_ext, ↓frzD_lst, ↓frzD_al, ↓wd_ext, ↓wd_lst, ↓wd_al, ↓wds, ↓AtS_ext, ↓AtS_lst, ↓AtL, ↓fAdd, ↓fSub, ↓fMul, ↓fDiv, ↓fMod, ↓fPow, ↓fCmp, ↓fIn, ↓fEq_ii, ↓fEq_ss, ↓fEq_bb, ↓fEq_tt, ↓fEq_ll, ↓fNe_ii, ↓fNe_ss, ↓fNe_bb, ↓fNe_tt, ↓fNe_ll, ↓fIx_l, ↓fIx_t, ↓fIx_k, ↓fIx_f, ↓GetS_some, ↓NatS_some, ↓fSl, ↓fIsN, ↓fNotN, ↓D.knN, ↓dNot, ↓dAnd, ↓dOr, ↓dAndV_w, ↓dOrV_w, ↓dNotV, ↓dIf, ↓dNeg, ↓dChain_w, ↓BlS_bl, ↓dCall_w, ↓dCallJ_w, ↓anyAl, ↓frozs, ↓froz, ↓gSet, ↓gTupD, ↓gsCons, ↓gsNil, ↓dSeq, ↓seqD_tup, ↓seqD_elst, ↓seqD_lst, ↓seqD_al, ↓dRange1, ↓dRange2, ↓dZip, ↓dCB, ↓dLc, ↓dYes, ↓dNoPart, ↓dPart, ↓dSl, ↓fLen, ↓fMin, ↓fMax, ↓fSum, ↓fAll, ↓fAny, ↓fSorted, ↓fTuple, ↓fList, ↓dRg1, ↓dRg2, ↓dLstRg, ↓dTupRg, ↓dIndex, ↓fIdx, ↓dAppend_w, ↓dExtend_w, ↓extD_lst, ↓dPopAt_w, ↓popD_int, ↓dPop_w, ↓mutD_w, ↓sSetItem_w, ↓setD_int, ↓dSortSet, ↓dTable_w, ↓wipeE, finals1, finals2, finals3, finals4, finals5, finals6, fin1_ext, fin1_lst, List.getElem?_cons_zero, List.getElem?_cons_succ, List.getElem?_nil, List.set_cons_zero, List.set_cons_succ, List.cons_append, List.nil_append, List.append_nil, List.replicate_succ, List.replicate_zero, List.map_cons, List.map_nil, List.length_cons, List.length_nil, true_and, and_true, ite_true, ite_false, if_true, if_false, Bool.false_eq_true, decide_eq_true_eq, Sl.plain, D.isSq, eq_self_iff_true, forall_const, reduceIte, true_or, or_true, atI_0, atI_1, atI_2, atI_3, ixN_0, ixN_1, ixN_2, AtS_ext, AtS_lst, FzS_lst, FzS_ext, GetS_some, NatS_some, ↓fIsi1, ↓fIsi2, BoolS_some, HD.kb_non_tuple, HD.kb_non_list, HD.kb_non_bool, HD.kb_non_int, HD.kb_non_str, HD.kb_bl_tuple, HD.kb_bl_list, HD.kb_bl_bool, HD.kb_bl_int, HD.kb_bl_str, HD.kb_int_tuple, HD.kb_int_list, HD.kb_int_bool, HD.kb_int_int, HD.kb_int_str, HD.kb_str_tuple, HD.kb_str_list, HD.kb_str_bool, HD.kb_str_int, HD.kb_str_str, HD.kb_lst_tuple, HD.kb_lst_list, HD.kb_lst_bool, HD.kb_lst_int, HD.kb_lst_str, HD.kb_tup_tuple, HD.kb_tup_list, HD.kb_tup_bool, HD.kb_tup_int, HD.kb_tup_str, ↓sFz_w, ↓FzS_lst, ↓FzS_ext, ↓dSortSetL, ↓fAbs, ↓fInt, ↓fRepr, ↓fLtT, ↓sRaise, ↓sTryKeep, ↓dCallV_w, ↓dMeth, ↓fCount, ↓fSplit, i1, i2, i3, i4, i5, i6, i7, i8, i9, i10, i11, i12, i13, i14, iv]
  have h2 := xk_count hx
  have h3 := xk_at hx
  simp only [xKinds, xAll, List.map_cons, List.map_nil] at h2 h3
  rw [h2]
  refine ⟨by decide, by decide, by decide, by decide, by decide, by decide, by decide, by decide, by decide, rfl, rfl, rfl, ?_⟩
  rw [if_neg (by decide), if_neg (by decide)]
  refine ⟨rfl, by decide +kernel, by decide +kernel, rfl, rfl, _, h3, ?_⟩
  rw [xk_split]
  refine ⟨.str (xWord c), atN ?_, ?_⟩
  · rw [List.getElem?_map]
    unfold xWord
    rw [List.getD_eq_getElem?_getD]
    have hl : List.idxOf c xAll < xWords.length := List.idxOf_lt_length_of_mem hx
    change Option.map D.str xWords[List.idxOf c xAll]? = _
    rw [List.getElem?_eq_getElem hl]
    rfl
  · trivial
    exact hQ _
/-- what a call refuses with; or it tells something -/
def sp_law_refused (FT : FTab) (cs : List Str) : DSpec := fun args Q _ => ∃ (nm : Str) (n : Nat) (spec : DSpec) (ds : List D), args = [.ext (.glo nm), .ext (.tup ds)] ∧ FT nm = some (n, spec) ∧ 0 < ds.length ∧ ds.length ≤ 4 ∧
  ((∃ c, c ∈ cs ∧ c ∈ xAll ∧ (∀ (Q' : Sl → List Sl → Prop) (X' : Str → List Sl → Prop), (∀ fin, X' c fin) → spec (ds.map .ext) Q' X') ∧ ∀ fin, Q (.ext (.str (xWord c))) fin) ∨
    ((∀ (Q' : Sl → List Sl → Prop) (X' : Str → List Sl → Prop), (∀ r fin, r.plain → r ≠ .un → Q' r fin) → spec (ds.map .ext) Q' X') ∧ ∀ fin, Q (.ext (.str (Str.ofString ""))) fin))
def t_law_refused (FT : FTab) (cs : List Str) : DTS :=
    (sSeq (sSetE 2 (dC .non))
    (sSeq (sTryKeep cs 3 2 (sDrop (dCall (sp_law_call FT) (dCons (dVar 0) (dCons (dVar 1) dNil)))))
    (sRet (dIf (dTest (dOp fIsN (dVar 2) (dC .non))) (dC (.str (Str.ofString ""))) (dCall (sp_law_class cs) (dCons (dVar 2) dNil))))))
theorem m_law_refused (FT : FTab) (cs : List Str) : Meets (t_law_refused FT cs) 2 2 (sp_law_refused FT cs) := by
  rintro args Qd Xd ⟨nm, n, spec, ds, rfl, hF, h0, h4, h⟩
  show t_law_refused FT cs _ _ [_, _, .un, .un]
  unfold t_law_refused
  rcases h with ⟨c, hc, hx, hs, hQ⟩ | ⟨hs, hQ⟩
  · trivial
    refine ⟨nm, n, spec, ds, rfl, hF, h0, h4, fun Q' X' _ hX => hs Q' X' fun fin => hX c fin fun fin' => ?_⟩
    refine ⟨hc, by simp, ?_⟩
    trivial
    rw [if_neg (by simp [D.isNon])]
    refine ⟨c, rfl, hc, hx, fun fin => ?_⟩
    trivial
    exact hQ _
  · trivial
    refine ⟨nm, n, spec, ds, rfl, hF, h0, h4, fun Q' X' hq _ => hs Q' X' fun r fin h1 h2 => hq r fin h1 h2 fun fin' => ?_⟩
    refine ⟨.inl rfl, h1, ?_⟩
    trivial
    rw [if_pos (by rfl)]
    exact hQ _
end LS

/-! GA: the second family's own helpers: the tape, sheets, worths at a filling -/
namespace LS
open PySem L2 HD PM
local macro_rules | `(tactic| trivial) => `(tactic| try simp -dsimp only [↓sSeq, ↓sIf, ↓sRet, ↓retD_ext, ↓retD_lst, ↓retD_al, ↓sSet, ↓sSetE, ↓sAsg, ↓sDrop, ↓sNext, ↓sFor, ↓sRetN, ↓sCont, ↓sBreak, ↓dTest, ↓dOp, ↓dVar_w, ↓dC, ↓dCons, ↓dNil, ↓dTup, ↓dLst, ↓frzDs, ↓frzD_ext, ↓frzD_lst, ↓frzD_al, ↓wd_ext, ↓wd_lst, ↓wd_al, ↓wds, ↓AtS_ext, ↓AtS_lst, ↓AtL, ↓fAdd, ↓fSub, ↓fMul, ↓fDiv, ↓fMod, ↓fPow, ↓fCmp, ↓fIn, ↓fEq_ii, ↓fEq_ss, ↓fEq_bb, ↓fEq_tt, ↓fEq_ll, ↓fNe_ii, ↓fNe_ss, ↓fNe_bb, ↓fNe_tt, ↓fNe_ll, ↓fIx_l, ↓fIx_t, ↓fIx_k, ↓fIx_f, ↓GetS_some, ↓NatS_some, ↓fSl, ↓fIsN, ↓fNotN, ↓D.knN, ↓dNot, ↓dAnd, ↓dOr, ↓dAndV_w, ↓dOrV_w, ↓dNotV, ↓dIf, ↓dNeg, ↓dChain_w, ↓BlS_bl, ↓dCall_w, ↓dCallJ_w, ↓anyAl, ↓frozs, ↓froz, ↓gSet, ↓gTupD, ↓gsCons, ↓gsNil, ↓dSeq, ↓seqD_tup, ↓seqD_elst, ↓seqD_lst, ↓seqD_al, ↓dRange1, ↓dRange2, ↓dZip, ↓dCB, ↓dLc, ↓dYes, ↓dNoPart, ↓dPart, ↓dSl, ↓fLen, ↓fMin, ↓fMax, ↓fSum, ↓fAll, ↓fAny, ↓fSorted, ↓fTuple, ↓fList, ↓dRg1, ↓dRg2, ↓dLstRg, ↓dTupRg, ↓dIndex, ↓fIdx, ↓dAppend_w, ↓dExtend_w, ↓extD_lst, ↓dPopAt_w, ↓popD_int, ↓dPop_w, ↓mutD_w, ↓sSetItem_w, ↓setD_int, ↓dSortSet, ↓dTable_w, ↓wipeE, finals1, finals2, finals3, finals4, finals5, finals6, fin1_ext, fin1_lst, List.getElem?_cons_zero, List.getElem?_cons_succ, List.getElem?_nil, List.set_cons_zero, List.set_cons_succ, List.cons_append, List.nil_append, List.append_nil, List.replicate_succ, List.replicate_zero, List.map_cons, List.map_nil, List.length_cons, List.length_nil, true_and, and_true, ite_true, ite_false, if_true, if_false, Bool.false_eq_true, decide_eq_true_eq, Sl.plain, D.isSq, eq_self_iff_true, forall_const, reduceIte, true_or, or_true, atI_0, atI_1, atI_2, atI_3, ixN_0, ixN_1, ixN_2, AtS_ext, AtS_lst, FzS_lst, FzS_ext, GetS_some, NatS_some, ↓fIsi1, ↓fIsi2, BoolS_some, HD.kb_non_tuple, HD.kb_non_list, HD.kb_non_bool, HD.kb_non_int, HD.kb_non_str, HD.kb_bl_tuple, HD.kb_bl_list, HD.kb_bl_bool, HD.kb_bl_int, HD.kb_bl_str, HD.kb_int_tuple, HD.kb_int_list, HD.kb_int_bool, HD.kb_int_int, HD.kb_int_str, HD.kb_str_tuple, HD.kb_str_list, HD.kb_str_bool, HD.kb_str_int, HD.kb_str_str, HD.kb_lst_tuple, HD.kb_lst_list, HD.kb_lst_bool, HD.kb_lst_int, HD.kb_lst_str, HD.kb_tup_tuple, HD.kb_tup_list, HD.kb_tup_bool, HD.kb_tup_int, HD.kb_tup_str, ↓sFz_w, ↓FzS_lst, ↓FzS_ext, ↓dSortSetL, ↓fAbs, ↓fInt, ↓fRepr, ↓fLtT, ↓sRaise, ↓sTryKeep, ↓dCallV_w, ↓dMeth, ↓fCount, ↓fSplit])
def sp_law_gprime : DSpec := sp_law_prime
def t_law_gprime : DTS :=
    (sSeq (sSetE 1 (dLst (dCons (dC (.int 2147483647)) (dCons (dC (.int 2147483629)) (dCons (dC (.int 2147483587)) (dCons (dC (.int 2147483579)) (dCons (dC (.int 2147483563)) (dCons (dC (.int 2147483549)) (dCons (dC (.int 2147483543)) dNil)))))))))
    (sRet (dOp fIx (dOp fAdd (dVar 1) (dLst (dCons (dC (.int 2147483497)) (dCons (dC (.int 2147483489)) dNil)))) (dOp fMod (dVar 0) (dC (.int 9))))))
theorem m_law_gprime : Meets t_law_gprime 1 1 sp_law_gprime := by
  rintro args Qd Xd ⟨i, rfl, hi, hQ⟩
  show t_law_gprime _ _ [_, _]
  unfold t_law_gprime
  trivial
  refine ⟨by decide, by decide, by decide, by decide, ?_⟩
  have h : i % 9 = 0 ∨ i % 9 = 1 ∨ i % 9 = 2 ∨ i % 9 = 3 ∨ i % 9 = 4 ∨ i % 9 = 5 ∨ i % 9 = 6 ∨ i % 9 = 7 ∨ i % 9 = 8 := by omega
  rcases h with h | h | h | h | h | h | h | h | h <;> rw [h] <;> exact ⟨_, rfl, hQ _ _ (by decide) (by decide)⟩
def sp_law_gfresh : DSpec := fun args Q _ => ∃ (n : Nat) (a : Addr) (ds : List D), args = [.lst a ds] ∧ JarOk n ds ∧ n < 4294967296 ∧ ∀ (r : Int) ds' fin, JarOk (n + 1) ds' → Q (dI r) (.lst a ds' :: fin)
def k1_law_gfresh : DTS :=
    (sSeq (sSetE 3 (dOp fMod (dOp fPow (dOp fAdd (dOp fAdd (dOp fMul (dOp fMod (dVar 2) (dC (.int 2147483477))) (dOp fAdd (dVar 1) (dC (.int 1)))) (dOp fMul (dC (.int 104729)) (dVar 1))) (dC (.int 17))) (dC (.int 5))) (dCall sp_law_gprime (dCons (dVar 1) dNil))))
    (sSeq (sSetE 4 (dOp fMod (dOp fPow (dOp fAdd (dOp fAdd (dOp fMul (dVar 3) (dOp fAdd (dVar 1) (dC (.int 3)))) (dOp fMod (dVar 2) (dC (.int 65537)))) (dC (.int 1))) (dC (.int 3))) (dCall sp_law_gprime (dCons (dOp fAdd (dVar 1) (dC (.int 4))) dNil))))
    (sSeq (sSetE 5 (dOp fMod (dOp fAdd (dOp fMul (dVar 4) (dVar 4)) (dVar 3)) (dCall sp_law_gprime (dCons (dOp fAdd (dVar 1) (dC (.int 7))) dNil))))
    (sRet (dOp fAdd (dOp fMul (dOp fAdd (dOp fMul (dVar 5) (dC (.int 2147483647))) (dVar 4)) (dC (.int 2147483629))) (dVar 3))))))
def k2_law_gfresh : DTS :=
    (sSeq (sIf (dAnd (dTest (dOp (fCmp fun i j => decide (i < j)) (dVar 1) (dCB fLen (dCons (dOp fIx (dVar 0) (dC (.int 0))) dNil)))) (dTest (dOp (fCmp fun i j => decide (j ≤ i)) (dVar 2) (dOp fPow (dC (.int 10)) (dC (.int 18)))))) (sRet (dVar 2)) sNext)
    k1_law_gfresh)
def t_law_gfresh : DTS :=
    (sSeq (sSetE 1 (dOp fIx (dVar 0) (dC (.int 1))))
    (sSeq (sSetItem 0 (dC (.int 1)) (dOp fAdd (dVar 1) (dC (.int 1))))
    (sSeq (sSetE 2 (dOp fAdd (dOp fMul (dC (.int 7)) (dVar 1)) (dC (.int 3))))
    (sSeq (sIf (dTest (dOp (fCmp fun i j => decide (i < j)) (dVar 1) (dCB fLen (dCons (dOp fIx (dVar 0) (dC (.int 0))) dNil)))) (sSetE 2 (dOp fIx (dOp fIx (dVar 0) (dC (.int 0))) (dVar 1))) (sIf (dTest (dOp (fCmp fun i j => decide (j < i)) (dCB fLen (dCons (dOp fIx (dVar 0) (dC (.int 0))) dNil)) (dC (.int 0)))) (sSetE 2 (dOp fAdd (dOp fMul (dOp fMod (dOp fIx (dOp fIx (dVar 0) (dC (.int 0))) (dOp fMod (dVar 1) (dCB fLen (dCons (dOp fIx (dVar 0) (dC (.int 0))) dNil)))) (dC (.int 1000003))) (dOp fAdd (dVar 1) (dC (.int 1)))) (dVar 1))) sNext))
    k2_law_gfresh))))
theorem q1_law_gfresh {Ex : DX} {E : DEnds} {n : Nat} {a : Addr} {cells : List Int} {at' left c : Int} {s3 s4 s5 : Sl} (h0 : 0 ≤ at') (h1 : at' ≤ n) (hn : n < 4294967296)
    (hE : ∀ r ds' env, JarOk (n + 1) ds' → E.rt (dI r) (.lst a ds' :: env)) : k1_law_gfresh Ex E [.lst a [.lst (iD cells), .int (at' + 1), .int left], dI at', dI c, s3, s4, s5] := by
  have hj : JarOk (n + 1) [.lst (iD cells), .int (at' + 1), .int left] := ⟨cells, at' + 1, left, rfl, by omega, by omega⟩
  unfold k1_law_gfresh
  trivial
  have b0 := Int.emod_nonneg c (b := 2147483477) (by omega)
  have b1 := Int.emod_lt_of_pos c (b := 2147483477) (by omega)
  have b2 := Int.emod_nonneg c (b := 65537) (by omega)
  have b3 := Int.emod_lt_of_pos c (b := 65537) (by omega)
  generalize c % 2147483477 = c1 at *
  have g0 : 0 ≤ c1 * (at' + 1) := Int.mul_nonneg b0 (by omega)
  have g1 : c1 * (at' + 1) ≤ 2147483477 * 4294967296 := Int.mul_le_mul (by omega) (by omega) (by omega) (by omega)
  refine ⟨by decide, cmul64 (by omega) (by omega) (by omega) (by omega), cmul64 (by omega) (by omega) (by omega) (by omega), ⟨by decide, by decide, by omega⟩, at', rfl, h0, fun p fin p0 p1 => ?_⟩
  trivial
  have o0 := Int.emod_nonneg ((c1 * (at' + 1) + 104729 * at' + 17) ^ Int.toNat 5) (b := p) (by omega)
  have o1 := Int.emod_lt_of_pos ((c1 * (at' + 1) + 104729 * at' + 17) ^ Int.toNat 5) (b := p) (by omega)
  generalize (c1 * (at' + 1) + 104729 * at' + 17) ^ Int.toNat 5 % p = one at *
  generalize c % 65537 = c2 at *
  have g2 : 0 ≤ one * (at' + 3) := Int.mul_nonneg o0 (by omega)
  have g3 : one * (at' + 3) ≤ 2147483647 * 4294967300 := Int.mul_le_mul (by omega) (by omega) (by omega) (by omega)
  refine ⟨by omega, cmul64 (by omega) (by omega) (by omega) (by omega), by decide, ⟨by decide, by decide, by omega⟩, at' + 4, rfl, by omega, fun p' fin' p0' p1' => ?_⟩
  trivial
  have t0 := Int.emod_nonneg ((one * (at' + 3) + c2 + 1) ^ Int.toNat 3) (b := p') (by omega)
  have t1 := Int.emod_lt_of_pos ((one * (at' + 3) + c2 + 1) ^ Int.toNat 3) (b := p') (by omega)
  generalize (one * (at' + 3) + c2 + 1) ^ Int.toNat 3 % p' = two at *
  refine ⟨by omega, cmul64 (by omega) (by omega) (by omega) (by omega), at' + 7, rfl, by omega, fun p2 fin2 p20 p21 => ?_⟩
  trivial
  have u0 := Int.emod_nonneg (two * two + one) (b := p2) (by omega)
  have u1 := Int.emod_lt_of_pos (two * two + one) (b := p2) (by omega)
  generalize (two * two + one) % p2 = three at *
  exact ⟨by omega, cmul64 (by omega) (by omega) (by omega) (by omega), cmul64 (by omega) (by omega) (by omega) (by omega), hE _ _ _ hj⟩
theorem q2_law_gfresh {Ex : DX} {E : DEnds} {n : Nat} {a : Addr} {cells : List Int} {at' left c : Int} {s3 s4 s5 : Sl} (h0 : 0 ≤ at') (h1 : at' ≤ n) (hn : n < 4294967296)
    (hE : ∀ r ds' env, JarOk (n + 1) ds' → E.rt (dI r) (.lst a ds' :: env)) : k2_law_gfresh Ex E [.lst a [.lst (iD cells), .int (at' + 1), .int left], dI at', dI c, s3, s4, s5] := by
  have hj : JarOk (n + 1) [.lst (iD cells), .int (at' + 1), .int left] := ⟨cells, at' + 1, left, rfl, by omega, by omega⟩
  unfold k2_law_gfresh
  trivial
  split
  · refine ⟨⟨by decide, by decide, by decide⟩, ?_⟩
    split
    · exact hE _ _ _ hj
    · exact q1_law_gfresh h0 h1 hn hE
  · exact q1_law_gfresh h0 h1 hn hE
theorem m_law_gfresh : Meets t_law_gfresh 1 5 sp_law_gfresh := by
  rintro args Qd Xd ⟨n, a, ds, rfl, ⟨cells, at', left, rfl, h0, h1⟩, hn, hQ⟩
  show t_law_gfresh _ _ [_, .un, .un, .un, .un, .un]
  unfold t_law_gfresh
  trivial
  have k2 : ∀ {c : Int} {s3 s4 s5 : Sl}, k2_law_gfresh (exOf [Sl.lst a [D.lst (iD cells), D.int at', D.int left]] Xd) (endsOf [Sl.lst a [D.lst (iD cells), D.int at', D.int left]] Qd) [.lst a [.lst (iD cells), .int (at' + 1), .int left], dI at', dI c, s3, s4, s5] :=
    fun {c s3 s4 s5} => q2_law_gfresh h0 h1 hn fun r ds' env hj => by
      trivial
      exact hQ _ _ _ hj
  refine ⟨cmul64 (by omega) (by omega) (by omega) (by omega), ?_⟩
  rw [iD_len]
  split
  · rename_i hl
    have hj : at'.toNat < cells.length := by omega
    refine ⟨.int (cells[at'.toNat]), atI_int h0 (by simp [List.getElem?_map, List.getElem?_eq_getElem hj]), ?_⟩
    exact k2
  · split
    · rename_i h1 hl
      have z0 := Int.emod_nonneg at' (b := (cells.length : Int)) (by omega)
      have z1 := Int.emod_lt_of_pos at' hl
      refine ⟨hl, ?_⟩
      have hj : (at' % (cells.length : Int)).toNat < cells.length := by omega
      refine ⟨.int (cells[(at' % (cells.length : Int)).toNat]), atI_int z0 (by simp [List.getElem?_map, List.getElem?_eq_getElem hj]), ?_⟩
      trivial
      have b0 := Int.emod_nonneg cells[(at' % (cells.length : Int)).toNat] (b := 1000003) (by omega)
      have b1 := Int.emod_lt_of_pos cells[(at' % (cells.length : Int)).toNat] (b := 1000003) (by omega)
      refine ⟨by decide, cmul64 (by omega) (by omega) (by omega) (by omega), ?_⟩
      exact k2
    · exact k2
/-- a number that may be drawn below -/
def GdOk (m : Int) : Prop := 0 < m ∧ m.natAbs < 2 ^ 1000
theorem gdok {m : Int} (h0 : 0 < m) (h1 : m < 18446744073709551616) : GdOk m := ⟨h0, Nat.lt_of_lt_of_le (by omega : m.natAbs < 2 ^ 64) (Nat.pow_le_pow_right (by decide) (by decide))⟩
def sp_law_gdraw : DSpec := fun args Q _ => ∃ (n : Nat) (a : Addr) (ds : List D) (m : Int), args = [.lst a ds, dI m] ∧ JarOk n ds ∧ n < 4294967296 ∧ GdOk m ∧
  ∀ (r : Int) ds' fin, 0 ≤ r → r < m → JarOk (n + 1) ds' → Q (dI r) (.lst a ds' :: fin)
def k1_law_gdraw : DTS :=
    (sSeq (sSetE 2 (dOp fMod (dOp fIx (dVar 0) (dC (.int 2))) (dVar 1)))
    (sSeq (sSetItem 0 (dC (.int 2)) (dOp fDiv (dOp fIx (dVar 0) (dC (.int 2))) (dVar 1)))
    (sRet (dVar 2))))
def t_law_gdraw : DTS :=
    (sSeq (sIf (dTest (dOp (fCmp fun i j => decide (i < j)) (dOp fIx (dVar 0) (dC (.int 2))) (dVar 1))) (sSetItem 0 (dC (.int 2)) (dCallJ sp_law_gfresh 0 dNil)) sNext)
    k1_law_gdraw)
theorem q1_law_gdraw {Ex : DX} {E : DEnds} {n : Nat} {a : Addr} {m : Int} {ds : List D} {s2 : Sl} (hj : JarOk n ds) (hm0 : 0 < m) (hm1 : m.natAbs < 2 ^ 1000)
    (hE : ∀ r ds' env, 0 ≤ r → r < m → JarOk n ds' → E.rt (dI r) (.lst a ds' :: env)) : k1_law_gdraw Ex E [.lst a ds, dI m, s2] := by
  obtain ⟨cells, at', left, rfl, h0, h1⟩ := hj
  unfold k1_law_gdraw
  trivial
  refine ⟨hm0, ⟨hm0, ?_⟩, hE _ _ _ (Int.emod_nonneg _ (by omega)) (Int.emod_lt_of_pos _ hm0) ⟨cells, at', _, rfl, h0, by omega⟩⟩
  have : m.natAbs.log2 < 1000 := (Nat.log2_lt (by omega)).2 hm1
  omega
theorem m_law_gdraw : Meets t_law_gdraw 2 1 sp_law_gdraw := by
  rintro args Qd Xd ⟨n, a, ds, m, rfl, hj, hn, ⟨hm0, hm1⟩, hQ⟩
  show t_law_gdraw _ _ [_, _, .un]
  unfold t_law_gdraw
  have hj' := hj
  obtain ⟨cells, at', left, rfl, h0, h1⟩ := hj'
  trivial
  have k1 : ∀ {ds1 : List D}, JarOk (n + 1) ds1 → k1_law_gdraw (exOf [Sl.lst a [D.lst (iD cells), D.int at', D.int left], dI m] Xd) (endsOf [Sl.lst a [D.lst (iD cells), D.int at', D.int left], dI m] Qd) [.lst a ds1, dI m, .un] :=
    fun {ds1} hj1 => q1_law_gdraw hj1 hm0 hm1 fun r ds' env r0 r1 hj2 => by
      trivial
      exact hQ _ _ _ r0 r1 hj2
  split
  · refine ⟨n, a, _, rfl, hj, hn, fun r ds' fin hj1 => ?_⟩
    obtain ⟨cells1, at1, left1, rfl, h01, h11⟩ := hj1
    trivial
    exact k1 ⟨cells1, at1, _, rfl, h01, h11⟩
  · exact k1 (hj.up (by omega))
def sp_law_gword : DSpec := sp_law_word
def sp_law_gunit : DSpec := sp_law_nothing
def t_law_gunit : DTS :=
    (sRet (dTable [(Str.ofString "sum", 1), (Str.ofString "any", 1), (Str.ofString "most", 0), (Str.ofString "least", 0), (Str.ofString "wide", 1000000000000000000000000000000)] 0))
theorem m_law_gunit : Meets t_law_gunit 1 0 sp_law_gunit := m_law_nothing
def sp_law_gjoin : DSpec := sp_join
def t_law_gjoin : DTS :=
    (sSeq (sIf (dTest (dOp fEq (dVar 0) (dC (.str (Str.ofString "sum"))))) (sRet (dOp fMul (dVar 1) (dVar 2))) sNext)
    (sRet (dIf (dTest (dOp (fIn false) (dVar 0) (dTup (dCons (dC (.str (Str.ofString "most"))) (dCons (dC (.str (Str.ofString "least"))) dNil))))) (dOp fAdd (dVar 1) (dVar 2)) (dCB fMin (dCons (dVar 1) (dCons (dVar 2) dNil))))))
theorem m_law_gjoin : Meets t_law_gjoin 3 0 sp_law_gjoin := by
  rintro args Qd Xd ⟨w, i, j, rfl, hc, hQ⟩
  show t_law_gjoin _ _ [_, _, _]
  unfold t_law_gjoin
  trivial
  simp only [w_sum, w_in_ml, flat_ml, D.flat, decide_eq_true_eq, true_and]
  cases w <;> simp only [reduceCtorEq, if_true, if_false, or_true, true_or, or_false, and_true] <;> first | exact ⟨hc, hQ _⟩ | exact ⟨by decide, hQ _⟩
def sp_unit : DSpec := sp_law_nothing
def t_unit : DTS :=
    (sSeq (sIf (dTest (dOp (fIn false) (dVar 0) (dTup (dCons (dC (.str (Str.ofString "sum"))) (dCons (dC (.str (Str.ofString "any"))) dNil))))) (sRet (dC (.int 1))) sNext)
    (sRet (dIf (dTest (dOp fEq (dVar 0) (dC (.str (Str.ofString "wide"))))) (dC (.int 1000000000000000000000000000000)) (dC (.int 0)))))
theorem w_in_sa (w : Wd) : (D.str w.s).isIn [.str (Str.ofString "sum"), .str (Str.ofString "any")] = decide (w = .sum ∨ w = .any) := by cases w <;> decide +kernel
theorem m_unit : Meets t_unit 1 0 sp_unit := by
  rintro args Qd Xd ⟨w, rfl, hQ⟩
  show t_unit _ _ [_]
  unfold t_unit
  trivial
  simp only [w_in_sa, w_wide, D.flat, decide_eq_true_eq, true_and]
  cases w <;> simp only [reduceCtorEq, if_true, if_false, or_true, true_or, or_false, and_true] <;> exact ⟨by decide, rfl, hQ _⟩
def sp_law_gfillings : DSpec := sp_fillings_of
def e1_law_gfillings : DT :=
    (dOp fAdd (dVar 5) (dTup (dCons (dVar 6) dNil)))
def b2_law_gfillings : DTS :=
    (sDrop (dExtend 4 (dLc (dRange1 (dCons (dOp fIx (dVar 0) (dVar 3)) dNil)) (gSet 6) dYes e1_law_gfillings [6])))
def k3_law_gfillings : DTS :=
    (sSetE 2 (dVar 4))
def b4_law_gfillings : DTS :=
    (sSeq (sSet 4 (dLst dNil))
    (sSeq (sFor (dSeq (dVar 2)) (gSet 5) b2_law_gfillings)
    k3_law_gfillings))
def k5_law_gfillings : DTS :=
    (sRet (dVar 2))
def t_law_gfillings : DTS :=
    (sSeq (sSetE 2 (dLst (dCons (dTup dNil) dNil)))
    (sSeq (sFor (dSeq (dVar 1)) (gSet 3) b4_law_gfillings)
    k5_law_gfillings))
theorem m_law_gfillings : Meets t_law_gfillings 2 5 sp_law_gfillings := m_fillings_of
end LS

/-! GB: worths at a filling; drawn sheets -/
namespace LS
open PySem L2 HD PM
local macro_rules | `(tactic| trivial) => `(tactic| try simp -dsimp only [↓sSeq, ↓sIf, ↓sRet, ↓retD_ext, ↓retD_lst, ↓retD_al, ↓sSet, ↓sSetE, ↓sAsg, ↓sDrop, ↓sNext, ↓sFor, ↓sRetN, ↓sCont, ↓sBreak, ↓dTest, ↓dOp, ↓dVar_w, ↓dC, ↓dCons, ↓dNil, ↓dTup, ↓dLst, ↓frzDs, ↓frzD_ext, ↓frzD_lst, ↓frzD_al, ↓wd_ext, ↓wd_lst, ↓wd_al, ↓wds, ↓AtS_ext, ↓AtS_lst, ↓AtL, ↓fAdd, ↓fSub, ↓fMul, ↓fDiv, ↓fMod, ↓fPow, ↓fCmp, ↓fIn, ↓fEq_ii, ↓fEq_ss, ↓fEq_bb, ↓fEq_tt, ↓fEq_ll, ↓fNe_ii, ↓fNe_ss, ↓fNe_bb, ↓fNe_tt, ↓fNe_ll, ↓fIx_l, ↓fIx_t, ↓fIx_k, ↓fIx_f, ↓GetS_some, ↓NatS_some, ↓fSl, ↓fIsN, ↓fNotN, ↓D.knN, ↓dNot, ↓dAnd, ↓dOr, ↓dAndV_w, ↓dOrV_w, ↓dNotV, ↓dIf, ↓dNeg, ↓dChain_w, ↓BlS_bl, ↓dCall_w, ↓dCallJ_w, ↓anyAl, ↓frozs, ↓froz, ↓gSet, ↓gTupD, ↓gsCons, ↓gsNil, ↓dSeq, ↓seqD_tup, ↓seqD_elst, ↓seqD_lst, ↓seqD_al, ↓dRange1, ↓dRange2, ↓dZip, ↓dCB, ↓dLc, ↓dYes, ↓dNoPart, ↓dPart, ↓dSl, ↓fLen, ↓fMin, ↓fMax, ↓fSum, ↓fAll, ↓fAny, ↓fSorted, ↓fTuple, ↓fList, ↓dRg1, ↓dRg2, ↓dLstRg, ↓dTupRg, ↓dIndex, ↓fIdx, ↓dAppend_w, ↓dExtend_w, ↓extD_lst, ↓dPopAt_w, ↓popD_int, ↓dPop_w, ↓mutD_w, ↓sSetItem_w, ↓setD_int, ↓dSortSet, ↓dTable_w, ↓wipeE, finals1, finals2, finals3, finals4, finals5, finals6, fin1_ext, fin1_lst, List.getElem?_cons_zero, List.getElem?_cons_succ, List.getElem?_nil, List.set_cons_zero, List.set_cons_succ, List.cons_append, List.nil_append, List.append_nil, List.replicate_succ, List.replicate_zero, List.map_cons, List.map_nil, List.length_cons, List.length_nil, true_and, and_true, ite_true, ite_false, if_true, if_false, Bool.false_eq_true, decide_eq_true_eq, Sl.plain, D.isSq, eq_self_iff_true, forall_const, reduceIte, true_or, or_true, atI_0, atI_1, atI_2, atI_3, ixN_0, ixN_1, ixN_2, AtS_ext, AtS_lst, FzS_lst, FzS_ext, GetS_some, NatS_some, ↓fIsi1, ↓fIsi2, BoolS_some, HD.kb_non_tuple, HD.kb_non_list, HD.kb_non_bool, HD.kb_non_int, HD.kb_non_str, HD.kb_bl_tuple, HD.kb_bl_list, HD.kb_bl_bool, HD.kb_bl_int, HD.kb_bl_str, HD.kb_int_tuple, HD.kb_int_list, HD.kb_int_bool, HD.kb_int_int, HD.kb_int_str, HD.kb_str_tuple, HD.kb_str_list, HD.kb_str_bool, HD.kb_str_int, HD.kb_str_str, HD.kb_lst_tuple, HD.kb_lst_list, HD.kb_lst_bool, HD.kb_lst_int, HD.kb_lst_str, HD.kb_tup_tuple, HD.kb_tup_list, HD.kb_tup_bool, HD.kb_tup_int, HD.kb_tup_str, ↓sFz_w, ↓FzS_lst, ↓FzS_ext, ↓dSortSetL, ↓fAbs, ↓fInt, ↓fRepr, ↓fLtT, ↓sRaise, ↓sTryKeep, ↓dCallV_w, ↓dMeth, ↓fCount, ↓fSplit])
/-- all parts' worths joined -/
def jAll (w : Wd) (S : List Nat) (ps : List Part) (g : Nat → Nat) : Int := ps.foldl (fun acc p => jn w acc (val S p g)) (unitW w)
abbrev dPs (ps : List Part) : D := .tup (ps.map dP)
abbrev dSh (S : List Nat) (ps : List Part) : D := .tup [.tup (nD S), dPs ps]
structure ShOk (S : List Nat) (ps : List Part) : Prop where
  sz : SzOk S
  one : 0 < S.length
  ok : ∀ p ∈ ps, p.Ok S
  bd : ∃ b, 0 < b ∧ b * ps.length ≤ 40 * max ps.length 20 ∧ ∀ p ∈ ps, Bd b p
  few : ps.length ≤ 60
/-- the same with small numbers -/
structure ShO4 (S : List Nat) (ps : List Part) : Prop extends ShOk S ps where
  b4 : ∀ p ∈ ps, Bd 40 p
instance {S : List Nat} {ps : List Part} : Coe (ShO4 S ps) (ShOk S ps) := ⟨fun h => h.toShOk⟩
theorem ShO4.mk4 {S : List Nat} {ps : List Part} (sz : SzOk S) (one : 0 < S.length) (ok : ∀ p ∈ ps, p.Ok S) (bd : ∀ p ∈ ps, Bd 40 p) (few : ps.length ≤ 60) : ShO4 S ps :=
  ⟨⟨sz, one, ok, ⟨40, by decide, by omega, bd⟩, few⟩, bd⟩
theorem unit_bd (w : Wd) : (unitW w).natAbs < 2 ^ 100 := by cases w <;> decide
theorem val_bd {S : List Nat} {p : Part} {g : Nat → Nat} (hp : p.Ok S) {b : Nat} (hb : Bd b p) (hg : Fit S p.ns g) : (val S p g).natAbs < 2 ^ b := hb _ (val_mem hp hg)
theorem fold_bd {w : Wd} {S : List Nat} {g : Nat → Nat} {b : Nat} (hb0 : 0 < b) (ps : List Part) : ∀ (acc : Int) (k : Nat), 0 < k → acc.natAbs < 2 ^ k → (∀ p ∈ ps, p.Ok S ∧ Bd b p ∧ Fit S p.ns g) → (ps.foldl (fun acc p => jn w acc (val S p g)) acc).natAbs < 2 ^ (k + b * ps.length) := by
  induction ps with
  | nil => intro acc k _ h _; simpa using h
  | cons p ps ih =>
    intro acc k hk h hp
    obtain ⟨h1, h2, h3⟩ := hp p List.mem_cons_self
    have := ih (jn w acc (val S p g)) (k + b) (by omega) (jn_bd hk hb0 h (val_bd h1 h2 h3)) (fun q hq => hp q (List.mem_cons_of_mem _ hq))
    rw [List.length_cons, show k + b * (ps.length + 1) = k + b + b * ps.length by rw [Nat.mul_add]; omega]
    exact this
theorem jAll_bd {w : Wd} {S : List Nat} {ps : List Part} {g : Nat → Nat} {b : Nat} (hb : 0 < b) (h : ∀ p ∈ ps, p.Ok S ∧ Bd b p ∧ Fit S p.ns g) : (jAll w S ps g).natAbs < 2 ^ (100 + b * ps.length) := fold_bd hb ps _ 100 (by decide) (unit_bd w) h
/-! ### the program: a part's worth at a filling -/
def FitF (S : List Nat) (f : List Nat) : Prop := f.length = S.length ∧ ∀ n, n < S.length → f.getD n 0 < sz S n
theorem FitF.fit {S f : List Nat} {p : Part} (h : FitF S f) (hp : p.Ok S) : Fit S p.ns fun n => f.getD n 0 := fun n hn => h.2 n (hp.lt n hn)
def sp_worth_at : DSpec := fun args Q _ => ∃ (S : List Nat) (p : Part) (f : List Nat), args = [dSz S, .ext (dP p), .ext (.tup (nD f))] ∧ SzOk S ∧ p.Ok S ∧ FitF S f ∧ ∀ fin, Q (dI (val S p fun n => f.getD n 0)) fin
def e1_worth_at : DT :=
    (dOp fIx (dVar 2) (dVar 5))
def t_worth_at : DTS :=
    (sSeq (sAsg (dVar 1) (gTupD 2 (gsCons (gSet 3) (gsCons (gSet 4) gsNil))))
    (sRet (dOp fIx (dVar 4) (dCall sp_place_of (dCons (dVar 0) (dCons (dVar 3) (dCons (dLc (dSeq (dVar 3)) (gSet 5) dYes e1_worth_at [5]) dNil)))))))
theorem m_worth_at : Meets t_worth_at 3 3 sp_worth_at := by
  rintro args Qd Xd ⟨S, p, f, rfl, hS, hp, hf, hQ⟩
  show t_worth_at _ _ [_, _, _, .un, .un, .un]
  unfold t_worth_at
  trivial
  have hfit := hf.fit hp
  refine lc_map (fun n : Nat => D.int (n : Int)) (fun n : Nat => D.int ((f.getD n 0 : Nat) : Int)) True.intro p.ns (Nat.le_trans (ok_len hS hp) (by decide)) (fun n hn R hR => ?_) fun b => ?_
  · unfold e1_worth_at
    trivial
    refine ⟨_, atN (getD_at (by rw [hf.1]; exact hp.lt n hn)), ?_⟩
    trivial
    exact hR
  trivial
  refine ⟨S, p.ns, p.ns.map fun n => f.getD n 0, _, rfl, .inl (by rw [nD, List.map_map]; rfl), Part.Ok.both hS hp, good_map hfit, Part.Ok.psz hS hp, fun fin => ?_⟩
  trivial
  refine ⟨_, atN (iD_at (val_at hp hfit)), ?_⟩
  trivial
  exact hQ _
def sp_joined_at : DSpec := fun args Q _ => ∃ (w : Wd) (S : List Nat) (ps : List Part) (f : List Nat), args = [dW w, .ext (dSh S ps), .ext (.tup (nD f))] ∧ ShOk S ps ∧ FitF S f ∧ ∀ fin, Q (dI (jAll w S ps fun n => f.getD n 0)) fin
def b1_joined_at : DTS :=
    (sSetE 3 (dCall sp_join (dCons (dVar 0) (dCons (dVar 3) (dCons (dCall sp_worth_at (dCons (dOp fIx (dVar 1) (dC (.int 0))) (dCons (dVar 4) (dCons (dVar 2) dNil)))) dNil)))))
def k2_joined_at : DTS :=
    (sRet (dVar 3))
def t_joined_at : DTS :=
    (sSeq (sSetE 3 (dCall sp_unit (dCons (dVar 0) dNil)))
    (sSeq (sFor (dSeq (dOp fIx (dVar 1) (dC (.int 1)))) (gSet 4) b1_joined_at)
    k2_joined_at))
theorem m_joined_at : Meets t_joined_at 3 2 sp_joined_at := by
  rintro args Qd Xd ⟨w, S, ps, f, rfl, hs, hf, hQ⟩
  show t_joined_at _ _ [_, _, _, .un, .un]
  unfold t_joined_at
  trivial
  refine ⟨w, rfl, fun fin => ?_⟩
  trivial
  have hfew := hs.few
  obtain ⟨bb, hbz, hbl, hbb⟩ := hs.bd
  have hbl : bb * ps.length ≤ 2400 := by omega
  refine for_ind dP (fun qs env => ∃ (acc : Int) (k : Nat) (u4 : Sl), env = [dW w, .ext (dSh S ps), .ext (.tup (nD f)), dI acc, u4] ∧ 0 < k ∧ k + bb * qs.length ≤ 3000 ∧ acc.natAbs < 2 ^ k ∧ (∀ p ∈ qs, p.Ok S ∧ Bd bb p) ∧
    qs.foldl (fun acc p => jn w acc (val S p fun n => f.getD n 0)) acc = jAll w S ps fun n => f.getD n 0) ?_ ?_ ps _ ⟨unitW w, 100, _, rfl, by decide, by omega, unit_bd w, fun p hp => ⟨hs.ok p hp, hbb p hp⟩, rfl⟩
  · rintro env ⟨acc, k, u4, rfl, _, _, _, _, h⟩
    refine ⟨True.intro, ?_⟩
    rw [List.foldl_nil] at h
    subst h
    unfold k2_joined_at
    trivial
    exact hQ _
  · rintro p qs env N ⟨acc, k, u4, rfl, hk, hl, hb, hp, h⟩ hN
    rw [List.length_cons, Nat.mul_add] at hl
    obtain ⟨h1, h2⟩ := hp p List.mem_cons_self
    have hv := val_bd h1 h2 (hf.fit h1)
    refine ⟨True.intro, ?_⟩
    unfold b1_joined_at
    trivial
    refine ⟨S, p, f, rfl, hs.sz, h1, hf, fun fin => ?_⟩
    trivial
    refine ⟨w, acc, _, rfl, cmulN hb hv (by omega), fun fin => ?_⟩
    trivial
    exact hN _ ⟨_, k + bb, _, rfl, by omega, by omega, jn_bd hk hbz hb hv, fun q hq => hp q (List.mem_cons_of_mem _ hq), h⟩
/-! ### all fillings -/
def allF (S : List Nat) : List (List Nat) := fills S (List.range S.length)
theorem prodN_range (S : List Nat) : (List.range S.length).map (sz S) = S := by
  apply List.ext_getElem
  · simp
  · intro i h1 h2
    simp [sz, List.getD_eq_getElem?_getD, List.getElem?_eq_getElem h2]
theorem psz_all (S : List Nat) : psz S (List.range S.length) = prodN S := by unfold psz; rw [prodN_range]
theorem rng_both {S : List Nat} (hS : SzOk S) : ∀ n ∈ List.range S.length, n < S.length ∧ 0 < sz S n := fun n hn => ⟨List.mem_range.1 hn, hS.pos _ (sz_mem (List.mem_range.1 hn))⟩
theorem rng_rise (n : Nat) : Rising (List.range n) := List.pairwise_lt_range
theorem ats_rng {m : Nat} {f : List Nat} (h : f.length = m) {n : Nat} (hn : n < m) : ats (List.range m) f n = f.getD n 0 := by
  unfold ats
  congr 1
  have hl := List.idxOf_lt_length_of_mem (List.mem_range.2 hn)
  have := List.getElem_idxOf hl
  rwa [List.getElem_range] at this
theorem allF_fit {S f : List Nat} (h : f ∈ allF S) : FitF S f := by
  have hg := mem_fills.1 h
  have hl := hg.len
  rw [List.length_range] at hl
  refine ⟨hl, fun n hn => ?_⟩
  have := ats_lt hg (n := n) (List.mem_range.2 hn)
  rwa [ats_rng hl hn] at this
theorem allF_len {S : List Nat} (hS : SzOk S) : (allF S).length ≤ 4096 := by unfold allF; rw [len_fills, psz_all]; exact hS.prod
def sp_all_fillings : DSpec := fun args Q _ => ∃ (S : List Nat) (ps : List Part), args = [.ext (dSh S ps)] ∧ ShOk S ps ∧ ∀ fin, Q (.ext (.lst (fD (allF S)))) fin
def t_all_fillings : DTS :=
    (sRet (dCall sp_fillings_of (dCons (dOp fIx (dVar 0) (dC (.int 0))) (dCons (dLstRg (dRg1 (dCB fLen (dCons (dOp fIx (dVar 0) (dC (.int 0))) dNil)))) dNil))))
theorem m_all_fillings : Meets t_all_fillings 1 0 sp_all_fillings := by
  rintro args Qd Xd ⟨S, ps, rfl, hs, hQ⟩
  show t_all_fillings _ _ [_]
  unfold t_all_fillings
  trivial
  have h24 := hs.sz.few
  rw [nD_len]
  refine ⟨⟨by decide, by omega, by omega⟩, fun b => ?_⟩
  rw [rgD_nat]
  refine ⟨S, List.range S.length, fArgs_tl, rng_both hs.sz, by rw [psz_all]; exact hs.sz.prod, by simp; omega, fun fin => ?_⟩
  trivial
  exact hQ _
/-! ### the law's own: worths at a filling -/
def sp_law_gat : DSpec := fun args Q _ => ∃ (w : Wd) (S : List Nat) (ps : List Part) (f : List Nat), args = [dW w, dSz S, .ext (dPs ps), .ext (.tup (nD f))] ∧ ShOk S ps ∧ FitF S f ∧ ∀ fin, Q (dI (jAll w S ps fun n => f.getD n 0)) fin
def b1_law_gat : DTS :=
    (sSetE 7 (dOp fAdd (dOp fMul (dVar 7) (dOp fIx (dVar 1) (dVar 8))) (dOp fIx (dVar 3) (dVar 8))))
def k2_law_gat : DTS :=
    (sSetE 4 (dCall sp_law_gjoin (dCons (dVar 0) (dCons (dVar 4) (dCons (dOp fIx (dVar 6) (dVar 7)) dNil)))))
def b3_law_gat : DTS :=
    (sSeq (sSetE 7 (dC (.int 0)))
    (sSeq (sFor (dSeq (dVar 5)) (gSet 8) b1_law_gat)
    k2_law_gat))
def k4_law_gat : DTS :=
    (sRet (dVar 4))
def t_law_gat : DTS :=
    (sSeq (sSetE 4 (dCall sp_law_gunit (dCons (dVar 0) dNil)))
    (sSeq (sFor (dSeq (dVar 2)) (gTupD 2 (gsCons (gSet 5) (gsCons (gSet 6) gsNil))) b3_law_gat)
    k4_law_gat))
theorem m_law_gat : Meets t_law_gat 4 5 sp_law_gat := by
  rintro args Qd Xd ⟨w, S, ps, f, rfl, hs, hf, hQ⟩
  show t_law_gat _ _ [_, _, _, _, .un, .un, .un, .un, .un]
  unfold t_law_gat
  trivial
  refine ⟨w, rfl, fun fin => ?_⟩
  trivial
  have hfew := hs.few
  obtain ⟨bb, hbz, hbl, hbb⟩ := hs.bd
  have hbl : bb * ps.length ≤ 2400 := by omega
  refine for_ind dP (fun qs env => ∃ (acc : Int) (k : Nat) (u5 u6 u7 u8 : Sl), env = [dW w, dSz S, .ext (dPs ps), .ext (.tup (nD f)), dI acc, u5, u6, u7, u8] ∧ 0 < k ∧ k + bb * qs.length ≤ 3000 ∧ acc.natAbs < 2 ^ k ∧ (∀ p ∈ qs, p.Ok S ∧ Bd bb p) ∧
    qs.foldl (fun acc p => jn w acc (val S p fun n => f.getD n 0)) acc = jAll w S ps fun n => f.getD n 0) ?_ ?_ ps _ ⟨unitW w, 100, _, _, _, _, rfl, by decide, by omega, unit_bd w, fun p hp => ⟨hs.ok p hp, hbb p hp⟩, rfl⟩
  · rintro env ⟨acc, k, u5, u6, u7, u8, rfl, _, _, _, _, h⟩
    refine ⟨True.intro, ?_⟩
    rw [List.foldl_nil] at h
    subst h
    unfold k4_law_gat
    trivial
    exact hQ _
  · rintro p qs env N ⟨acc, k, u5, u6, u7, u8, rfl, hk, hl, hb, hp, h⟩ hN
    rw [List.length_cons, Nat.mul_add] at hl
    obtain ⟨h1, h2⟩ := hp p List.mem_cons_self
    have hv := val_bd h1 h2 (hf.fit h1)
    refine ⟨True.intro, ?_⟩
    unfold b3_law_gat
    trivial
    have hb0 := Part.Ok.both hs.sz h1
    refine for_ind (fun n : Nat => D.int (n : Int)) (fun ns env => ∃ (at' : Nat) (u8 : Sl), env = [dW w, dSz S, .ext (dPs ps), .ext (.tup (nD f)), dI acc, .ext (.tup (nD p.ns)), .ext (.tup (iD p.ws)), dI (at' : Nat), u8] ∧ (∀ n ∈ ns, n < S.length ∧ 0 < sz S n) ∧ (at' + 1) * psz S ns ≤ 4096 ∧
      pl S at' ns (ns.map fun n => f.getD n 0) = pl S 0 p.ns (p.ns.map fun n => f.getD n 0)) ?_ ?_ p.ns _ ⟨0, _, rfl, hb0, by have := Part.Ok.psz hs.sz h1; omega, rfl⟩
    · rintro env ⟨at', u8, rfl, _, _, he⟩
      refine ⟨True.intro, ?_⟩
      have he : at' = pl S 0 p.ns (p.ns.map fun n => f.getD n 0) := he
      subst he
      unfold k2_law_gat
      trivial
      refine ⟨_, atN (iD_at (val_at h1 (hf.fit h1))), ?_⟩
      trivial
      refine ⟨w, acc, _, rfl, cmulN hb hv (by omega), fun fin => ?_⟩
      trivial
      exact hN _ ⟨_, k + bb, _, _, _, _, rfl, by omega, by omega, jn_bd hk hbz hb hv, fun q hq => hp q (List.mem_cons_of_mem _ hq), h⟩
    · rintro n ns env N' ⟨at', u8, rfl, hn, hl2, he⟩ hN'
      obtain ⟨hn1, hn2⟩ := hn n List.mem_cons_self
      refine ⟨True.intro, ?_⟩
      unfold b1_law_gat
      trivial
      refine ⟨_, atN (sz_at hn1), ?_⟩
      trivial
      have hpos : 0 < psz S ns := prodN_pos fun x hx => by
        obtain ⟨y, hy, rfl⟩ := List.mem_map.1 hx
        exact (hn y (List.mem_cons_of_mem _ hy)).2
      have e : psz S (n :: ns) = sz S n * psz S ns := rfl
      rw [e, ← Nat.mul_assoc] at hl2
      have hm1 : (at' + 1) * sz S n ≤ 4096 := Nat.le_trans (Nat.le_mul_of_pos_right _ hpos) hl2
      have hm2 : at' + 1 ≤ 4096 := Nat.le_trans (Nat.le_mul_of_pos_right _ hn2) hm1
      have hm3 : sz S n ≤ 4096 := Nat.le_trans (Nat.le_mul_of_pos_left _ (by omega)) hm1
      have hfn := hf.2 n hn1
      refine ⟨cmul64 (by omega) (by omega) (by omega) (by omega), _, atN (getD_at (by rw [hf.1]; exact hn1)), ?_⟩
      trivial
      rw [show ((at' : Nat) : Int) * ((sz S n : Nat) : Int) + ((f.getD n 0 : Nat) : Int) = ((at' * sz S n + f.getD n 0 : Nat) : Int) by simp]
      refine hN' _ ⟨at' * sz S n + f.getD n 0, _, rfl, fun m hm => hn m (List.mem_cons_of_mem _ hm), ?_, he⟩
      refine Nat.le_trans (Nat.mul_le_mul_right _ ?_) hl2
      rw [Nat.add_mul]
      omega
end LS

/-! GC: drawn sheets -/
namespace LS
open PySem L2 HD PM
local macro_rules | `(tactic| trivial) => `(tactic| try simp -dsimp only [↓sSeq, ↓sIf, ↓sRet, ↓retD_ext, ↓retD_lst, ↓retD_al, ↓sSet, ↓sSetE, ↓sAsg, ↓sDrop, ↓sNext, ↓sFor, ↓sRetN, ↓sCont, ↓sBreak, ↓dTest, ↓dOp, ↓dVar_w, ↓dC, ↓dCons, ↓dNil, ↓dTup, ↓dLst, ↓frzDs, ↓frzD_ext, ↓frzD_lst, ↓frzD_al, ↓wd_ext, ↓wd_lst, ↓wd_al, ↓wds, ↓AtS_ext, ↓AtS_lst, ↓AtL, ↓fAdd, ↓fSub, ↓fMul, ↓fDiv, ↓fMod, ↓fPow, ↓fCmp, ↓fIn, ↓fEq_ii, ↓fEq_ss, ↓fEq_bb, ↓fEq_tt, ↓fEq_ll, ↓fNe_ii, ↓fNe_ss, ↓fNe_bb, ↓fNe_tt, ↓fNe_ll, ↓fIx_l, ↓fIx_t, ↓fIx_k, ↓fIx_f, ↓GetS_some, ↓NatS_some, ↓fSl, ↓fIsN, ↓fNotN, ↓D.knN, ↓dNot, ↓dAnd, ↓dOr, ↓dAndV_w, ↓dOrV_w, ↓dNotV, ↓dIf, ↓dNeg, ↓dChain_w, ↓BlS_bl, ↓dCall_w, ↓dCallJ_w, ↓anyAl, ↓frozs, ↓froz, ↓gSet, ↓gTupD, ↓gsCons, ↓gsNil, ↓dSeq, ↓seqD_tup, ↓seqD_elst, ↓seqD_lst, ↓seqD_al, ↓dRange1, ↓dRange2, ↓dZip, ↓dCB, ↓dLc, ↓dYes, ↓dNoPart, ↓dPart, ↓dSl, ↓fLen, ↓fMin, ↓fMax, ↓fSum, ↓fAll, ↓fAny, ↓fSorted, ↓fTuple, ↓fList, ↓dRg1, ↓dRg2, ↓dLstRg, ↓dTupRg, ↓dIndex, ↓fIdx, ↓dAppend_w, ↓dExtend_w, ↓extD_lst, ↓dPopAt_w, ↓popD_int, ↓dPop_w, ↓mutD_w, ↓sSetItem_w, ↓setD_int, ↓dSortSet, ↓dTable_w, ↓wipeE, finals1, finals2, finals3, finals4, finals5, finals6, fin1_ext, fin1_lst, List.getElem?_cons_zero, List.getElem?_cons_succ, List.getElem?_nil, List.set_cons_zero, List.set_cons_succ, List.cons_append, List.nil_append, List.append_nil, List.replicate_succ, List.replicate_zero, List.map_cons, List.map_nil, List.length_cons, List.length_nil, true_and, and_true, ite_true, ite_false, if_true, if_false, Bool.false_eq_true, decide_eq_true_eq, Sl.plain, D.isSq, eq_self_iff_true, forall_const, reduceIte, true_or, or_true, atI_0, atI_1, atI_2, atI_3, ixN_0, ixN_1, ixN_2, AtS_ext, AtS_lst, FzS_lst, FzS_ext, GetS_some, NatS_some, ↓fIsi1, ↓fIsi2, BoolS_some, HD.kb_non_tuple, HD.kb_non_list, HD.kb_non_bool, HD.kb_non_int, HD.kb_non_str, HD.kb_bl_tuple, HD.kb_bl_list, HD.kb_bl_bool, HD.kb_bl_int, HD.kb_bl_str, HD.kb_int_tuple, HD.kb_int_list, HD.kb_int_bool, HD.kb_int_int, HD.kb_int_str, HD.kb_str_tuple, HD.kb_str_list, HD.kb_str_bool, HD.kb_str_int, HD.kb_str_str, HD.kb_lst_tuple, HD.kb_lst_list, HD.kb_lst_bool, HD.kb_lst_int, HD.kb_lst_str, HD.kb_tup_tuple, HD.kb_tup_list, HD.kb_tup_bool, HD.kb_tup_int, HD.kb_tup_str, ↓sFz_w, ↓FzS_lst, ↓FzS_ext, ↓dSortSetL, ↓fAbs, ↓fInt, ↓fRepr, ↓fLtT, ↓sRaise, ↓sTryKeep, ↓dCallV_w, ↓dMeth, ↓fCount, ↓fSplit])
def sp_law_gworths : DSpec := fun args Q _ => ∃ (n : Nat) (a : Addr) (ds : List D) (w : Wd) (many : Nat), args = [.lst a ds, dW w, dI (many : Nat)] ∧ JarOk n ds ∧ n + many + 1 < 4294967296 ∧ many ≤ 4096 ∧
  ∀ (ws : List Int) ds' fin, ws.length = many → (∀ x ∈ ws, NumOk w x) → JarOk (n + many + 1) ds' → Q (.ext (.tup (iD ws))) (.lst a ds' :: fin)
def e1_law_gworths : DT :=
    (dOp fIx (dLst (dCons (dC (.int 0)) (dCons (dC (.int 1)) (dCons (dC (.int 1)) (dCons (dOp fMod (dVar 3) (dC (.int 2))) dNil))))) (dCallJ sp_law_gdraw 0 (dCons (dC (.int 4)) dNil)))
def e2_law_gworths : DT :=
    (dOp fSub (dCallJ sp_law_gdraw 0 (dCons (dOp fAdd (dOp fMul (dC (.int 2)) (dOp fPow (dC (.int 10)) (dC (.int 12)))) (dC (.int 1))) dNil)) (dOp fPow (dC (.int 10)) (dC (.int 12))))
def e3_law_gworths : DT :=
    (dOp fSub (dCallJ sp_law_gdraw 0 (dCons (dOp fIx (dLst (dCons (dC (.int 3)) (dCons (dC (.int 13)) (dCons (dC (.int 2)) dNil)))) (dVar 3)) dNil)) (dOp fIx (dLst (dCons (dC (.int 0)) (dCons (dC (.int 4)) (dCons (dC (.int 0)) dNil)))) (dVar 3)))
def t_law_gworths : DTS :=
    (sSeq (sSetE 3 (dCallJ sp_law_gdraw 0 (dCons (dC (.int 4)) dNil)))
    (sSeq (sIf (dTest (dOp fEq (dVar 1) (dC (.str (Str.ofString "any"))))) (sRet (dCB fTuple (dCons (dLc (dRange1 (dCons (dVar 2) dNil)) (gSet 4) dYes e1_law_gworths [4]) dNil))) sNext)
    (sSeq (sIf (dTest (dOp fEq (dVar 3) (dC (.int 3)))) (sRet (dCB fTuple (dCons (dLc (dRange1 (dCons (dVar 2) dNil)) (gSet 4) dYes e2_law_gworths [4]) dNil))) sNext)
    (sRet (dCB fTuple (dCons (dLc (dRange1 (dCons (dVar 2) dNil)) (gSet 4) dYes e3_law_gworths [4]) dNil))))))
theorem q_gworths {te : DT} {Q : Sl → Env' → Prop} {a : Addr} {w : Wd} {many : Nat} {way : Int} {n : Nat} (hn : n + many + 1 < 4294967296) (hm : many ≤ 4096)
    (step : ∀ (m : Nat) (ds : List D) (k : Nat) (N : Sl → Env' → Prop), JarOk m ds → m < 4294967296 → (∀ x ds', NumOk w x → JarOk (m + 1) ds' → N (dI x) [.lst a ds', dW w, dI (many : Nat), dI way, .ext (.int (k : Nat))]) → te noX [.lst a ds, dW w, dI (many : Nat), dI way, .ext (.int (k : Nat))] N)
    {ds : List D} (hj : JarOk (n + 1) ds) (hQ : ∀ b ws ds', ws.length = many → (∀ x ∈ ws, NumOk w x) → JarOk (n + many + 1) ds' → Q (.lst b (iD ws)) [.lst a ds', dW w, dI (many : Nat), dI way, .un]) :
    lcD (gSet 4) dYes te [4] (fun _ => True) Q (nD (List.range many)) [] [.lst a ds, dW w, dI (many : Nat), dI way, .un] := by
  refine lc_ind (fun k : Nat => D.int (k : Int)) (fun xs acc env => ∃ (m : Nat) (ds : List D) (ws : List Int), env = [.lst a ds, dW w, dI (many : Nat), dI way, .un] ∧ acc = iD ws ∧ JarOk m ds ∧ m + xs.length ≤ n + many + 1 ∧ ws.length + xs.length = many ∧ ∀ x ∈ ws, NumOk w x) ?_ ?_ (List.range many) [] _
    ⟨n + 1, ds, [], rfl, rfl, hj, by simp; omega, by simp, by simp⟩
  · rintro acc env ⟨m, ds, ws, rfl, rfl, hj, hm1, hl, hw⟩
    exact ⟨True.intro, fun b => hQ b ws ds (by simpa using hl) hw (hj.up (by simpa using hm1))⟩
  · rintro k xs acc env N ⟨m, ds, ws, rfl, rfl, hj, hm1, hl, hw⟩ hN
    rw [List.length_cons] at hm1 hl
    refine ⟨True.intro, by rw [iD_len]; exact Nat.lt_of_le_of_lt (by omega : ws.length ≤ 4096) (by decide), ?_⟩
    trivial
    refine step m ds k _ hj (by omega) fun x ds' hx hj' => ?_
    trivial
    refine hN _ _ ⟨m + 1, ds', ws ++ [x], rfl, by rw [iD_snoc], hj', by omega, by simp; omega, fun y hy => ?_⟩
    rcases List.mem_append.1 hy with h | h
    · exact hw y h
    · rw [List.mem_singleton.1 h]; exact hx
theorem m_law_gworths : Meets t_law_gworths 3 2 sp_law_gworths := by
  rintro args Qd Xd ⟨n, a, ds, w, many, rfl, hj, hn, hm, hQ⟩
  show t_law_gworths _ _ [_, _, _, .un, .un]
  unfold t_law_gworths
  trivial
  refine ⟨n, a, ds, 4, rfl, hj, by omega, gdok (by decide) (by decide), fun way ds1 fin r0 r1 hj1 => ?_⟩
  trivial
  have c10 : CPow 10 12 := ⟨by decide, by decide, by decide⟩
  rw [rgD_nat]
  simp only [w_any, decide_eq_true_eq, beq_iff_eq]
  have sm : small62 (many : Int) := ⟨by omega, by omega⟩
  split
  · rename_i hw
    refine ⟨sm, q_gworths hn hm (fun m ds k N hj hmm hN => ?_) hj1 fun b ws ds' h1 h2 h3 => ?_⟩
    · unfold e1_law_gworths
      trivial
      refine ⟨by decide, by decide, fun a' => ⟨m, a, ds, 4, rfl, hj, hmm, gdok (by decide) (by decide), fun r ds' fin r0' r1' hj' => ?_⟩⟩
      trivial
      have h : r = 0 ∨ r = 1 ∨ r = 2 ∨ r = 3 := by omega
      have z0 := Int.emod_nonneg way (b := 2) (by omega)
      have z1 := Int.emod_lt_of_pos way (b := 2) (by omega)
      rcases h with rfl | rfl | rfl | rfl
      all_goals
        refine ⟨_, rfl, ?_⟩
        trivial
        exact hN _ _ ⟨by omega, by omega, fun _ => by omega⟩ hj'
    · trivial
      exact hQ _ _ _ h1 h2 h3
  · rename_i hw
    split
    · rename_i h3
      refine ⟨sm, q_gworths hn hm (fun m ds k N hj hmm hN => ?_) hj1 fun b ws ds' h1 h2 h3 => ?_⟩
      · unfold e2_law_gworths
        trivial
        refine ⟨c10, cmul64 (by decide) (by decide) (by decide) (by decide), m, a, ds, _, rfl, hj, hmm, gdok (by decide) (by decide), fun r ds' fin r0' r1' hj' => ?_⟩
        trivial
        have r1'' : r < 2000000000001 := r1'
        refine ⟨c10, hN _ _ ⟨?_, ?_, fun e => absurd e hw⟩ hj'⟩
        · show -1000000000000 ≤ r - 1000000000000; omega
        · show r - 1000000000000 ≤ 1000000000000; omega
      · trivial
        exact hQ _ _ _ h1 h2 h3
    · rename_i h3
      refine ⟨sm, q_gworths hn hm (fun m ds k N hj hmm hN => ?_) hj1 fun b ws ds' h1 h2 h3 => ?_⟩
      · unfold e3_law_gworths
        trivial
        refine ⟨by decide, ?_⟩
        have h : way = 0 ∨ way = 1 ∨ way = 2 := by omega
        rcases h with rfl | rfl | rfl
        all_goals
          refine ⟨_, rfl, ?_⟩
          trivial
          refine ⟨m, a, ds, _, rfl, hj, hmm, gdok (by decide) (by decide), fun r ds' fin r0' r1' hj' => ?_⟩
          trivial
          first
            | exact ⟨by decide, hN _ _ ⟨by omega, by omega, fun e => absurd e hw⟩ hj'⟩
            | exact ⟨by decide, _, rfl, hN _ _ ⟨by omega, by omega, fun e => absurd e hw⟩ hj'⟩
      · trivial
        exact hQ _ _ _ h1 h2 h3
/-- drawn parts -/
def PsOk (w : Wd) (S : List Nat) (ps : List Part) : Prop := ∀ p ∈ ps, p.Ok S ∧ NumsOk w p
def sp_law_gparts : DSpec := fun args Q _ => ∃ (n : Nat) (a : Addr) (ds : List D) (w : Wd) (S : List Nat) (Z : D) (most : Nat), args = [.lst a ds, dW w, .ext Z, dI (most : Nat)] ∧ SqN S Z ∧ JarOk n ds ∧ n + 300000 < 4294967296 ∧ SzOk S ∧ 0 < S.length ∧ most ≤ 60 ∧
  ∀ (ps : List Part) ds' fin, PsOk w S ps → ps.length ≤ most → JarOk (n + 300000) ds' → Q (.ext (dPs ps)) (.lst a ds' :: fin)
def e1_law_gparts : DT :=
    (dCallJ sp_law_gdraw 0 (dCons (dCB fLen (dCons (dVar 2) dNil)) dNil))
def b2_law_gparts : DTS :=
    (sSeq (sSetE 6 (dCB fTuple (dCons (dSortSetL (dLc (dRange1 (dCons (dCallJ sp_law_gdraw 0 (dCons (dC (.int 4)) dNil)) dNil)) (gSet 7) dYes e1_law_gparts [7])) dNil)))
    (sDrop (dAppend 4 (dTup (dCons (dVar 6) (dCons (dCallJ sp_law_gworths 0 (dCons (dVar 1) (dCons (dCB fLen (dCons (dCall sp_law_gfillings (dCons (dVar 2) (dCons (dVar 6) dNil))) dNil)) dNil))) dNil))))))
def k3_law_gparts : DTS :=
    (sRet (dCB fTuple (dCons (dVar 4) dNil)))
def t_law_gparts : DTS :=
    (sSeq (sSet 4 (dLst dNil))
    (sSeq (sFor (dRange1 (dCons (dCallJ sp_law_gdraw 0 (dCons (dOp fAdd (dVar 3) (dC (.int 1))) dNil)) dNil)) (gSet 5) b2_law_gparts)
    k3_law_gparts))
theorem sq_len {S : List Nat} {Z : D} {Q : Sl → Prop} (h : SqN S Z) (q : Q (dI (S.length : Nat))) : fLen [Z] Q := by
  rcases h with rfl | rfl
  · rw [← nD_len S] at q; exact q
  · rw [← nD_len S] at q; exact q
theorem m_law_gparts : Meets t_law_gparts 4 4 sp_law_gparts := by
  rintro args Qd Xd ⟨n, a, ds, w, S, Z, most, rfl, hZ, hj, hn, hS, hS1, hm, hQ⟩
  show t_law_gparts _ _ [_, _, _, _, .un, .un, .un, .un]
  unfold t_law_gparts
  trivial
  have h24 := hS.few
  refine ⟨by decide, fun a4 => ⟨n, a, ds, (most : Int) + 1, rfl, hj, by omega, gdok (by omega) (by omega), fun r ds1 fin r0 r1 hj1 => ?_⟩⟩
  trivial
  refine ⟨⟨by omega, by omega⟩, ?_⟩
  have er : rgD 0 r = nD (List.range r.toNat) := by rw [← rgD_nat, Int.toNat_of_nonneg r0]
  rw [er]
  refine for_ind (fun k : Nat => D.int (k : Int)) (fun xs env => ∃ (m : Nat) (ds : List D) (ps : List Part) (u5 u6 : Sl), env = [.lst a ds, dW w, .ext Z, dI (most : Nat), .lst a4 (ps.map dP), u5, u6, .un] ∧ JarOk m ds ∧ m + 4200 * xs.length ≤ n + 300000 ∧ ps.length + xs.length = r.toNat ∧ PsOk w S ps) ?_ ?_ (List.range r.toNat) _
    ⟨n + 1, ds1, [], _, _, rfl, hj1, by simp; omega, by simp, by intro p hp; simp at hp⟩
  · rintro env ⟨m, ds, ps, u5, u6, rfl, hj, hm1, hl, hp⟩
    refine ⟨True.intro, ?_⟩
    unfold k3_law_gparts
    trivial
    exact hQ _ _ _ hp (by simp at hl; omega) (hj.up (by simpa using hm1))
  · rintro k xs env N ⟨m, ds, ps, u5, u6, rfl, hj, hm1, hl, hp⟩ hN
    rw [List.length_cons] at hm1 hl
    refine ⟨True.intro, ?_⟩
    unfold b2_law_gparts
    trivial
    refine ⟨m, a, ds, 4, rfl, hj, by omega, gdok (by decide) (by decide), fun j ds2 fin j0 j1 hj2 => ?_⟩
    trivial
    refine ⟨⟨by omega, by omega⟩, ?_⟩
    have er : rgD 0 j = nD (List.range j.toNat) := by rw [← rgD_nat, Int.toNat_of_nonneg j0]
    rw [er]
    refine lc_ind (fun k : Nat => D.int (k : Int)) (fun xs acc env => ∃ (m2 : Nat) (ds : List D) (ns : List Nat), env = [.lst a ds, dW w, .ext Z, dI (most : Nat), .lst a4 (ps.map dP), .ext (.int (k : Nat)), u6, .un] ∧ acc = nD ns ∧ JarOk m2 ds ∧ m2 + xs.length ≤ m + 1 + j.toNat ∧ ns.length + xs.length = j.toNat ∧ ∀ x ∈ ns, x < S.length) ?_ ?_ (List.range j.toNat) [] _
      ⟨m + 1, ds2, [], rfl, rfl, hj2, by simp, by simp, by simp⟩
    · rintro acc env ⟨m2, ds3, ns, rfl, rfl, hj3, hm2, hl2, hns⟩
      simp only [List.length_nil, Nat.add_zero] at hm2 hl2
      refine ⟨True.intro, fun b => ?_⟩
      trivial
      refine ⟨ns.map fun n : Nat => (n : Int), (iD_nat ns).symm, by rw [List.length_map]; omega, fun ns' hs hmem => ?_⟩
      obtain ⟨U, rfl, hur, hu⟩ := nat_of_set hs hmem
      rw [show List.map D.int (List.map (fun n : Nat => (n : Int)) U) = nD U from iD_nat U]
      trivial
      have hUl : ∀ n ∈ U, n < S.length := fun n hn => hns n ((hu n).1 hn)
      have hps : psz S U ≤ 4096 := Nat.le_trans (psz_le hS.pos hur hUl) hS.prod
      refine ⟨S, U, ⟨_, _, rfl, hZ, .inl rfl⟩, fun n hn => ⟨hUl n hn, hS.pos _ (sz_mem (hUl n hn))⟩, hps, by have := rising_len hur hUl; omega, fun fin => ?_⟩
      trivial
      rw [fD_len, len_fills]
      refine ⟨m2, a, ds3, w, psz S U, rfl, hj3, by omega, hps, fun ws ds4 fin hw1 hw2 hj4 => ?_⟩
      trivial
      refine ⟨by decide, by rw [List.length_map]; exact Nat.lt_of_le_of_lt (by omega : ps.length ≤ 100) (by decide), ?_⟩
      rw [show ps.map dP ++ [D.tup [D.tup (nD U), D.tup (iD ws)]] = (ps ++ [(⟨U, ws⟩ : Part)]).map dP by rw [List.map_append]; rfl]
      refine hN _ ⟨m2 + psz S U + 1, ds4, ps ++ [⟨U, ws⟩], _, _, rfl, hj4, by omega, by simp; omega, fun p hq => ?_⟩
      rcases List.mem_append.1 hq with h | h
      · exact hp p h
      · rw [List.mem_singleton.1 h]
        exact ⟨⟨hur, hUl, hw1⟩, hw2⟩
    · rintro x ys acc env N' ⟨m2, ds3, ns, rfl, rfl, hj3, hm2, hl2, hns⟩ hN'
      rw [List.length_cons] at hm2 hl2
      refine ⟨True.intro, by rw [nD_len]; exact Nat.lt_of_le_of_lt (by omega : ns.length ≤ 10) (by decide), ?_⟩
      unfold e1_law_gparts
      trivial
      refine sq_len hZ ?_
      trivial
      refine ⟨m2, a, ds3, S.length, rfl, hj3, by omega, gdok (by omega) (by omega), fun r' ds4 fin q0 q1 hj4 => ?_⟩
      trivial
      refine hN' _ _ ⟨m2 + 1, ds4, ns ++ [r'.toNat], rfl, by rw [← nD_snoc, Int.toNat_of_nonneg q0], hj4, by omega, by simp; omega, fun y hy => ?_⟩
      rcases List.mem_append.1 hy with h | h
      · exact hns y h
      · rw [List.mem_singleton.1 h]; omega
def sp_law_gsheet : DSpec := fun args Q _ => ∃ (n : Nat) (a : Addr) (ds : List D) (w : Wd) (names most parts : Nat), args = [.lst a ds, dW w, dI (names : Nat), dI (most : Nat), dI (parts : Nat)] ∧ JarOk n ds ∧ n + 400000 < 4294967296 ∧ 0 < names ∧ names ≤ 24 ∧ 0 < most ∧ most ≤ 4096 ∧ parts ≤ 60 ∧
  ∀ (S : List Nat) (ps : List Part) ds' fin, SzOk S → 0 < S.length → S.length ≤ names → prodN S ≤ most → PsOk w S ps → ps.length ≤ parts → JarOk (n + 400000) ds' → Q (.ext (dSh S ps)) (.lst a ds' :: fin)
def b1_law_gsheet : DTS :=
    (sSeq (sSetE 8 (dOp fIx (dLst (dCons (dC (.int 1)) (dCons (dC (.int 2)) (dCons (dC (.int 2)) (dCons (dC (.int 3)) (dCons (dC (.int 4)) (dCons (dC (.int 2)) dNil))))))) (dCallJ sp_law_gdraw 0 (dCons (dC (.int 6)) dNil))))
    (sSeq (sDrop (dAppend 5 (dIf (dTest (dOp (fCmp fun i j => decide (i ≤ j)) (dOp fMul (dVar 6) (dVar 8)) (dVar 3))) (dVar 8) (dC (.int 1)))))
    (sSetE 6 (dOp fMul (dVar 6) (dOp fIx (dVar 5) (dNeg (dC (.int 1))))))))
def k2_law_gsheet : DTS :=
    (sFz 5 (sRet (dTup (dCons (dCB fTuple (dCons (dVar 5) dNil)) (dCons (dCallJ sp_law_gparts 0 (dCons (dVar 1) (dCons (dVar 5) (dCons (dVar 4) dNil)))) dNil)))))
def t_law_gsheet : DTS :=
    (sSeq (sSet 5 (dLst dNil))
    (sSeq (sSetE 6 (dC (.int 1)))
    (sSeq (sFor (dRange1 (dCons (dOp fAdd (dC (.int 1)) (dCallJ sp_law_gdraw 0 (dCons (dVar 2) dNil))) dNil)) (gSet 7) b1_law_gsheet)
    k2_law_gsheet)))
theorem at_last {α : Type} (xs : List α) (x : α) : atI (xs ++ [x]) (-1) = some x := by
  unfold atI ixN
  simp
  rw [if_pos (by omega), show (-1 + ((xs.length : Int) + 1)).toNat = xs.length by omega]
  simp
theorem m_law_gsheet : Meets t_law_gsheet 5 4 sp_law_gsheet := by
  rintro args Qd Xd ⟨n, a, ds, w, names, most, parts, rfl, hj, hn, hn0, hn1, hm0, hm1, hp, hQ⟩
  show t_law_gsheet _ _ [_, _, _, _, _, .un, .un, .un, .un]
  unfold t_law_gsheet
  trivial
  refine ⟨by decide, fun a5 => ⟨n, a, ds, names, rfl, hj, by omega, gdok (by omega) (by omega), fun r ds1 fin r0 r1 hj1 => ?_⟩⟩
  trivial
  refine ⟨⟨by omega, by omega⟩, ?_⟩
  have er : rgD 0 (1 + r) = nD (List.range (1 + r).toNat) := by rw [← rgD_nat, Int.toNat_of_nonneg (by omega)]
  rw [er]
  refine for_ind (fun k : Nat => D.int (k : Int)) (fun xs env => ∃ (m : Nat) (ds : List D) (S : List Nat) (u7 u8 : Sl), env = [.lst a ds, dW w, dI (names : Nat), dI (most : Nat), dI (parts : Nat), .lst a5 (nD S), dI (prodN S : Nat), u7, u8] ∧ JarOk m ds ∧ m + xs.length ≤ n + 30 ∧ S.length + xs.length = (1 + r).toNat ∧ (∀ s ∈ S, 0 < s ∧ s ≤ 4) ∧ prodN S ≤ most) ?_ ?_ (List.range (1 + r).toNat) _
    ⟨n + 1, ds1, [], _, _, rfl, hj1, by simp; omega, by simp, by simp, hm0⟩
  · rintro env ⟨m, ds, S, u7, u8, rfl, hj, hm2, hl, hs, hpm⟩
    simp only [List.length_nil, Nat.add_zero] at hm2 hl
    have hS : SzOk S := ⟨fun s h => (hs s h).1, by omega, by omega, fun s h => (hs s h).2⟩
    refine ⟨True.intro, ?_⟩
    unfold k2_law_gsheet
    trivial
    refine ⟨m, a, ds, w, S, .lst (nD S), parts, rfl, .inr rfl, hj, by omega, hS, by omega, hp, fun ps ds' fin h1 h2 h3 => ?_⟩
    trivial
    exact ⟨by decide, hQ S ps _ _ hS (by omega) (by omega) hpm h1 h2 (h3.up (by omega))⟩
  · rintro k xs env N ⟨m, ds, S, u7, u8, rfl, hj, hm2, hl, hs, hpm⟩ hN
    rw [List.length_cons] at hm2 hl
    refine ⟨True.intro, ?_⟩
    unfold b1_law_gsheet
    trivial
    refine ⟨by decide, fun b => ⟨m, a, ds, 6, rfl, hj, by omega, gdok (by decide) (by decide), fun q ds2 fin q0 q1 hj2 => ?_⟩⟩
    trivial
    have next : ∀ s : Nat, 0 < s → s ≤ 4 → prodN S * s ≤ most → ∀ u8, N [.lst a ds2, dW w, dI (names : Nat), dI (most : Nat), dI (parts : Nat), .lst a5 (nD (S ++ [s])), dI ((prodN (S ++ [s]) : Nat) : Int), .ext (.int (k : Nat)), u8] := by
      intro s s0 s4 sm u8
      refine hN _ ⟨m + 1, ds2, S ++ [s], _, _, rfl, hj2, by omega, by simp; omega, fun y hy => ?_, ?_⟩
      · rcases List.mem_append.1 hy with h | h
        · exact hs y h
        · rw [List.mem_singleton.1 h]; exact ⟨s0, s4⟩
      · rw [prodN_append]; simpa [prodN] using sm
    obtain ⟨z, h0, h4, hz⟩ : ∃ z : Nat, 0 < z ∧ z ≤ 4 ∧ atI [D.int 1, D.int 2, D.int 2, D.int 3, D.int 4, D.int 2] q = some (D.int (z : Nat)) := by
      have h : q = 0 ∨ q = 1 ∨ q = 2 ∨ q = 3 ∨ q = 4 ∨ q = 5 := by omega
      rcases h with rfl | rfl | rfl | rfl | rfl | rfl
      · exact ⟨1, by decide, by decide, rfl⟩
      · exact ⟨2, by decide, by decide, rfl⟩
      · exact ⟨2, by decide, by decide, rfl⟩
      · exact ⟨3, by decide, by decide, rfl⟩
      · exact ⟨4, by decide, by decide, rfl⟩
      · exact ⟨2, by decide, by decide, rfl⟩
    refine ⟨_, hz, ?_⟩
    trivial
    have hb : (nD S).length < sizeLine := by rw [nD_len]; exact Nat.lt_of_le_of_lt (by omega : S.length ≤ 100) (by decide)
    refine ⟨cmul64 (by omega) (by omega) (by omega) (by omega), ?_⟩
    split
    · rename_i hle
      refine ⟨hb, _, at_last _ _, ?_⟩
      trivial
      refine ⟨cmul64 (by omega) (by omega) (by omega) (by omega), ?_⟩
      have := next z h0 h4 (by exact_mod_cast hle) (dI (z : Nat))
      rw [prodN_append, ← nD_snoc] at this
      simpa [prodN] using this
    · refine ⟨hb, _, at_last _ _, ?_⟩
      trivial
      refine ⟨cmul64 (by omega) (by omega) (by omega) (by omega), ?_⟩
      have := next 1 (by decide) (by decide) (by omega) (dI (z : Nat))
      rw [prodN_append, ← nD_snoc] at this
      simpa [prodN] using this
end LS

/-! GD: refusals of the second family; alike -/
namespace LS
open PySem L2 HD PM
local macro_rules | `(tactic| trivial) => `(tactic| try simp -dsimp only [↓sSeq, ↓sIf, ↓sRet, ↓retD_ext, ↓retD_lst, ↓retD_al, ↓sSet, ↓sSetE, ↓sAsg, ↓sDrop, ↓sNext, ↓sFor, ↓sRetN, ↓sCont, ↓sBreak, ↓dTest, ↓dOp, ↓dVar_w, ↓dC, ↓dCons, ↓dNil, ↓dTup, ↓dLst, ↓frzDs, ↓frzD_ext, ↓frzD_lst, ↓frzD_al, ↓wd_ext, ↓wd_lst, ↓wd_al, ↓wds, ↓AtS_ext, ↓AtS_lst, ↓AtL, ↓fAdd, ↓fSub, ↓fMul, ↓fDiv, ↓fMod, ↓fPow, ↓fCmp, ↓fIn, ↓fEq_ii, ↓fEq_ss, ↓fEq_bb, ↓fEq_tt, ↓fEq_ll, ↓fNe_ii, ↓fNe_ss, ↓fNe_bb, ↓fNe_tt, ↓fNe_ll, ↓fIx_l, ↓fIx_t, ↓fIx_k, ↓fIx_f, ↓GetS_some, ↓NatS_some, ↓fSl, ↓fIsN, ↓fNotN, ↓D.knN, ↓dNot, ↓dAnd, ↓dOr, ↓dAndV_w, ↓dOrV_w, ↓dNotV, ↓dIf, ↓dNeg, ↓dChain_w, ↓BlS_bl, ↓dCall_w, ↓dCallJ_w, ↓anyAl, ↓frozs, ↓froz, ↓gSet, ↓gTupD, ↓gsCons, ↓gsNil, ↓dSeq, ↓seqD_tup, ↓seqD_elst, ↓seqD_lst, ↓seqD_al, ↓dRange1, ↓dRange2, ↓dZip, ↓dCB, ↓dLc, ↓dYes, ↓dNoPart, ↓dPart, ↓dSl, ↓fLen, ↓fMin, ↓fMax, ↓fSum, ↓fAll, ↓fAny, ↓fSorted, ↓fTuple, ↓fList, ↓dRg1, ↓dRg2, ↓dLstRg, ↓dTupRg, ↓dIndex, ↓fIdx, ↓dAppend_w, ↓dExtend_w, ↓extD_lst, ↓dPopAt_w, ↓popD_int, ↓dPop_w, ↓mutD_w, ↓sSetItem_w, ↓setD_int, ↓dSortSet, ↓dTable_w, ↓wipeE, finals1, finals2, finals3, finals4, finals5, finals6, fin1_ext, fin1_lst, List.getElem?_cons_zero, List.getElem?_cons_succ, List.getElem?_nil, List.set_cons_zero, List.set_cons_succ, List.cons_append, List.nil_append, List.append_nil, List.replicate_succ, List.replicate_zero, List.map_cons, List.map_nil, List.length_cons, List.length_nil, true_and, and_true, ite_true, ite_false, if_true, if_false, Bool.false_eq_true, decide_eq_true_eq, Sl.plain, D.isSq, eq_self_iff_true, forall_const, reduceIte, true_or, or_true, atI_0, atI_1, atI_2, atI_3, ixN_0, ixN_1, ixN_2, AtS_ext, AtS_lst, FzS_lst, FzS_ext, GetS_some, NatS_some, ↓fIsi1, ↓fIsi2, BoolS_some, HD.kb_non_tuple, HD.kb_non_list, HD.kb_non_bool, HD.kb_non_int, HD.kb_non_str, HD.kb_bl_tuple, HD.kb_bl_list, HD.kb_bl_bool, HD.kb_bl_int, HD.kb_bl_str, HD.kb_int_tuple, HD.kb_int_list, HD.kb_int_bool, HD.kb_int_int, HD.kb_int_str, HD.kb_str_tuple, HD.kb_str_list, HD.kb_str_bool, HD.kb_str_int, HD.kb_str_str, HD.kb_lst_tuple, HD.kb_lst_list, HD.kb_lst_bool, HD.kb_lst_int, HD.kb_lst_str, HD.kb_tup_tuple, HD.kb_tup_list, HD.kb_tup_bool, HD.kb_tup_int, HD.kb_tup_str, ↓sFz_w, ↓FzS_lst, ↓FzS_ext, ↓dSortSetL, ↓fAbs, ↓fInt, ↓fRepr, ↓fLtT, ↓sRaise, ↓sTryKeep, ↓dCallV_w, ↓dMeth, ↓fCount, ↓fSplit])
def sp_law_gkind (cs : List Str) : DSpec := sp_law_class cs
def k1_law_gkind (cs : List Str) : DTS :=
    (sSeq (sSetE 2 (dLst (dCons (dC (.str (Str.ofString "filling"))) (dCons (dC (.str (Str.ofString "name"))) (dCons (dC (.str (Str.ofString "many"))) (dCons (dC (.str (Str.ofString "deeds"))) (dCons (dC (.str (Str.ofString "offers"))) (dCons (dC (.str (Str.ofString "tree"))) (dCons (dC (.str (Str.ofString "bag"))) (dCons (dC (.str (Str.ofString "part"))) (dCons (dC (.str (Str.ofString "worths"))) (dCons (dC (.str (Str.ofString "back"))) (dCons (dC (.str (Str.ofString "weights"))) dNil)))))))))))))
    (sRet (dOp fIx (dOp fAdd (dVar 2) (dLst (dCons (dC (.str (Str.ofString "number"))) (dCons (dC (.str (Str.ofString "row"))) (dCons (dC (.str (Str.ofString "text"))) dNil))))) (dIndex (dVar 1) (dC (.bl true))))))
def t_law_gkind (cs : List Str) : DTS :=
    (sSeq (sSetE 1 (dLst (dCons (dCB (fIsX (xtab cs)) (dCons (dVar 0) (dCons (dC (.glo "NoFilling")) dNil))) (dCons (dCB (fIsX (xtab cs)) (dCons (dVar 0) (dCons (dC (.glo "NoName")) dNil))) (dCons (dCB (fIsX (xtab cs)) (dCons (dVar 0) (dCons (dC (.glo "TooMany")) dNil))) dNil)))))
    (sSeq (sSetE 1 (dOp fAdd (dVar 1) (dLst (dCons (dCB (fIsX (xtab cs)) (dCons (dVar 0) (dCons (dC (.glo "NoDeeds")) dNil))) (dCons (dCB (fIsX (xtab cs)) (dCons (dVar 0) (dCons (dC (.glo "NoOffers")) dNil))) (dCons (dCB (fIsX (xtab cs)) (dCons (dVar 0) (dCons (dC (.glo "NoTree")) dNil))) dNil))))))
    (sSeq (sSetE 1 (dOp fAdd (dVar 1) (dLst (dCons (dCB (fIsX (xtab cs)) (dCons (dVar 0) (dCons (dC (.glo "NoBag")) dNil))) (dCons (dCB (fIsX (xtab cs)) (dCons (dVar 0) (dCons (dC (.glo "NoPart")) dNil))) (dCons (dCB (fIsX (xtab cs)) (dCons (dVar 0) (dCons (dC (.glo "NoWorths")) dNil))) dNil))))))
    (sSeq (sSetE 1 (dOp fAdd (dVar 1) (dLst (dCons (dCB (fIsX (xtab cs)) (dCons (dVar 0) (dCons (dC (.glo "NoBack")) dNil))) (dCons (dCB (fIsX (xtab cs)) (dCons (dVar 0) (dCons (dC (.glo "NoWeights")) dNil))) (dCons (dCB (fIsX (xtab cs)) (dCons (dVar 0) (dCons (dC (.glo "NoNumber")) dNil))) dNil))))))
    (sSeq (sSetE 1 (dOp fAdd (dVar 1) (dLst (dCons (dCB (fIsX (xtab cs)) (dCons (dVar 0) (dCons (dC (.glo "NoRow")) dNil))) (dCons (dCB (fIsX (xtab cs)) (dCons (dVar 0) (dCons (dC (.glo "NoText")) dNil))) dNil)))))
    (sSeq (sIf (dOr (dTest (dOp fNe (dMeth D.isLst fCount (dVar 1) (dC (.bl true))) (dC (.int 1)))) (dNot (dTest (dCB (fIsX (xtab cs)) (dCons (dVar 0) (dCons (dC (.val (.ty "ValueError"))) dNil)))))) (sRet (dC (.str (Str.ofString "odd")))) sNext)
    (k1_law_gkind cs)))))))
theorem m_law_gkind (cs : List Str) : Meets (t_law_gkind cs) 1 2 (sp_law_gkind cs) := by
  rintro args Qd Xd ⟨c, rfl, hc, hx, hQ⟩
  show t_law_gkind cs _ _ [_, .un, .un]
  unfold t_law_gkind
  have i1 := isX_glo hc "NoFilling" (by decide)
  have i2 := isX_glo hc "NoName" (by decide)
  have i3 := isX_glo hc "TooMany" (by decide)
  have i4 := isX_glo hc "NoDeeds" (by decide)
  have i5 := isX_glo hc "NoOffers" (by decide)
  have i6 := isX_glo hc "NoTree" (by decide)
  have i7 := isX_glo hc "NoBag" (by decide)
  have i8 := isX_glo hc "NoPart" (by decide)
  have i9 := isX_glo hc "NoWorths" (by decide)
  have i10 := isX_glo hc "NoBack" (by decide)
  have i11 := isX_glo hc "NoWeights" (by decide)
  have i12 := isX_glo hc "NoNumber" (by decide)
  have i13 := isX_glo hc "NoRow" (by decide)
  have i14 := isX_glo hc "NoText" (by decide)
  have iv := isX_ve hc
  simp -dsimp only [↓sSeq, ↓sIf, ↓sRet, ↓retD_ext, ↓retD_lst, ↓retD_al, ↓sSet, ↓sSetE, ↓sAsg, ↓sDrop, ↓sNext, ↓sFor, ↓sRetN, ↓sCont, ↓sBreak, ↓dTest, ↓dOp, ↓dVar_w, ↓dC, ↓dCons, ↓dNil, ↓dTup, ↓dLst, ↓frzDs, ↓frzD_ext, ↓frzD_lst, ↓frzD_al, ↓wd_ext, ↓wd_lst, ↓wd_al, ↓wds, ↓AtS_ext, ↓AtS_lst, ↓AtL, ↓fAdd, ↓fSub, ↓fMul, ↓fDiv, ↓fMod, ↓fPow, ↓fCmp, ↓fIn, ↓fEq_ii, ↓fEq_ss, ↓fEq_bb, ↓fEq_tt, ↓fEq_ll, ↓fNe_ii, ↓fNe_ss, ↓fNe_bb, ↓fNe_tt, ↓fNe_ll, ↓fIx_l, ↓fIx_t, ↓fIx_k, ↓fIx_f, ↓GetS_some, ↓NatS_some, ↓fSl, ↓fIsN, ↓fNotN, ↓D.knN, ↓dNot, ↓dAnd, ↓dOr, ↓dAndV_w, ↓dOrV_w, ↓dNotV, ↓dIf, ↓dNeg, ↓dChain_w, ↓BlS_bl, ↓dCall_w, ↓dCallJ_w, ↓anyAl, ↓frozs, ↓froz, ↓gSet, ↓gTupD, ↓gsCons, ↓gsNil, ↓dSeq, ↓seqD_tup, ↓seqD_elst, ↓seqD_lst, ↓seqD_al, ↓dRange1, ↓dRange2, ↓dZip, ↓dCB, ↓dLc, ↓dYes, ↓dNoPart, ↓dPart, ↓dSl, ↓fLen, ↓fMin, ↓fMax, ↓fSum, ↓fAll, ↓fAny, ↓fSorted, ↓fTuple, ↓fList, ↓dRg1, ↓dRg2, ↓dLstRg, ↓dTupRg, ↓dIndex, ↓fIdx, ↓dAppend_w, ↓dExtend_w, ↓extD_lst, ↓dPopAt_w, ↓popD_int, ↓dPop_w, ↓mutD_w, ↓sSetItem_w, ↓setD_int, ↓dSortSet, ↓dTable_w, ↓wipeE, finals1, finals2, finals3, finals4, finals5, finals6, fin1_ext, fin1_lst, List.getElem?_cons_zero, List.getElem?_cons_succ, List.getElem?_nil, List.set_cons_zero, List.set_cons_succ, List.cons_append, List.nil_append, List.append_nil, List.replicate_succ, List.replicate_zero, List.map_cons, List.map_nil, List.length_cons, List.length_nil, true_and, and_true, ite_true, ite_false, if_true, if_false, Bool.false_eq_true, decide_eq_true_eq, Sl.plain, D.isSq, eq_self_iff_true, forall_const, reduceIte, true_or, or_true, atI_0, atI_1, atI_2, atI_3, ixN_0, ixN_1, ixN_2, AtS_ext, AtS_lst, FzS_lst, FzS_ext, GetS_some, NatS_some, ↓fIsi1, ↓fIsi2, BoolS_some, HD.kb_non_tuple, HD.kb_non_list, HD.kb_non_bool, HD.kb_non_int, HD.kb_non_str, HD.kb_bl_tuple, HD.kb_bl_list, HD.kb_bl_bool, HD.kb_bl_int, HD.kb_bl_str, HD.kb_int_tuple, HD.kb_int_list, HD.kb_int_bool, HD.kb_int_int, HD.kb_int_str, HD.kb_str_tuple, HD.kb_str_list, HD.kb_str_bool, HD.kb_str_int, HD.kb_str_str, HD.kb_lst_tuple, HD.kb_lst_list, HD.kb_lst_bool, HD.kb_lst_int, HD.kb_lst_str, HD.kb_tup_tuple, HD.kb_tup_list, HD.kb_tup_bool, HD.kb_tup_int, HD.kb_tup_str, ↓sFz_w, ↓FzS_lst, ↓FzS_ext, ↓dSortSetL, ↓fAbs, ↓fInt, ↓fRepr, ↓fLtT, ↓sRaise, ↓sTryKeep, ↓dCallV_w, ↓dMeth, ↓fCount, ↓fSplit, i1, i2, i3, i4, i5, i6, i7, i8, i9, i10, i11, i12, i13, i14, iv]
  have h2 := xk_count hx
  have h3 := xk_at hx
  simp only [xKinds, xAll, List.map_cons, List.map_nil] at h2 h3
  rw [h2]
  refine ⟨by decide, by decide, by decide, by decide, by decide, by decide, by decide, by decide, by decide, rfl, rfl, rfl, ?_⟩
  rw [if_neg (by decide), if_neg (by decide)]
  refine ⟨by decide, fun a => ?_⟩
  trivial
  refine ⟨by decide, by decide, rfl, rfl, _, h3, ?_⟩
  refine ⟨.str (xWord c), atN ?_, ?_⟩
  · change (xWords.map D.str)[List.idxOf c xAll]? = _
    rw [List.getElem?_map]
    unfold xWord
    rw [List.getD_eq_getElem?_getD]
    have hl : List.idxOf c xAll < xWords.length := List.idxOf_lt_length_of_mem hx
    rw [List.getElem?_eq_getElem hl]
    rfl
  · trivial
    exact hQ _
def sp_law_gcall (FT : FTab) : DSpec := fun args Q X => ∃ (nm : Str) (n : Nat) (spec : DSpec) (ds : List D), args = [.ext (.glo nm), .ext (.lst ds)] ∧ FT nm = some (n, spec) ∧ 0 < ds.length ∧ ds.length ≤ 4 ∧
  ∀ (Q' : Sl → List Sl → Prop) (X' : Str → List Sl → Prop), (∀ r fin, r.plain → r ≠ .un → (∀ fin', Q r fin') → Q' r fin) → (∀ c fin, (∀ fin', X c fin') → X' c fin) → spec (ds.map .ext) Q' X'
def t_law_gcall (FT : FTab) : DTS :=
    (sSeq (sIf (dTest (dOp fEq (dCB fLen (dCons (dVar 1) dNil)) (dC (.int 0)))) (sRet dNever) sNext)
    (sSeq (sIf (dTest (dOp fEq (dCB fLen (dCons (dVar 1) dNil)) (dC (.int 1)))) (sRet (dCallV FT 0 (dCons (dOp fIx (dVar 1) (dC (.int 0))) dNil))) sNext)
    (sSeq (sIf (dTest (dOp fEq (dCB fLen (dCons (dVar 1) dNil)) (dC (.int 2)))) (sRet (dCallV FT 0 (dCons (dOp fIx (dVar 1) (dC (.int 0))) (dCons (dOp fIx (dVar 1) (dC (.int 1))) dNil)))) sNext)
    (sRet (dIf (dTest (dOp fEq (dCB fLen (dCons (dVar 1) dNil)) (dC (.int 3)))) (dCallV FT 0 (dCons (dOp fIx (dVar 1) (dC (.int 0))) (dCons (dOp fIx (dVar 1) (dC (.int 1))) (dCons (dOp fIx (dVar 1) (dC (.int 2))) dNil)))) (dCallV FT 0 (dCons (dOp fIx (dVar 1) (dC (.int 0))) (dCons (dOp fIx (dVar 1) (dC (.int 1))) (dCons (dOp fIx (dVar 1) (dC (.int 2))) (dCons (dOp fIx (dVar 1) (dC (.int 3))) dNil))))))))))
theorem m_law_gcall (FT : FTab) : Meets (t_law_gcall FT) 2 0 (sp_law_gcall FT) := by
  rintro args Qd Xd ⟨nm, n, spec, ds, rfl, hF, h0, h4, h⟩
  show t_law_gcall FT _ _ [_, _]
  unfold t_law_gcall
  rcases ds with _ | ⟨d1, _ | ⟨d2, _ | ⟨d3, _ | ⟨d4, _ | ⟨d5, ds⟩⟩⟩⟩⟩
  · simp at h0
  all_goals try (simp only [List.length_cons] at h4; omega)
  all_goals
    trivial
    simp only [show ((0 + 1 : Nat) : Int) = 1 from rfl, show ((0 + 1 + 1 : Nat) : Int) = 2 from rfl, show ((0 + 1 + 1 + 1 : Nat) : Int) = 3 from rfl, show ((0 + 1 + 1 + 1 + 1 : Nat) : Int) = 4 from rfl, show ((1 : Int) == 0) = false from rfl, show ((2 : Int) == 0) = false from rfl, show ((3 : Int) == 0) = false from rfl, show ((4 : Int) == 0) = false from rfl, show ((1 : Int) == 1) = true from rfl, show ((2 : Int) == 1) = false from rfl, show ((3 : Int) == 1) = false from rfl, show ((4 : Int) == 1) = false from rfl, show ((2 : Int) == 2) = true from rfl, show ((3 : Int) == 2) = false from rfl, show ((3 : Int) == 3) = true from rfl, show ((4 : Int) == 2) = false from rfl, show ((4 : Int) == 3) = false from rfl, if_true, if_false, Bool.false_eq_true]
    trivial
    refine ⟨n, spec, hF, ?_⟩
    trivial
    refine h _ _ (fun r fin hr hu hQ => ?_) fun c fin hX => hX _
    cases r with
    | ext d => trivial; exact hQ _
    | lst a ds => trivial; exact hQ _
    | un => exact absurd rfl hu
    | reg a cs => exact ⟨.inl rfl, True.intro, hQ _⟩
    | al i a => exact hr.elim
/-- what a call refuses with, or what it tells -/
def sp_law_gtold (FT : FTab) (cs : List Str) : DSpec := fun args Q _ => ∃ (nm : Str) (n : Nat) (spec : DSpec) (ds : List D), args = [.ext (.glo nm), .ext (.lst ds)] ∧ FT nm = some (n, spec) ∧ 0 < ds.length ∧ ds.length ≤ 4 ∧
  ((∃ c, c ∈ cs ∧ c ∈ xAll ∧ (∀ (Q' : Sl → List Sl → Prop) (X' : Str → List Sl → Prop), (∀ fin, X' c fin) → spec (ds.map .ext) Q' X') ∧ ∀ a fin, Q (.lst a [.str (xWord c)]) fin) ∨
    ∃ d : D, (∀ (Q' : Sl → List Sl → Prop) (X' : Str → List Sl → Prop), (∀ fin, Q' (.ext d) fin) → spec (ds.map .ext) Q' X') ∧ ∀ a fin, Q (.lst a [.str (Str.ofString "told"), d]) fin)
def t_law_gtold (FT : FTab) (cs : List Str) : DTS :=
    (sSeq (sSetE 2 (dC .non))
    (sSeq (sSetE 3 (dC .non))
    (sSeq (sTryKeep cs 4 2 (sSetE 3 (dCall (sp_law_gcall FT) (dCons (dVar 0) (dCons (dVar 1) dNil)))))
    (sRet (dIf (dTest (dOp fIsN (dVar 2) (dC .non))) (dLst (dCons (dC (.str (Str.ofString "told"))) (dCons (dVar 3) dNil))) (dLst (dCons (dCall (sp_law_gkind cs) (dCons (dVar 2) dNil)) dNil)))))))
theorem m_law_gtold (FT : FTab) (cs : List Str) : Meets (t_law_gtold FT cs) 2 3 (sp_law_gtold FT cs) := by
  rintro args Qd Xd ⟨nm, n, spec, ds, rfl, hF, h0, h4, h⟩
  show t_law_gtold FT cs _ _ [_, _, .un, .un, .un]
  unfold t_law_gtold
  rcases h with ⟨c, hc, hx, hs, hQ⟩ | ⟨d, hs, hQ⟩
  · trivial
    refine ⟨nm, n, spec, ds, rfl, hF, h0, h4, fun Q' X' _ hX => hs Q' X' fun fin => hX c fin fun fin' => ?_⟩
    refine ⟨hc, by simp, ?_⟩
    trivial
    rw [if_neg (by simp [D.isNon])]
    refine ⟨c, rfl, hc, hx, fun fin => ?_⟩
    trivial
    exact ⟨by decide, fun a => hQ a _⟩
  · trivial
    refine ⟨nm, n, spec, ds, rfl, hF, h0, h4, fun Q' X' hq _ => hs Q' X' fun fin => hq (.ext d) fin True.intro (by simp) fun fin' => ?_⟩
    trivial
    rw [if_pos (by rfl)]
    exact ⟨by decide, fun a => hQ a _⟩
/-! ### alike -/
def e1_law_gsame (sp_law_gsame : DSpec) : DT :=
    (dCall sp_law_gsame (dCons (dVar 2) (dCons (dVar 3) dNil)))
def k2_law_gsame (sp_law_gsame : DSpec) : DTS :=
    (sRet (dAndV (dOp fEq (dCB fLen (dCons (dVar 0) dNil)) (dCB fLen (dCons (dVar 1) dNil))) (dCB fAll (dCons (dLc (dZip (dVar 0) (dVar 1)) (gTupD 2 (gsCons (gSet 2) (gsCons (gSet 3) gsNil))) dYes (e1_law_gsame sp_law_gsame) [2, 3]) dNil))))
def k3_law_gsame (sp_law_gsame : DSpec) : DTS :=
    (sSeq (sIf (dTest (dCB fIsi (dCons (dVar 1) (dCons (dC (.val (.ty "int"))) dNil)))) (sRet (dAndV (dCB fIsi (dCons (dVar 0) (dCons (dC (.val (.ty "int"))) dNil))) (dOp fEq (dVar 0) (dVar 1)))) sNext)
    (sSeq (sIf (dTest (dCB fIsi (dCons (dVar 1) (dCons (dC (.val (.ty "str"))) dNil)))) (sRet (dAndV (dCB fIsi (dCons (dVar 0) (dCons (dC (.val (.ty "str"))) dNil))) (dOp fEq (dVar 0) (dVar 1)))) sNext)
    (sSeq (sIf (dOr (dTest (dOp fNe (dCB fIsi (dCons (dVar 1) (dCons (dC (.val (.ty "tuple"))) dNil))) (dCB fIsi (dCons (dVar 0) (dCons (dC (.val (.ty "tuple"))) dNil))))) (dTest (dOp fNe (dCB fIsi (dCons (dVar 1) (dCons (dC (.val (.ty "list"))) dNil))) (dCB fIsi (dCons (dVar 0) (dCons (dC (.val (.ty "list"))) dNil)))))) (sRet (dC (.bl false))) sNext)
    (k2_law_gsame sp_law_gsame))))
def t_law_gsame (sp_law_gsame : DSpec) : DTS :=
    (sSeq (sIf (dTest (dOp fIsN (dVar 1) (dC .non))) (sRet (dOp fIsN (dVar 0) (dC .non))) sNext)
    (sSeq (sIf (dOr (dTest (dCB fIsi (dCons (dVar 1) (dCons (dC (.val (.ty "bool"))) dNil)))) (dTest (dCB fIsi (dCons (dVar 0) (dCons (dC (.val (.ty "bool"))) dNil))))) (sRet (dAndV (dCB fIsi (dCons (dVar 1) (dCons (dC (.val (.ty "bool"))) dNil))) (dAndV (dCB fIsi (dCons (dVar 0) (dCons (dC (.val (.ty "bool"))) dNil))) (dOp fEq (dVar 0) (dVar 1))))) sNext)
    (k3_law_gsame sp_law_gsame)))
theorem q1_law_gsame {k : Nat} {Q : Sl → Env' → Prop} {s0 s1 : Sl} (ds : List D) (hl : ds.length ≤ 100000) (hp : ∀ d ∈ ds, D.pl k d = true) (hQ : ∀ b, Q (.lst b (ds.map fun _ => .bl true)) [s0, s1, .un, .un]) :
    lcD (gTupD 2 (gsCons (gSet 2) (gsCons (gSet 3) gsNil))) dYes (e1_law_gsame (sp_same k)) [2, 3] (fun _ => True) Q (ds.map fun d => D.tk [d, d]) [] [s0, s1, .un, .un] := by
  refine lc_map (fun d : D => D.tk [d, d]) (fun _ => .bl true) True.intro ds (Nat.le_trans hl (by decide)) (fun d hd R hR => ?_) hQ
  unfold e1_law_gsame
  trivial
  refine ⟨d, rfl, hp d hd, fun fin => ?_⟩
  trivial
  exact hR
theorem m_law_gsame (k : Nat) : Meets (t_law_gsame (sp_sameR k)) 2 2 (sp_same k) := by
  rintro args Qd Xd ⟨d, rfl, hp, hQ⟩
  have nv := pl_noVal k d hp
  show t_law_gsame _ _ _ [_, _, .un, .un]
  unfold t_law_gsame k3_law_gsame k2_law_gsame
  cases d with
  | val _ => cases k <;> simp [D.pl] at hp
  | fz _ => cases k <;> simp [D.pl] at hp
  | tk _ => cases k <;> simp [D.pl] at hp
  | exc _ => cases k <;> simp [D.pl] at hp
  | glo _ => cases k <;> simp [D.pl] at hp
  | lst ds =>
    cases k with
    | zero => simp [D.pl] at hp
    | succ k =>
      rw [D.pl, Bool.and_eq_true, List.all_eq_true, decide_eq_true_eq] at hp
      trivial
      simp only [nv, D.isFz, D.isNon, Bool.or_false, Bool.or_true, Bool.true_or, Bool.false_eq_true, if_true, if_false, true_and, beq_self_eq_true, Bool.not_true]
      rw [zip_self]
      refine q1_law_gsame ds hp.1 hp.2 fun b => ?_
      trivial
      refine ⟨ds.map fun _ => true, by simp, ?_⟩
      rw [show (ds.map fun _ => true).all id = true by simp]
      exact hQ _
  | tup ds =>
    cases k with
    | zero => simp [D.pl] at hp
    | succ k =>
      rw [D.pl, Bool.and_eq_true, List.all_eq_true, decide_eq_true_eq] at hp
      trivial
      simp only [nv, D.isFz, D.isNon, Bool.or_false, Bool.or_true, Bool.true_or, Bool.false_eq_true, if_true, if_false, true_and, beq_self_eq_true, Bool.not_true]
      rw [zip_self]
      refine q1_law_gsame ds hp.1 hp.2 fun b => ?_
      trivial
      refine ⟨ds.map fun _ => true, by simp, ?_⟩
      rw [show (ds.map fun _ => true).all id = true by simp]
      exact hQ _
  | _ =>
    trivial
    simp only [nv, D.isFz, D.isNon, Bool.or_false, Bool.or_true, Bool.false_eq_true, if_true, if_false, true_and, beq_self_eq_true]
    exact hQ _
def sp_law_gsame : DSpec := sp_same 4
end LS

/-! GE: fillings by their weights -/
namespace LS
open PySem L2 HD PM
local macro_rules | `(tactic| trivial) => `(tactic| try simp -dsimp only [↓sSeq, ↓sIf, ↓sRet, ↓retD_ext, ↓retD_lst, ↓retD_al, ↓sSet, ↓sSetE, ↓sAsg, ↓sDrop, ↓sNext, ↓sFor, ↓sRetN, ↓sCont, ↓sBreak, ↓dTest, ↓dOp, ↓dVar_w, ↓dC, ↓dCons, ↓dNil, ↓dTup, ↓dLst, ↓frzDs, ↓frzD_ext, ↓frzD_lst, ↓frzD_al, ↓wd_ext, ↓wd_lst, ↓wd_al, ↓wds, ↓AtS_ext, ↓AtS_lst, ↓AtL, ↓fAdd, ↓fSub, ↓fMul, ↓fDiv, ↓fMod, ↓fPow, ↓fCmp, ↓fIn, ↓fEq_ii, ↓fEq_ss, ↓fEq_bb, ↓fEq_tt, ↓fEq_ll, ↓fNe_ii, ↓fNe_ss, ↓fNe_bb, ↓fNe_tt, ↓fNe_ll, ↓fIx_l, ↓fIx_t, ↓fIx_k, ↓fIx_f, ↓GetS_some, ↓NatS_some, ↓fSl, ↓fIsN, ↓fNotN, ↓D.knN, ↓dNot, ↓dAnd, ↓dOr, ↓dAndV_w, ↓dOrV_w, ↓dNotV, ↓dIf, ↓dNeg, ↓dChain_w, ↓BlS_bl, ↓dCall_w, ↓dCallJ_w, ↓anyAl, ↓frozs, ↓froz, ↓gSet, ↓gTupD, ↓gsCons, ↓gsNil, ↓dSeq, ↓seqD_tup, ↓seqD_elst, ↓seqD_lst, ↓seqD_al, ↓dRange1, ↓dRange2, ↓dZip, ↓dCB, ↓dLc, ↓dYes, ↓dNoPart, ↓dPart, ↓dSl, ↓fLen, ↓fMin, ↓fMax, ↓fSum, ↓fAll, ↓fAny, ↓fSorted, ↓fTuple, ↓fList, ↓dRg1, ↓dRg2, ↓dLstRg, ↓dTupRg, ↓dIndex, ↓fIdx, ↓dAppend_w, ↓dExtend_w, ↓extD_lst, ↓dPopAt_w, ↓popD_int, ↓dPop_w, ↓mutD_w, ↓sSetItem_w, ↓setD_int, ↓dSortSet, ↓dTable_w, ↓wipeE, finals1, finals2, finals3, finals4, finals5, finals6, fin1_ext, fin1_lst, List.getElem?_cons_zero, List.getElem?_cons_succ, List.getElem?_nil, List.set_cons_zero, List.set_cons_succ, List.cons_append, List.nil_append, List.append_nil, List.replicate_succ, List.replicate_zero, List.map_cons, List.map_nil, List.length_cons, List.length_nil, true_and, and_true, ite_true, ite_false, if_true, if_false, Bool.false_eq_true, decide_eq_true_eq, Sl.plain, D.isSq, eq_self_iff_true, forall_const, reduceIte, true_or, or_true, atI_0, atI_1, atI_2, atI_3, ixN_0, ixN_1, ixN_2, AtS_ext, AtS_lst, FzS_lst, FzS_ext, GetS_some, NatS_some, ↓fIsi1, ↓fIsi2, BoolS_some, HD.kb_non_tuple, HD.kb_non_list, HD.kb_non_bool, HD.kb_non_int, HD.kb_non_str, HD.kb_bl_tuple, HD.kb_bl_list, HD.kb_bl_bool, HD.kb_bl_int, HD.kb_bl_str, HD.kb_int_tuple, HD.kb_int_list, HD.kb_int_bool, HD.kb_int_int, HD.kb_int_str, HD.kb_str_tuple, HD.kb_str_list, HD.kb_str_bool, HD.kb_str_int, HD.kb_str_str, HD.kb_lst_tuple, HD.kb_lst_list, HD.kb_lst_bool, HD.kb_lst_int, HD.kb_lst_str, HD.kb_tup_tuple, HD.kb_tup_list, HD.kb_tup_bool, HD.kb_tup_int, HD.kb_tup_str, ↓sFz_w, ↓FzS_lst, ↓FzS_ext, ↓dSortSetL, ↓fAbs, ↓fInt, ↓fRepr, ↓fLtT, ↓sRaise, ↓sTryKeep, ↓dCallV_w, ↓dMeth, ↓fCount, ↓fSplit])
theorem NumsOk.bd40 {w : Wd} {p : Part} (h : NumsOk w p) : Bd 40 p := h.bd
theorem PsOk.sh {w : Wd} {S : List Nat} {ps : List Part} (h : PsOk w S ps) (hS : SzOk S) (h1 : 0 < S.length) (hl : ps.length ≤ 60) : ShO4 S ps := .mk4 hS h1 (fun p hp => (h p hp).1) (fun p hp => (h p hp).2.bd) hl
/-- all fillings with their weights -/
def wts (S : List Nat) (ps : List Part) : List (List Nat × Int) := (allF S).map fun f => (f, jAll .sum S ps fun n => f.getD n 0)
abbrev dWt (q : List Nat × Int) : D := .tup [.tup (nD q.1), .int q.2]
def wsum (l : List (List Nat × Int)) : Int := (l.map Prod.snd).sum
theorem wts_len {S : List Nat} {ps : List Part} (hS : SzOk S) : (wts S ps).length ≤ 4096 := by unfold wts; rw [List.length_map]; exact allF_len hS
theorem wts_bd {S : List Nat} {ps : List Part} (h : ShOk S ps) {q : List Nat × Int} (hq : q ∈ wts S ps) : q.2.natAbs < 2 ^ 900 ∨ 20 < ps.length := by
  obtain ⟨f, hf, rfl⟩ := List.mem_map.1 hq
  by_cases hl : 20 < ps.length
  · exact .inr hl
  · left
    obtain ⟨b, hb0, hbl, hbb⟩ := h.bd
    have := jAll_bd (w := .sum) (S := S) (ps := ps) (g := fun n => f.getD n 0) hb0 fun p hp => ⟨h.ok p hp, hbb p hp, (allF_fit hf).fit (h.ok p hp)⟩
    exact Nat.lt_of_lt_of_le this (Nat.pow_le_pow_right (by decide) (by omega))
/-! ### drawn sheets that weigh -/
def sp_law_gweights : DSpec := fun args Q _ => ∃ (S : List Nat) (ps : List Part), args = [.ext (dSh S ps)] ∧ ShOk S ps ∧ ∀ a fin, Q (.lst a ((wts S ps).map dWt)) fin
def e1_law_gweights : DT :=
    (dTup (dCons (dVar 4) (dCons (dCall sp_law_gat (dCons (dC (.str (Str.ofString "sum"))) (dCons (dVar 1) (dCons (dVar 2) (dCons (dVar 4) dNil))))) dNil)))
def t_law_gweights : DTS :=
    (sSeq (sAsg (dVar 0) (gTupD 2 (gsCons (gSet 1) (gsCons (gSet 2) gsNil))))
    (sSeq (sSetE 3 (dCall sp_law_gfillings (dCons (dVar 1) (dCons (dLstRg (dRg1 (dCB fLen (dCons (dVar 1) dNil)))) dNil))))
    (sRet (dLc (dSeq (dVar 3)) (gSet 4) dYes e1_law_gweights [4]))))
theorem m_law_gweights : Meets t_law_gweights 1 4 sp_law_gweights := by
  rintro args Qd Xd ⟨S, ps, rfl, hs, hQ⟩
  show t_law_gweights _ _ [_, .un, .un, .un, .un]
  unfold t_law_gweights
  trivial
  have h24 := hs.sz.few
  rw [nD_len]
  refine ⟨⟨by decide, by omega, by omega⟩, ?_⟩
  rw [rgD_nat]
  refine fun a => ⟨S, List.range S.length, fArgs_tl, rng_both hs.sz, by rw [psz_all]; exact hs.sz.prod, by simp; omega, fun fin => ?_⟩
  trivial
  refine lc_map (fun f : List Nat => D.tup (nD f)) (fun f => dWt (f, jAll .sum S ps fun n => f.getD n 0)) True.intro (allF S) (Nat.le_trans (allF_len hs.sz) (by decide)) (fun f hf R hR => ?_) fun b => ?_
  · unfold e1_law_gweights
    trivial
    refine ⟨.sum, S, ps, f, rfl, hs, allF_fit hf, fun fin => ?_⟩
    trivial
    exact ⟨by decide, hR⟩
  · trivial
    have := hQ b [.ext (dSh S ps)]
    unfold wts at this
    rw [List.map_map] at this
    exact this
def sp_weights_of : DSpec := fun args Q X => ∃ (S : List Nat) (ps : List Part), args = [.ext (dSh S ps)] ∧ ShOk S ps ∧
  (((∀ q ∈ wts S ps, 0 ≤ q.2) ∧ ∀ fin, Q (.ext (.lst ((wts S ps).map dWt))) fin) ∨ ((∃ q ∈ wts S ps, q.2 < 0) ∧ ∀ fin, X "NoWeights" fin))
def e1_weights_of : DT :=
    (dTup (dCons (dVar 2) (dCons (dCall sp_joined_at (dCons (dC (.str (Str.ofString "sum"))) (dCons (dVar 0) (dCons (dVar 2) dNil)))) dNil)))
def e2_weights_of : DT :=
    (dOp (fCmp fun i j => decide (i < j)) (dVar 3) (dC (.int 0)))
def t_weights_of : DTS :=
    (sSeq (sSetE 1 (dLc (dSeq (dCall sp_all_fillings (dCons (dVar 0) dNil))) (gSet 2) dYes e1_weights_of [2]))
    (sSeq (sIf (dTest (dCB fAny (dCons (dLc (dSeq (dVar 1)) (gTupD 2 (gsCons (gSet 2) (gsCons (gSet 3) gsNil))) dYes e2_weights_of [2, 3]) dNil))) (sRaise "NoWeights") sNext)
    (sRet (dVar 1))))
theorem m_weights_of : Meets t_weights_of 1 3 sp_weights_of := by
  rintro args Qd Xd ⟨S, ps, rfl, hs, h⟩
  show t_weights_of _ _ [_, .un, .un, .un]
  unfold t_weights_of
  trivial
  refine ⟨S, ps, rfl, hs, fun fin => ?_⟩
  trivial
  refine lc_map (fun f : List Nat => D.tup (nD f)) (fun f => dWt (f, jAll .sum S ps fun n => f.getD n 0)) True.intro (allF S) (Nat.le_trans (allF_len hs.sz) (by decide)) (fun f hf R hR => ?_) fun b => ?_
  · unfold e1_weights_of
    trivial
    refine ⟨.sum, S, ps, f, rfl, hs, allF_fit hf, fun fin => ?_⟩
    trivial
    exact ⟨by decide, hR⟩
  have ew : (allF S).map (fun f => dWt (f, jAll .sum S ps fun n => f.getD n 0)) = (wts S ps).map dWt := by unfold wts; rw [List.map_map]; rfl
  rw [ew]
  trivial
  refine lc_map dWt (fun q => .bl (decide (q.2 < 0))) True.intro (wts S ps) (Nat.le_trans (wts_len hs.sz) (by decide)) (fun q hq R hR => ?_) fun b => ?_
  · unfold e2_weights_of
    trivial
    exact hR
  trivial
  refine ⟨(wts S ps).map fun q => decide (q.2 < 0), by rw [List.map_map]; rfl, ?_⟩
  rcases h with ⟨h1, hQ⟩ | ⟨⟨q, h1, h2⟩, hX⟩
  · rw [if_neg]
    · exact hQ _
    · simp only [List.any_map, List.any_eq_true, Function.comp_apply, id, decide_eq_true_eq, not_exists, not_and]
      intro q hq
      have := h1 q hq
      omega
  · rw [if_pos]
    · exact hX _
    · simp only [List.any_map, List.any_eq_true, Function.comp_apply, id, decide_eq_true_eq]
      exact ⟨q, h1, h2⟩
/-- no number of a filling -/
def NotIn (t : Int) (d : D) : Prop := ∀ i : Int, 0 ≤ i → i < t → d ≠ .int i
def sp_filling_at : DSpec := fun args Q X => ∃ (S : List Nat) (ps : List Part) (d : D) (k : Nat), args = [.ext (dSh S ps), .ext d] ∧ ShOk S ps ∧ D.pl k d = true ∧
  (((∃ q ∈ wts S ps, q.2 < 0) ∧ ∀ fin, X "NoWeights" fin) ∨ ((∀ q ∈ wts S ps, 0 ≤ q.2) ∧ NotIn (wsum (wts S ps)) d ∧ ∀ fin, X "NoNumber" fin) ∨
    ((∀ q ∈ wts S ps, 0 ≤ q.2) ∧ ∃ pre q post i, wts S ps = pre ++ q :: post ∧ d = .int i ∧ wsum pre ≤ i ∧ i < wsum pre + q.2 ∧ ∀ fin, Q (.ext (.tup (nD q.1))) fin))
def e1_filling_at : DT :=
    (dVar 4)
def b2_filling_at : DTS :=
    (sSeq (sSetE 1 (dOp fSub (dVar 1) (dOp fIx (dOp fIx (dVar 2) (dVar 5)) (dC (.int 1)))))
    (sSetE 5 (dOp fAdd (dVar 5) (dC (.int 1)))))
def k3_filling_at : DTS :=
    (sRet (dOp fIx (dOp fIx (dVar 2) (dVar 5)) (dC (.int 0))))
def k4_filling_at : DTS :=
    (sSeq (sSetE 5 (dC (.int 0)))
    (sSeq (sWhile (dTest (dOp (fCmp fun i j => decide (j ≤ i)) (dVar 1) (dOp fIx (dOp fIx (dVar 2) (dVar 5)) (dC (.int 1))))) b2_filling_at)
    k3_filling_at))
def t_filling_at : DTS :=
    (sSeq (sSetE 2 (dCall sp_weights_of (dCons (dVar 0) dNil)))
    (sSeq (sIf (dOr (dNot (dTest (dCall sp_is_whole (dCons (dVar 1) dNil)))) (dNot (dTest (dChain (fCmp fun i j => decide (i ≤ j)) (fCmp fun i j => decide (i < j)) (dC (.int 0)) (dVar 1) (dCB fSum (dCons (dLc (dSeq (dVar 2)) (gTupD 2 (gsCons (gSet 3) (gsCons (gSet 4) gsNil))) dYes e1_filling_at [3, 4]) dNil)))))) (sRaise "NoNumber") sNext)
    k4_filling_at))
theorem wsum_nn {l : List (List Nat × Int)} (h : ∀ q ∈ l, 0 ≤ q.2) : 0 ≤ wsum l := by
  induction l with
  | nil => exact Int.le_refl _
  | cons q l ih =>
    have := ih fun r hr => h r (List.mem_cons_of_mem _ hr)
    have := h q List.mem_cons_self
    show 0 ≤ q.2 + wsum l
    omega
theorem wsum_app (a b : List (List Nat × Int)) : wsum (a ++ b) = wsum a + wsum b := by
  unfold wsum; rw [List.map_append, List.sum_append]
theorem m_filling_at : Meets t_filling_at 2 4 sp_filling_at := by
  rintro args Qd Xd ⟨S, ps, d, k, rfl, hs, hd, h⟩
  show t_filling_at _ _ [_, _, .un, .un, .un, .un]
  unfold t_filling_at
  trivial
  rcases h with ⟨hw, hX⟩ | h
  · exact ⟨S, ps, rfl, hs, .inr ⟨hw, fun fin => hX _⟩⟩
  have hw : ∀ q ∈ wts S ps, 0 ≤ q.2 := by rcases h with h | h <;> exact h.1
  refine ⟨S, ps, rfl, hs, .inl ⟨hw, fun fin => ?_⟩⟩
  trivial
  refine ⟨d, k, rfl, hd, fun fin => ?_⟩
  trivial
  cases d with
  | int i =>
    rw [if_neg (by simp [D.isInt])]
    trivial
    by_cases h0 : 0 ≤ i
    · rw [if_pos h0]
      refine lc_map dWt (fun q => .int q.2) True.intro (wts S ps) (Nat.le_trans (wts_len hs.sz) (by decide)) (fun q hq R hR => ?_) fun b => ?_
      · unfold e1_filling_at
        trivial
        exact hR
      trivial
      refine ⟨(wts S ps).map Prod.snd, by rw [List.map_map]; rfl, ?_⟩
      change if (!decide (i < wsum (wts S ps))) = true then _ else _
      rcases h with ⟨_, hn, hX⟩ | ⟨_, pre, q, post, i', he, ei, hi1, hi2, hQ⟩
      · rw [if_pos (by simp only [Bool.not_eq_true', decide_eq_false_iff_not]; exact fun z => hn i h0 z rfl)]
        exact hX _
      · have ei := D.int.inj ei
        subst ei
        have hpost : 0 ≤ wsum post := wsum_nn fun r hr => hw r (by rw [he]; simp [hr])
        have et : wsum (wts S ps) = wsum pre + (q.2 + wsum post) := by rw [he, wsum_app]; rfl
        rw [if_neg (by simp only [Bool.not_eq_true', decide_eq_false_iff_not, Decidable.not_not]; omega)]
        unfold k4_filling_at
        trivial
        refine ⟨fun m env => ∃ (j : Nat) (num : Int), env = [.ext (dSh S ps), dI num, .ext (.lst ((wts S ps).map dWt)), .un, .un, dI (j : Nat)] ∧ j ≤ pre.length ∧ m = pre.length - j ∧ num = i - wsum (pre.take j), ⟨pre.length, 0, i, rfl, Nat.zero_le _, rfl, by simp [wsum]⟩, ?_⟩
        rintro m env ⟨j, num, rfl, hj, rfl, hnum⟩
        obtain ⟨r, hr⟩ : ∃ r, (wts S ps)[j]? = some r := by
          have : j < (wts S ps).length := by rw [he]; simp; omega
          exact ⟨_, List.getElem?_eq_getElem this⟩
        have hat : ((wts S ps).map dWt)[j]? = some (dWt r) := by rw [List.getElem?_map, hr]; rfl
        trivial
        refine ⟨_, atN hat, ?_⟩
        trivial
        by_cases hj2 : j < pre.length
        · have hrp : pre[j]? = some r := by
            rw [he, List.getElem?_append_left hj2] at hr; exact hr
          obtain ⟨hjl, hpj⟩ := List.getElem?_eq_some_iff.1 hrp
          have e1 : wsum pre = wsum (pre.take j) + (r.2 + wsum (pre.drop (j + 1))) := by
            conv => lhs; rw [← List.take_append_drop j pre]
            rw [wsum_app, List.drop_eq_getElem_cons hjl, hpj]; rfl
          have e2 : 0 ≤ wsum (pre.drop (j + 1)) := wsum_nn fun r hr => hw r (by rw [he]; exact List.mem_append_left _ (List.mem_of_mem_drop hr))
          have e3 : wsum (pre.take (j + 1)) = wsum (pre.take j) + r.2 := by
            rw [List.take_succ_eq_append_getElem hjl, wsum_app, hpj]
            simp [wsum]
          rw [if_pos (by omega)]
          unfold b2_filling_at
          trivial
          refine ⟨_, atN hat, ?_⟩
          trivial
          exact ⟨pre.length - (j + 1), by omega, j + 1, num - r.2, rfl, by omega, rfl, by omega⟩
        · have ej : j = pre.length := by omega
          subst ej
          have er : r = q := by
            rw [he, List.getElem?_append_right (Nat.le_refl _)] at hr
            simpa using hr.symm
          subst er
          rw [List.take_length] at hnum
          rw [if_neg (by omega)]
          unfold k3_filling_at
          trivial
          refine ⟨_, atN hat, ?_⟩
          trivial
          exact hQ _
    · rw [if_neg h0]
      rcases h with ⟨_, hn, hX⟩ | ⟨_, pre, q, post, i', he, ei, hi1, hi2, hQ⟩
      · exact hX _
      · have ei := D.int.inj ei
        subst ei
        have : 0 ≤ wsum pre := wsum_nn fun r hr => hw r (by rw [he]; simp [hr])
        omega
  | _ =>
    rw [if_pos (by simp [D.isInt])]
    rcases h with ⟨_, _, hX⟩ | ⟨_, _, _, _, _, _, ei, _⟩
    · exact hX _
    · cases ei
end LS

/-! GH: sheets that weigh -/
namespace LS
open PySem L2 HD PM
local macro_rules | `(tactic| trivial) => `(tactic| try simp -dsimp only [↓sSeq, ↓sIf, ↓sRet, ↓retD_ext, ↓retD_lst, ↓retD_al, ↓sSet, ↓sSetE, ↓sAsg, ↓sDrop, ↓sNext, ↓sFor, ↓sRetN, ↓sCont, ↓sBreak, ↓dTest, ↓dOp, ↓dVar_w, ↓dC, ↓dCons, ↓dNil, ↓dTup, ↓dLst, ↓frzDs, ↓frzD_ext, ↓frzD_lst, ↓frzD_al, ↓wd_ext, ↓wd_lst, ↓wd_al, ↓wds, ↓AtS_ext, ↓AtS_lst, ↓AtL, ↓fAdd, ↓fSub, ↓fMul, ↓fDiv, ↓fMod, ↓fPow, ↓fCmp, ↓fIn, ↓fEq_ii, ↓fEq_ss, ↓fEq_bb, ↓fEq_tt, ↓fEq_ll, ↓fNe_ii, ↓fNe_ss, ↓fNe_bb, ↓fNe_tt, ↓fNe_ll, ↓fIx_l, ↓fIx_t, ↓fIx_k, ↓fIx_f, ↓GetS_some, ↓NatS_some, ↓fSl, ↓fIsN, ↓fNotN, ↓D.knN, ↓dNot, ↓dAnd, ↓dOr, ↓dAndV_w, ↓dOrV_w, ↓dNotV, ↓dIf, ↓dNeg, ↓dChain_w, ↓BlS_bl, ↓dCall_w, ↓dCallJ_w, ↓anyAl, ↓frozs, ↓froz, ↓gSet, ↓gTupD, ↓gsCons, ↓gsNil, ↓dSeq, ↓seqD_tup, ↓seqD_elst, ↓seqD_lst, ↓seqD_al, ↓dRange1, ↓dRange2, ↓dZip, ↓dCB, ↓dLc, ↓dYes, ↓dNoPart, ↓dPart, ↓dSl, ↓fLen, ↓fMin, ↓fMax, ↓fSum, ↓fAll, ↓fAny, ↓fSorted, ↓fTuple, ↓fList, ↓dRg1, ↓dRg2, ↓dLstRg, ↓dTupRg, ↓dIndex, ↓fIdx, ↓dAppend_w, ↓dExtend_w, ↓extD_lst, ↓dPopAt_w, ↓popD_int, ↓dPop_w, ↓mutD_w, ↓sSetItem_w, ↓setD_int, ↓dSortSet, ↓dTable_w, ↓wipeE, finals1, finals2, finals3, finals4, finals5, finals6, fin1_ext, fin1_lst, List.getElem?_cons_zero, List.getElem?_cons_succ, List.getElem?_nil, List.set_cons_zero, List.set_cons_succ, List.cons_append, List.nil_append, List.append_nil, List.replicate_succ, List.replicate_zero, List.map_cons, List.map_nil, List.length_cons, List.length_nil, true_and, and_true, ite_true, ite_false, if_true, if_false, Bool.false_eq_true, decide_eq_true_eq, Sl.plain, D.isSq, eq_self_iff_true, forall_const, reduceIte, true_or, or_true, atI_0, atI_1, atI_2, atI_3, ixN_0, ixN_1, ixN_2, AtS_ext, AtS_lst, FzS_lst, FzS_ext, GetS_some, NatS_some, ↓fIsi1, ↓fIsi2, BoolS_some, HD.kb_non_tuple, HD.kb_non_list, HD.kb_non_bool, HD.kb_non_int, HD.kb_non_str, HD.kb_bl_tuple, HD.kb_bl_list, HD.kb_bl_bool, HD.kb_bl_int, HD.kb_bl_str, HD.kb_int_tuple, HD.kb_int_list, HD.kb_int_bool, HD.kb_int_int, HD.kb_int_str, HD.kb_str_tuple, HD.kb_str_list, HD.kb_str_bool, HD.kb_str_int, HD.kb_str_str, HD.kb_lst_tuple, HD.kb_lst_list, HD.kb_lst_bool, HD.kb_lst_int, HD.kb_lst_str, HD.kb_tup_tuple, HD.kb_tup_list, HD.kb_tup_bool, HD.kb_tup_int, HD.kb_tup_str, ↓sFz_w, ↓FzS_lst, ↓FzS_ext, ↓dSortSetL, ↓fAbs, ↓fInt, ↓fRepr, ↓fLtT, ↓sRaise, ↓sTryKeep, ↓dCallV_w, ↓dMeth, ↓fCount, ↓fSplit])
theorem jAll_nn {S : List Nat} {g : Nat → Nat} (ps : List Part) (h : ∀ p ∈ ps, 0 ≤ val S p g) : ∀ acc : Int, 0 ≤ acc → 0 ≤ ps.foldl (fun acc p => jn .sum acc (val S p g)) acc := by
  induction ps with
  | nil => intro acc h; exact h
  | cons p ps ih =>
    intro acc ha
    exact ih (fun q hq => h q (List.mem_cons_of_mem _ hq)) _ (Int.mul_nonneg ha (h p List.mem_cons_self))
/-- a sheet whose fillings weigh -/
def sp_law_gheavy : DSpec := fun args Q _ => ∃ (n : Nat) (a : Addr) (ds : List D) (names most : Nat), args = [.lst a ds, dI (names : Nat), dI (most : Nat)] ∧ JarOk n ds ∧ n + 900000 < 4294967296 ∧ 0 < names ∧ names ≤ 24 ∧ 0 < most ∧ most ≤ 4096 ∧
  ∀ (S : List Nat) (ps : List Part) ds' fin, ShO4 S ps → S.length ≤ names → prodN S ≤ most → ps.length ≤ 6 → (∀ f, FitF S f → 0 ≤ jAll .sum S ps fun n => f.getD n 0) → JarOk (n + 900000) ds' → Q (.ext (dSh S ps)) (.lst a ds' :: fin)
def e1_law_gheavy : DT :=
    (dOp fMod (dCB fAbs (dCons (dVar 8) dNil)) (dOp fIx (dLst (dCons (dC (.int 3)) (dCons (dC (.int 7)) (dCons (dOp fPow (dC (.int 10)) (dC (.int 6))) (dCons (dC (.int 2)) (dCons (dC (.int 5)) dNil)))))) (dVar 4)))
def b2_law_gheavy : DTS :=
    (sDrop (dAppend 5 (dTup (dCons (dVar 6) (dCons (dCB fTuple (dCons (dLc (dSeq (dVar 7)) (gSet 8) dYes e1_law_gheavy [8]) dNil)) dNil)))))
def e3_law_gheavy : DT :=
    (dOp fSub (dNeg (dC (.int 1))) (dCallJ sp_law_gdraw 0 (dCons (dC (.int 4)) dNil)))
def b4_law_gheavy : DTS :=
    (sDrop (dAppend 5 (dTup (dCons (dTup (dCons (dC (.int 0)) dNil)) (dCons (dCB fTuple (dCons (dLc (dRange1 (dCons (dVar 9) dNil)) (gSet 11) dYes e3_law_gheavy [11]) dNil)) dNil)))))
def k5_law_gheavy : DTS :=
    (sRet (dTup (dCons (dVar 3) (dCons (dCB fTuple (dCons (dVar 5) dNil)) dNil))))
def k6_law_gheavy : DTS :=
    (sSeq (sIf (dTest (dOp fEq (dVar 4) (dC (.int 3)))) (sSeq (sSetE 9 (dCB fLen (dCons (dCall sp_law_gfillings (dCons (dVar 3) (dCons (dTup (dCons (dC (.int 0)) dNil)) dNil))) dNil)))
    (sFor (dRange1 (dCons (dC (.int 2)) dNil)) (gSet 10) b4_law_gheavy)) sNext)
    k5_law_gheavy)
def t_law_gheavy : DTS :=
    (sSeq (sSetE 3 (dOp fIx (dCallJ sp_law_gsheet 0 (dCons (dC (.str (Str.ofString "sum"))) (dCons (dVar 1) (dCons (dVar 2) (dCons (dC (.int 0)) dNil))))) (dC (.int 0))))
    (sSeq (sSetE 4 (dCallJ sp_law_gdraw 0 (dCons (dC (.int 5)) dNil)))
    (sSeq (sSet 5 (dLst dNil))
    (sSeq (sFor (dSeq (dCallJ sp_law_gparts 0 (dCons (dC (.str (Str.ofString "sum"))) (dCons (dVar 3) (dCons (dC (.int 4)) dNil))))) (gTupD 2 (gsCons (gSet 6) (gsCons (gSet 7) gsNil))) b2_law_gheavy)
    k6_law_gheavy))))
def BdN (p : Part) : Prop := ∀ x ∈ p.ws, 0 ≤ x ∧ x < 1000000
theorem m_law_gheavy : Meets t_law_gheavy 3 9 sp_law_gheavy := by
  rintro args Qd Xd ⟨n, a, ds, names, most, rfl, hj, hn, hn0, hn1, hm0, hm1, hQ⟩
  show t_law_gheavy _ _ [_, _, _, .un, .un, .un, .un, .un, .un, .un, .un, .un]
  unfold t_law_gheavy
  trivial
  refine ⟨n, a, ds, .sum, names, most, 0, rfl, hj, by omega, hn0, hn1, hm0, hm1, by decide, fun S ps0 ds1 fin hS hS1 hS2 hS3 _ _ hj1 => ?_⟩
  trivial
  refine ⟨n + 400000, a, ds1, 5, rfl, hj1, by omega, gdok (by decide) (by decide), fun way ds2 fin w0 w1 hj2 => ?_⟩
  trivial
  refine ⟨by decide, fun a5 => ⟨n + 400000 + 1, a, ds2, .sum, S, .tup (nD S), 4, rfl, .inl rfl, hj2, by omega, hS, hS1, by decide, fun ps ds3 fin hps hps4 hj3 => ?_⟩⟩
  trivial
  have h24 := hS.few
  obtain ⟨b, hb0, hb1, hb⟩ : ∃ b : Int, 0 < b ∧ b ≤ 1000000 ∧ atI [D.int 3, D.int 7, D.int (10 ^ Int.toNat 6), D.int 2, D.int 5] way = some (D.int b) := by
    have h : way = 0 ∨ way = 1 ∨ way = 2 ∨ way = 3 ∨ way = 4 := by omega
    rcases h with rfl | rfl | rfl | rfl | rfl
    · exact ⟨3, by decide, by decide, rfl⟩
    · exact ⟨7, by decide, by decide, rfl⟩
    · exact ⟨1000000, by decide, by decide, rfl⟩
    · exact ⟨2, by decide, by decide, rfl⟩
    · exact ⟨5, by decide, by decide, rfl⟩
  refine for_ind dP (fun qs env => ∃ (fs : List Part) (u6 u7 : Sl), env = [.lst a ds3, dI (names : Nat), dI (most : Nat), dSz S, dI way, .lst a5 (fs.map dP), u6, u7, .un, .un, .un, .un] ∧ fs.length + qs.length ≤ 4 ∧ (∀ p ∈ qs, p.Ok S) ∧ ∀ p ∈ fs, p.Ok S ∧ BdN p) ?_ ?_ ps _
    ⟨[], _, _, rfl, by simpa using hps4, fun p hp => (hps p hp).1, by simp⟩
  rotate_left
  · rintro p qs env N ⟨fs, u6, u7, rfl, hl, hq, hf⟩ hN
    rw [List.length_cons] at hl
    have hp := hq p List.mem_cons_self
    have hwl := hp.len
    have hwp := Part.Ok.psz hS hp
    refine ⟨True.intro, ?_⟩
    unfold b2_law_gheavy
    trivial
    refine lc_map D.int (fun x => .int ((if x < 0 then -x else x) % b)) True.intro p.ws (Nat.le_trans (by rw [hwl]; exact hwp) (by decide)) (fun x hx R hR => ?_) fun b' => ?_
    · unfold e1_law_gheavy
      trivial
      refine ⟨⟨by decide, by decide, by decide⟩, by decide, _, hb, ?_⟩
      trivial
      exact ⟨hb0, hR⟩
    trivial
    refine ⟨by decide, by rw [List.length_map]; exact Nat.lt_of_le_of_lt (by omega : fs.length ≤ 100) (by decide), ?_⟩
    rw [show fs.map dP ++ [D.tup [D.tup (nD p.ns), D.tup (p.ws.map fun x => D.int ((if x < 0 then -x else x) % b))]] = (fs ++ [(⟨p.ns, p.ws.map fun x => (if x < 0 then -x else x) % b⟩ : Part)]).map dP by rw [List.map_append]; simp [dP, iD, List.map_map, Function.comp_def]]
    refine hN _ ⟨_, _, _, rfl, by simp; omega, fun q h => hq q (List.mem_cons_of_mem _ h), fun q h => ?_⟩
    rcases List.mem_append.1 h with h | h
    · exact hf q h
    · rw [List.mem_singleton.1 h]
      refine ⟨⟨hp.rise, hp.lt, by rw [List.length_map]; exact hwl⟩, fun y hy => ?_⟩
      obtain ⟨x, _, rfl⟩ := List.mem_map.1 hy
      have z0 := Int.emod_nonneg (if x < 0 then -x else x) (b := b) (by omega)
      have z1 := Int.emod_lt_of_pos (if x < 0 then -x else x) hb0
      omega
  rintro env ⟨fs, u6, u7, rfl, hl, _, hf⟩
  simp only [List.length_nil, Nat.add_zero] at hl
  have hfv : ∀ p ∈ fs, ∀ f, FitF S f → 0 ≤ val S p fun n => f.getD n 0 := fun p hp f hfit => ((hf p hp).2 _ (val_mem (hf p hp).1 (hfit.fit (hf p hp).1))).1
  have hbd : ∀ p : Part, BdN p → Bd 40 p := fun p hp x hx => by have := hp x hx; omega
  refine ⟨True.intro, ?_⟩
  unfold k6_law_gheavy
  trivial
  simp only [beq_iff_eq]
  split
  · have hz := hS.pos _ (sz_mem hS1)
    have hz4 := hS.small _ (sz_mem hS1)
    have e0 : psz S [0] = sz S 0 := by simp [psz, prodN]
    refine ⟨by decide, S, [0], fArgs_tt, by simpa using ⟨hS1, hz⟩, by omega, by decide, fun fin => ?_⟩
    trivial
    rw [fD_len, len_fills, e0]
    refine ⟨⟨by decide, by decide⟩, ?_⟩
    have er : rgD 0 2 = nD (List.range 2) := rgD_nat 2
    rw [er]
    refine for_ind (fun k : Nat => D.int (k : Int)) (fun xs env => ∃ (m : Nat) (ds : List D) (gs : List Part) (u6 u7 u10 : Sl), env = [.lst a ds, dI (names : Nat), dI (most : Nat), dSz S, dI way, .lst a5 ((fs ++ gs).map dP), u6, u7, .un, dI (sz S 0 : Nat), u10, .un] ∧ JarOk m ds ∧ m + 10 * xs.length ≤ n + 800000 ∧ gs.length + xs.length = 2 ∧ ∀ p ∈ gs, p.Ok S ∧ ∀ x ∈ p.ws, -4 ≤ x ∧ x < 0) ?_ ?_ (List.range 2) _
      ⟨n + 400000 + 1 + 300000, ds3, [], _, _, _, by rw [List.append_nil], hj3, by simp, rfl, by simp⟩
    · rintro env ⟨m, ds, gs, u6, u7, u10, rfl, hj, hm, hg2, hg⟩
      simp only [List.length_nil, Nat.add_zero] at hm hg2
      refine ⟨True.intro, ?_⟩
      unfold k5_law_gheavy
      trivial
      refine ⟨by decide, hQ S (fs ++ gs) _ _ (.mk4 hS hS1 (fun p hp => ?_) (fun p hp => ?_) (by simp; omega)) hS2 hS3 (by simp; omega) (fun f hfit => ?_) (hj.up (by omega))⟩
      · rcases List.mem_append.1 hp with h | h
        · exact (hf p h).1
        · exact (hg p h).1
      · rcases List.mem_append.1 hp with h | h
        · exact hbd p (hf p h).2
        · exact fun x hx => by have := (hg p h).2 x hx; omega
      · rcases gs with _ | ⟨g1, _ | ⟨g2, _ | ⟨g3, gs⟩⟩⟩
        · simp at hg2
        · simp at hg2
        · unfold jAll
          rw [List.foldl_append]
          have h1 := (hg g1 (by simp)).2 _ (val_mem (hg g1 (by simp)).1 (hfit.fit (hg g1 (by simp)).1))
          have h2 := (hg g2 (by simp)).2 _ (val_mem (hg g2 (by simp)).1 (hfit.fit (hg g2 (by simp)).1))
          have h3 := jAll_nn (S := S) (g := fun n => f.getD n 0) fs (fun p hp => hfv p hp f hfit) (unitW .sum) (by decide)
          show 0 ≤ _ * _ * _
          rw [Int.mul_assoc]
          exact Int.mul_nonneg h3 (Int.le_of_lt (Int.mul_pos_of_neg_of_neg h1.2 h2.2))
        · simp at hg2
    · rintro k xs env N ⟨m, ds, gs, u6, u7, u10, rfl, hj, hm, hg2, hg⟩ hN
      rw [List.length_cons] at hm hg2
      refine ⟨True.intro, ?_⟩
      unfold b4_law_gheavy
      trivial
      refine ⟨by decide, ⟨by omega, by omega⟩, ?_⟩
      rw [rgD_nat]
      refine lc_ind (fun k : Nat => D.int (k : Int)) (fun ys acc env => ∃ (m2 : Nat) (ds : List D) (ws : List Int), env = [.lst a ds, dI (names : Nat), dI (most : Nat), dSz S, dI way, .lst a5 ((fs ++ gs).map dP), u6, u7, .un, dI (sz S 0 : Nat), .ext (.int (k : Nat)), .un] ∧ acc = iD ws ∧ JarOk m2 ds ∧ m2 + ys.length ≤ m + sz S 0 ∧ ws.length + ys.length = sz S 0 ∧ ∀ x ∈ ws, -4 ≤ x ∧ x < 0) ?_ ?_ (List.range (sz S 0)) [] _
        ⟨m, ds, [], rfl, rfl, hj, by simp, by simp, by simp⟩
      · rintro acc env ⟨m2, ds4, ws, rfl, rfl, hj4, hm2, hl2, hw⟩
        simp only [List.length_nil, Nat.add_zero] at hm2 hl2
        refine ⟨True.intro, fun b' => ?_⟩
        trivial
        refine ⟨by decide, by simp only [List.length_map, List.length_append]; exact Nat.lt_of_le_of_lt (by omega : fs.length + gs.length ≤ 100) (by decide), ?_⟩
        rw [show (fs ++ gs).map dP ++ [D.tup [D.tup [D.int 0], D.tup (iD ws)]] = (fs ++ (gs ++ [(⟨[0], ws⟩ : Part)])).map dP by simp [List.map_append, dP, nD]]
        refine hN _ ⟨m2, ds4, gs ++ [⟨[0], ws⟩], _, _, _, rfl, hj4, by omega, by simp; omega, fun p hp => ?_⟩
        rcases List.mem_append.1 hp with h | h
        · exact hg p h
        · rw [List.mem_singleton.1 h]
          exact ⟨⟨List.pairwise_singleton _ _, by simpa using hS1, by rw [hl2, e0]⟩, hw⟩
      · rintro y ys acc env N' ⟨m2, ds4, ws, rfl, rfl, hj4, hm2, hl2, hw⟩ hN'
        rw [List.length_cons] at hm2 hl2
        refine ⟨True.intro, by rw [iD_len]; exact Nat.lt_of_le_of_lt (by omega : ws.length ≤ 10) (by decide), ?_⟩
        unfold e3_law_gheavy
        trivial
        refine ⟨m2, a, ds4, 4, rfl, hj4, by omega, gdok (by decide) (by decide), fun r ds5 fin r0 r1 hj5 => ?_⟩
        trivial
        refine hN' _ _ ⟨m2 + 1, ds5, ws ++ [-1 - r], rfl, by rw [iD_snoc], hj5, by omega, by simp; omega, fun x hx => ?_⟩
        rcases List.mem_append.1 hx with h | h
        · exact hw x h
        · rw [List.mem_singleton.1 h]; omega
  · unfold k5_law_gheavy
    trivial
    exact ⟨by decide, hQ S fs _ _ (.mk4 hS hS1 (fun p hp => (hf p hp).1) (fun p hp => hbd p (hf p hp).2) (by omega)) hS2 hS3 (by omega) (fun f hfit => jAll_nn fs (fun p hp => hfv p hp f hfit) _ (by decide)) (hj3.up (by omega))⟩
/-- the same with a part below 0, or another sheet -/
def sp_law_glight : DSpec := fun args Q _ => ∃ (n : Nat) (a : Addr) (ds : List D) (S : List Nat) (ps : List Part), args = [.lst a ds, .ext (dSh S ps)] ∧ JarOk n ds ∧ n + 400001 < 4294967296 ∧ ShO4 S ps ∧ ps.length ≤ 6 ∧
  ∀ (S' : List Nat) (ps' : List Part) ds' fin, ShO4 S' ps' → ps'.length ≤ 7 → JarOk (n + 400001) ds' → Q (.ext (dSh S' ps')) (.lst a ds' :: fin)
def e1_law_glight : DT :=
    (dOp fIx (dLst (dCons (dC (.int 1)) (dCons (dNeg (dC (.int 1))) dNil))) (dCB fInt (dCons (dOp fEq (dVar 7) (dVar 6)) dNil)))
def t_law_glight : DTS :=
    (sSeq (sAsg (dVar 1) (gTupD 2 (gsCons (gSet 2) (gsCons (gSet 3) gsNil))))
    (sSeq (sSetE 4 (dCallJ sp_law_gdraw 0 (dCons (dC (.int 4)) dNil)))
    (sSeq (sIf (dTest (dOp fEq (dVar 4) (dC (.int 0)))) (sRet (dTup (dCons (dVar 2) (dCons (dOp fAdd (dTup (dCons (dTup (dCons (dTup dNil) (dCons (dTup (dCons (dNeg (dC (.int 1))) dNil)) dNil))) dNil)) (dVar 3)) dNil)))) sNext)
    (sSeq (sIf (dTest (dOp fEq (dVar 4) (dC (.int 1)))) (sRet (dCallJ sp_law_gsheet 0 (dCons (dC (.str (Str.ofString "sum"))) (dCons (dC (.int 4)) (dCons (dC (.int 12)) (dCons (dC (.int 4)) dNil)))))) sNext)
    (sSeq (sSetE 5 (dCallJ sp_law_gdraw 0 (dCons (dCB fLen (dCons (dVar 2) dNil)) dNil)))
    (sSeq (sSetE 6 (dCallJ sp_law_gdraw 0 (dCons (dOp fIx (dVar 2) (dVar 5)) dNil)))
    (sRet (dTup (dCons (dVar 2) (dCons (dOp fAdd (dTup (dCons (dTup (dCons (dTup (dCons (dVar 5) dNil)) (dCons (dCB fTuple (dCons (dLc (dRange1 (dCons (dOp fIx (dVar 2) (dVar 5)) dNil)) (gSet 7) dYes e1_law_glight [7]) dNil)) dNil))) dNil)) (dVar 3)) dNil))))))))))
theorem ShO4.cons {S : List Nat} {ps : List Part} {p : Part} (h : ShO4 S ps) (hp : p.Ok S) (hb : Bd 40 p) (hl : ps.length < 60) : ShO4 S (p :: ps) :=
  .mk4 h.sz h.one (fun q hq => by rcases List.mem_cons.1 hq with rfl | hq; exact hp; exact h.ok q hq) (fun q hq => by rcases List.mem_cons.1 hq with rfl | hq; exact hb; exact h.b4 q hq) (by simp; omega)
theorem m_law_glight : Meets t_law_glight 2 6 sp_law_glight := by
  rintro args Qd Xd ⟨n, a, ds, S, ps, rfl, hj, hn, hs, h6, hQ⟩
  show t_law_glight _ _ [_, _, .un, .un, .un, .un, .un, .un]
  unfold t_law_glight
  trivial
  have h24 := hs.sz.few
  have h1 := hs.one
  have hl : 1 + ps.length ≤ sizeLine := Nat.le_trans (by omega : 1 + ps.length ≤ 100) (by decide)
  refine ⟨n, a, ds, 4, rfl, hj, by omega, gdok (by decide) (by decide), fun way ds1 fin r0 r1 hj1 => ?_⟩
  trivial
  simp only [beq_iff_eq]
  split
  · rw [List.length_map]
    refine ⟨by decide, by decide, by decide, by decide, by simpa using hl, by decide, ?_⟩
    have := hQ S (⟨[], [-1]⟩ :: ps) ds1 [.ext (dSh S ps)] (hs.cons ⟨.nil, by simp, rfl⟩ (by intro x hx; simp at hx; subst hx; decide) (by omega)) (by simp; omega) (hj1.up (by omega))
    exact this
  · split
    · refine ⟨n + 1, a, ds1, .sum, 4, 12, 4, rfl, hj1, by omega, by decide, by decide, by decide, by decide, by decide, fun S' ps' ds2 fin q1 q2 q3 q4 q5 q6 q7 => ?_⟩
      trivial
      exact hQ S' ps' _ _ (q5.sh q1 q2 (by omega)) (by omega) (q7.up (by omega))
    · rw [nD_len]
      refine ⟨n + 1, a, ds1, S.length, rfl, hj1, by omega, gdok (by omega) (by omega), fun nm ds2 fin m0 m1 hj2 => ?_⟩
      trivial
      obtain ⟨nm, rfl⟩ := Int.eq_ofNat_of_zero_le m0
      have hnm : nm < S.length := by omega
      have hz := hs.sz.pos _ (sz_mem hnm)
      have hz4 := hs.sz.small _ (sz_mem hnm)
      refine ⟨_, atN (sz_at hnm), ?_⟩
      trivial
      refine ⟨n + 1 + 1, a, ds2, sz S nm, rfl, hj2, by omega, gdok (by omega) (by omega), fun at' ds3 fin t0 t1 hj3 => ?_⟩
      trivial
      refine ⟨by decide, _, atN (sz_at hnm), ?_⟩
      trivial
      refine ⟨⟨by omega, by omega⟩, ?_⟩
      rw [rgD_nat]
      refine lc_map (fun k : Nat => D.int (k : Int)) (fun k : Nat => D.int (if (k : Int) = at' then -1 else 1)) True.intro (List.range (sz S nm)) (Nat.le_trans (by simp; omega : _ ≤ 100) (by decide)) (fun k hk R hR => ?_) fun b => ?_
      · unfold e1_law_glight
        trivial
        refine ⟨by decide, ?_⟩
        by_cases e : (k : Int) = at'
        · rw [show ((k : Int) == at') = true by simpa using e]
          rw [if_pos e] at hR
          exact ⟨_, rfl, hR⟩
        · rw [show ((k : Int) == at') = false by simpa using e]
          rw [if_neg e] at hR
          exact ⟨_, rfl, hR⟩
      trivial
      rw [List.length_map]
      refine ⟨by decide, by decide, by simpa using hl, by decide, ?_⟩
      have hw : (⟨[nm], (List.range (sz S nm)).map fun k : Nat => (if (k : Int) = at' then -1 else 1 : Int)⟩ : Part).Ok S := ⟨List.pairwise_singleton _ _, by simpa using hnm, by simp [psz, prodN]⟩
      have := hQ S (⟨[nm], (List.range (sz S nm)).map fun k : Nat => (if (k : Int) = at' then -1 else 1 : Int)⟩ :: ps) ds3 [.ext (dSh S ps)] (hs.cons hw (by
        intro x hx
        obtain ⟨k, _, rfl⟩ := List.mem_map.1 hx
        split <;> decide) (by omega)) (by simp; omega) (hj3.up (by omega))
      rw [show ((List.range (sz S nm)).map fun k : Nat => D.int (if (k : Int) = at' then -1 else 1)) = iD ((List.range (sz S nm)).map fun k : Nat => (if (k : Int) = at' then -1 else 1 : Int)) by rw [iD, List.map_map]; rfl]
      exact this
end LS

/-! GI: numbers of fillings -/
namespace LS
open PySem L2 HD PM
local macro_rules | `(tactic| trivial) => `(tactic| try simp -dsimp only [↓sSeq, ↓sIf, ↓sRet, ↓retD_ext, ↓retD_lst, ↓retD_al, ↓sSet, ↓sSetE, ↓sAsg, ↓sDrop, ↓sNext, ↓sFor, ↓sRetN, ↓sCont, ↓sBreak, ↓dTest, ↓dOp, ↓dVar_w, ↓dC, ↓dCons, ↓dNil, ↓dTup, ↓dLst, ↓frzDs, ↓frzD_ext, ↓frzD_lst, ↓frzD_al, ↓wd_ext, ↓wd_lst, ↓wd_al, ↓wds, ↓AtS_ext, ↓AtS_lst, ↓AtL, ↓fAdd, ↓fSub, ↓fMul, ↓fDiv, ↓fMod, ↓fPow, ↓fCmp, ↓fIn, ↓fEq_ii, ↓fEq_ss, ↓fEq_bb, ↓fEq_tt, ↓fEq_ll, ↓fNe_ii, ↓fNe_ss, ↓fNe_bb, ↓fNe_tt, ↓fNe_ll, ↓fIx_l, ↓fIx_t, ↓fIx_k, ↓fIx_f, ↓GetS_some, ↓NatS_some, ↓fSl, ↓fIsN, ↓fNotN, ↓D.knN, ↓dNot, ↓dAnd, ↓dOr, ↓dAndV_w, ↓dOrV_w, ↓dNotV, ↓dIf, ↓dNeg, ↓dChain_w, ↓BlS_bl, ↓dCall_w, ↓dCallJ_w, ↓anyAl, ↓frozs, ↓froz, ↓gSet, ↓gTupD, ↓gsCons, ↓gsNil, ↓dSeq, ↓seqD_tup, ↓seqD_elst, ↓seqD_lst, ↓seqD_al, ↓dRange1, ↓dRange2, ↓dZip, ↓dCB, ↓dLc, ↓dYes, ↓dNoPart, ↓dPart, ↓dSl, ↓fLen, ↓fMin, ↓fMax, ↓fSum, ↓fAll, ↓fAny, ↓fSorted, ↓fTuple, ↓fList, ↓dRg1, ↓dRg2, ↓dLstRg, ↓dTupRg, ↓dIndex, ↓fIdx, ↓dAppend_w, ↓dExtend_w, ↓extD_lst, ↓dPopAt_w, ↓popD_int, ↓dPop_w, ↓mutD_w, ↓sSetItem_w, ↓setD_int, ↓dSortSet, ↓dTable_w, ↓wipeE, finals1, finals2, finals3, finals4, finals5, finals6, fin1_ext, fin1_lst, List.getElem?_cons_zero, List.getElem?_cons_succ, List.getElem?_nil, List.set_cons_zero, List.set_cons_succ, List.cons_append, List.nil_append, List.append_nil, List.replicate_succ, List.replicate_zero, List.map_cons, List.map_nil, List.length_cons, List.length_nil, true_and, and_true, ite_true, ite_false, if_true, if_false, Bool.false_eq_true, decide_eq_true_eq, Sl.plain, D.isSq, eq_self_iff_true, forall_const, reduceIte, true_or, or_true, atI_0, atI_1, atI_2, atI_3, ixN_0, ixN_1, ixN_2, AtS_ext, AtS_lst, FzS_lst, FzS_ext, GetS_some, NatS_some, ↓fIsi1, ↓fIsi2, BoolS_some, HD.kb_non_tuple, HD.kb_non_list, HD.kb_non_bool, HD.kb_non_int, HD.kb_non_str, HD.kb_bl_tuple, HD.kb_bl_list, HD.kb_bl_bool, HD.kb_bl_int, HD.kb_bl_str, HD.kb_int_tuple, HD.kb_int_list, HD.kb_int_bool, HD.kb_int_int, HD.kb_int_str, HD.kb_str_tuple, HD.kb_str_list, HD.kb_str_bool, HD.kb_str_int, HD.kb_str_str, HD.kb_lst_tuple, HD.kb_lst_list, HD.kb_lst_bool, HD.kb_lst_int, HD.kb_lst_str, HD.kb_tup_tuple, HD.kb_tup_list, HD.kb_tup_bool, HD.kb_tup_int, HD.kb_tup_str, ↓sFz_w, ↓FzS_lst, ↓FzS_ext, ↓dSortSetL, ↓fAbs, ↓fInt, ↓fRepr, ↓fLtT, ↓sRaise, ↓sTryKeep, ↓dCallV_w, ↓dMeth, ↓fCount, ↓fSplit])
/-! ### fillings are sorted -/
abbrev cI (l : List Nat) : List Int := l.map fun n : Nat => (n : Int)
def lexN (f g : List Nat) : Bool := HT.lexLt (cI f) (cI g)
theorem lexN_cons (x y : Nat) (f g : List Nat) : lexN (x :: f) (y :: g) = if x = y then lexN f g else decide (x < y) := by
  unfold lexN
  show (if (x : Int) = (y : Int) then _ else decide ((x : Int) < (y : Int))) = _
  by_cases e : x = y
  · rw [if_pos e, if_pos (by omega)]
  · rw [if_neg e, if_neg (by omega)]
    exact decide_eq_decide.2 (by omega)
theorem fills_lex (S ns : List Nat) : (fills S ns).Pairwise fun f g => lexN f g = true := by
  induction ns with
  | nil => exact List.pairwise_singleton _ _
  | cons n ns ih =>
    refine List.pairwise_flatMap.2 ⟨fun w _ => ?_, ?_⟩
    · refine List.pairwise_map.2 (ih.imp fun {f g} h => ?_)
      rw [lexN_cons, if_pos rfl]
      exact h
    · refine List.pairwise_lt_range.imp fun {v w} h x hx y hy => ?_
      obtain ⟨f, _, rfl⟩ := List.mem_map.1 hx
      obtain ⟨g, _, rfl⟩ := List.mem_map.1 hy
      rw [lexN_cons, if_neg (by omega)]
      exact decide_eq_true h
theorem lexN_irr (f : List Nat) : lexN f f = false := by
  induction f with
  | nil => rfl
  | cons x f ih => rw [lexN_cons, if_pos rfl, ih]
theorem lexN_asym {f g : List Nat} (h : lexN f g = true) : lexN g f = false := by
  induction f generalizing g with
  | nil => cases g with
    | nil => rfl
    | cons y g => rfl
  | cons x f ih => cases g with
    | nil => cases h
    | cons y g =>
      rw [lexN_cons] at h ⊢
      by_cases e : x = y
      · subst e
        rw [if_pos rfl] at h ⊢
        exact ih h
      · rw [if_neg e] at h
        rw [if_neg (by omega)]
        have := of_decide_eq_true h
        exact decide_eq_false (by omega)
theorem ahead_of {S : List Nat} {ps : List Part} {pre post : List (List Nat × Int)} {q : List Nat × Int} (h : wts S ps = pre ++ q :: post) : (wts S ps).filter (fun r => lexN r.1 q.1) = pre := by
  have hp : (wts S ps).Pairwise fun a b => lexN a.1 b.1 = true := List.pairwise_map.2 ((fills_lex S _).imp fun h => h)
  rw [h] at hp ⊢
  obtain ⟨_, h2, h3⟩ := List.pairwise_append.1 hp
  rw [List.filter_append, List.filter_eq_self.2 fun a ha => h3 a ha q List.mem_cons_self, List.filter_cons_of_neg (by rw [lexN_irr]; decide), List.filter_eq_nil_iff.2, List.append_nil]
  intro b hb
  rw [lexN_asym ((List.pairwise_cons.1 h2).1 b hb)]
  decide
/-! ### whether a thing is a filling -/
def IsFill (S : List Nat) (d : D) : Prop := ∃ f : List Nat, d = .tup (nD f) ∧ FitF S f
def sp_is_filling : DSpec := fun args Q _ => ∃ (S : List Nat) (d : D) (k : Nat), args = [dSz S, .ext d] ∧ S.length ≤ 24 ∧ D.pl k d = true ∧ ∀ (b : Bool) fin, (b = true ↔ IsFill S d) → Q (.ext (.bl b)) fin
def e1_is_filling : DT :=
    (dAndV (dCall sp_is_whole (dCons (dVar 2) dNil)) (dChain (fCmp fun i j => decide (i ≤ j)) (fCmp fun i j => decide (i < j)) (dC (.int 0)) (dVar 2) (dVar 3)))
def k2_is_filling : DTS :=
    (sRet (dCB fAll (dCons (dLc (dZip (dVar 1) (dVar 0)) (gTupD 2 (gsCons (gSet 2) (gsCons (gSet 3) gsNil))) dYes e1_is_filling [2, 3]) dNil)))
def t_is_filling : DTS :=
    (sSeq (sIf (dOr (dNot (dTest (dCB fIsi (dCons (dVar 1) (dCons (dC (.val (.ty "tuple"))) dNil))))) (dTest (dOp fNe (dCB fLen (dCons (dVar 1) dNil)) (dCB fLen (dCons (dVar 0) dNil))))) (sRet (dC (.bl false))) sNext)
    k2_is_filling)
def inB (d : D) (z : Nat) : Bool := match d with
  | .int i => decide (0 ≤ i) && decide (i < z)
  | _ => false
theorem zip_sz (ds : List D) (S : List Nat) : (ds.zip (nD S)).map (fun p => D.tk [p.1, p.2]) = (ds.zip S).map fun p => D.tk [p.1, .int (p.2 : Nat)] := by
  induction ds generalizing S with
  | nil => rfl
  | cons d ds ih => cases S with
    | nil => rfl
    | cons s S => simp only [nD_cons, List.zip_cons_cons, List.map_cons, ih]
theorem fit_zip {ds : List D} {S : List Nat} (hl : ds.length = S.length) : ((ds.zip S).all fun p => inB p.1 p.2) = true ↔ ∃ f : List Nat, ds = nD f ∧ FitF S f := by
  induction S generalizing ds with
  | nil =>
    have : ds = [] := List.eq_nil_of_length_eq_zero (by simpa using hl)
    subst this
    exact ⟨fun _ => ⟨[], rfl, rfl, fun n hn => by simp at hn⟩, fun _ => rfl⟩
  | cons s S ih =>
    cases ds with
    | nil => simp at hl
    | cons d ds =>
      have hl' : ds.length = S.length := by simpa using hl
      rw [List.zip_cons_cons, List.all_cons, Bool.and_eq_true, ih hl']
      constructor
      · rintro ⟨h1, f, rfl, hf⟩
        cases d with
        | int i =>
          have h1 : decide (0 ≤ i) && decide (i < s) := h1
          rw [Bool.and_eq_true, decide_eq_true_eq, decide_eq_true_eq] at h1
          refine ⟨i.toNat :: f, by rw [nD_cons, Int.toNat_of_nonneg h1.1], by simp [hf.1], fun n hn => ?_⟩
          cases n with
          | zero => simp [sz]; omega
          | succ n => simpa [sz] using hf.2 n (by simpa using hn)
        | _ => cases h1
      · rintro ⟨f, e, hf⟩
        cases f with
        | nil => simp at e
        | cons x f =>
          rw [nD_cons] at e
          obtain ⟨e1, e2⟩ := List.cons.inj e
          subst e1
          subst e2
          refine ⟨?_, f, rfl, by simpa using hf.1, fun n hn => by simpa [sz] using hf.2 (n + 1) (by simpa using hn)⟩
          have := hf.2 0 (by simp)
          simp [sz] at this
          simp [inB]
          omega
theorem m_is_filling : Meets t_is_filling 2 2 sp_is_filling := by
  rintro args Qd Xd ⟨S, d, k, rfl, h24, hp, hQ⟩
  have nv := pl_noVal k d hp
  show t_is_filling _ _ [_, _, .un, .un]
  unfold t_is_filling
  cases d with
  | val _ => cases k <;> simp [D.pl] at hp
  | fz _ => cases k <;> simp [D.pl] at hp
  | tk _ => cases k <;> simp [D.pl] at hp
  | exc _ => cases k <;> simp [D.pl] at hp
  | glo _ => cases k <;> simp [D.pl] at hp
  | tup ds =>
    cases k with
    | zero => simp [D.pl] at hp
    | succ k =>
      rw [D.pl, Bool.and_eq_true, List.all_eq_true, decide_eq_true_eq] at hp
      trivial
      simp only [nv, D.isFz, true_and, Bool.not_true, Bool.false_eq_true, if_false]
      rw [nD_len]
      by_cases hl : ds.length = S.length
      · rw [if_neg (by simp; omega)]
        unfold k2_is_filling
        trivial
        rw [zip_sz]
        refine lc_map (fun p : D × Nat => D.tk [p.1, .int (p.2 : Nat)]) (fun p => .bl (inB p.1 p.2)) True.intro (ds.zip S) (Nat.le_trans (by rw [List.length_zip]; omega : _ ≤ 100) (by decide)) (fun p hpz R hR => ?_) fun b => ?_
        · have hpl := hp.2 p.1 (List.of_mem_zip hpz).1
          unfold e1_is_filling
          trivial
          refine ⟨p.1, k, rfl, hpl, fun fin => ?_⟩
          trivial
          obtain ⟨d, z⟩ := p
          cases d with
          | int i =>
            rw [if_pos (show D.isInt (.int i) = true from rfl)]
            trivial
            split
            · rename_i h0
              have e : inB (.int i) z = decide (i < (z : Int)) := by simp [inB, h0]
              rw [e] at hR
              exact hR
            · rename_i h0
              have e : inB (.int i) z = false := by simp [inB, h0]
              rw [e] at hR
              exact hR
          | _ =>
            rw [if_neg (by simp [D.isInt])]
            exact hR
        trivial
        refine ⟨(ds.zip S).map fun p => inB p.1 p.2, by rw [List.map_map]; rfl, hQ _ _ ?_⟩
        rw [List.all_map]
        refine (fit_zip hl).trans ⟨fun ⟨f, e, h⟩ => ⟨f, by rw [e], h⟩, fun ⟨f, e, h⟩ => ⟨f, D.tup.inj e, h⟩⟩
      · rw [if_pos (by simp; omega)]
        refine hQ _ _ ⟨fun z => by simp at z, ?_⟩
        rintro ⟨f, e, hf⟩
        have e := D.tup.inj e
        subst e
        rw [nD_len] at hl
        exact absurd hf.1 hl
  | _ =>
    trivial
    simp only [nv, D.isFz, true_and, Bool.not_false, if_true]
    exact hQ _ _ ⟨fun z => by simp at z, fun ⟨_, e, _⟩ => by simp at e⟩
def sp_number_of : DSpec := fun args Q X => ∃ (S : List Nat) (ps : List Part) (d : D) (k : Nat), args = [.ext (dSh S ps), .ext d] ∧ ShOk S ps ∧ D.pl k d = true ∧
  ((¬ IsFill S d ∧ ∀ fin, X "NoFilling" fin) ∨ ((∃ q ∈ wts S ps, q.2 < 0) ∧ IsFill S d ∧ ∀ fin, X "NoWeights" fin) ∨
    ((∀ q ∈ wts S ps, 0 ≤ q.2) ∧ ∃ pre q post, wts S ps = pre ++ q :: post ∧ d = .tup (nD q.1) ∧ ∀ fin, Q (dI (wsum pre)) fin))
def e1_number_of : DT :=
    (dVar 3)
def t_number_of : DTS :=
    (sSeq (sIf (dNot (dTest (dCall sp_is_filling (dCons (dOp fIx (dVar 0) (dC (.int 0))) (dCons (dVar 1) dNil))))) (sRaise "NoFilling") sNext)
    (sRet (dCB fSum (dCons (dLc (dSeq (dCall sp_weights_of (dCons (dVar 0) dNil))) (gTupD 2 (gsCons (gSet 2) (gsCons (gSet 3) gsNil))) (dTest (dOp fLtT (dVar 2) (dVar 1))) e1_number_of [2, 3]) dNil))))
theorem wts_fit {S : List Nat} {ps : List Part} {q : List Nat × Int} (h : q ∈ wts S ps) : FitF S q.1 := by
  obtain ⟨f, hf, rfl⟩ := List.mem_map.1 h
  exact allF_fit hf
theorem wts_min {S : List Nat} {ps : List Part} (hS : SzOk S) : wts S ps ≠ [] := by
  intro e
  have h1 : 0 < prodN S := prodN_pos hS.pos
  have : (wts S ps).length = prodN S := by unfold wts allF; rw [List.length_map, len_fills, psz_all]
  rw [e] at this
  simp at this
  omega
theorem m_number_of : Meets t_number_of 2 2 sp_number_of := by
  rintro args Qd Xd ⟨S, ps, d, k, rfl, hs, hp, h⟩
  show t_number_of _ _ [_, _, .un, .un]
  unfold t_number_of
  trivial
  refine ⟨S, d, k, rfl, hs.sz.few, hp, fun b fin hb => ?_⟩
  trivial
  rcases h with ⟨hn, hX⟩ | h
  · rw [if_pos (by cases b with
      | true => exact absurd (hb.1 rfl) hn
      | false => rfl)]
    exact hX _
  have hfill : IsFill S d := by
    rcases h with h | ⟨_, pre, q, post, he, rfl, _⟩
    · exact h.2.1
    · exact ⟨q.1, rfl, wts_fit (ps := ps) (by rw [he]; simp)⟩
  rw [if_neg (by rw [hb.2 hfill]; decide)]
  rcases h with ⟨hw, _, hX⟩ | ⟨hw, pre, q, post, he, rfl, hQ⟩
  · exact ⟨S, ps, rfl, hs, .inr ⟨hw, fun fin => hX _⟩⟩
  refine ⟨S, ps, rfl, hs, .inl ⟨hw, fun fin => ?_⟩⟩
  trivial
  refine lc_filter dWt (fun r => .int r.2) (fun r => lexN r.1 q.1) True.intro (wts S ps) (Nat.le_trans (wts_len hs.sz) (by decide)) (fun r hr R hR => ?_) fun b => ?_
  · unfold e1_number_of
    trivial
    refine ⟨cI r.1, cI q.1, (iD_nat _).symm, (iD_nat _).symm, ?_⟩
    exact R_if rfl hR
  trivial
  refine ⟨((wts S ps).filter fun r => lexN r.1 q.1).map Prod.snd, by rw [List.map_map]; rfl, ?_⟩
  rw [ahead_of he]
  exact hQ _
end LS

/-! K84: numbers of fillings -/
namespace LS
theorem cut_take (xs : List HD.D) (n : Nat) (h : n ≤ xs.length) : HD.cutD xs none (some (n : Int)) = xs.take n := by
  unfold HD.cutD
  rw [HT.sIx_none, HT.sIx_nat, List.drop_zero, Nat.sub_zero, Nat.min_eq_left h]
theorem cut_drop (xs : List HD.D) (n : Nat) (h : n ≤ xs.length) : HD.cutD xs (some (n : Int)) none = xs.drop n := by
  unfold HD.cutD
  rw [HT.sIx_none, HT.sIx_nat, Nat.min_eq_left h]
  exact List.take_of_length_le (by simp)
namespace K84
open PySem L2 HD PM
local macro_rules | `(tactic| trivial) => `(tactic| try simp -dsimp only [↓sSeq, ↓sIf, ↓sRet, ↓retD_ext, ↓retD_lst, ↓retD_al, ↓sSet, ↓sSetE, ↓sAsg, ↓sDrop, ↓sNext, ↓sFor, ↓sRetN, ↓sCont, ↓sBreak, ↓dTest, ↓dOp, ↓dVar_w, ↓dC, ↓dCons, ↓dNil, ↓dTup, ↓dLst, ↓frzDs, ↓frzD_ext, ↓frzD_lst, ↓frzD_al, ↓wd_ext, ↓wd_lst, ↓wd_al, ↓wds, ↓AtS_ext, ↓AtS_lst, ↓AtL, ↓fAdd, ↓fSub, ↓fMul, ↓fDiv, ↓fMod, ↓fPow, ↓fCmp, ↓fIn, ↓fEq_ii, ↓fEq_ss, ↓fEq_bb, ↓fEq_tt, ↓fEq_ll, ↓fNe_ii, ↓fNe_ss, ↓fNe_bb, ↓fNe_tt, ↓fNe_ll, ↓fIx_l, ↓fIx_t, ↓fIx_k, ↓fIx_f, ↓GetS_some, ↓NatS_some, ↓fSl, ↓fIsN, ↓fNotN, ↓D.knN, ↓dNot, ↓dAnd, ↓dOr, ↓dAndV_w, ↓dOrV_w, ↓dNotV, ↓dIf, ↓dNeg, ↓dChain_w, ↓BlS_bl, ↓dCall_w, ↓dCallJ_w, ↓anyAl, ↓frozs, ↓froz, ↓gSet, ↓gTupD, ↓gsCons, ↓gsNil, ↓dSeq, ↓seqD_tup, ↓seqD_elst, ↓seqD_lst, ↓seqD_al, ↓dRange1, ↓dRange2, ↓dZip, ↓dCB, ↓dLc, ↓dYes, ↓dNoPart, ↓dPart, ↓dSl, ↓fLen, ↓fMin, ↓fMax, ↓fSum, ↓fAll, ↓fAny, ↓fSorted, ↓fTuple, ↓fList, ↓dRg1, ↓dRg2, ↓dLstRg, ↓dTupRg, ↓dIndex, ↓fIdx, ↓dAppend_w, ↓dExtend_w, ↓extD_lst, ↓dPopAt_w, ↓popD_int, ↓dPop_w, ↓mutD_w, ↓sSetItem_w, ↓setD_int, ↓dSortSet, ↓dTable_w, ↓wipeE, finals1, finals2, finals3, finals4, finals5, finals6, fin1_ext, fin1_lst, List.getElem?_cons_zero, List.getElem?_cons_succ, List.getElem?_nil, List.set_cons_zero, List.set_cons_succ, List.cons_append, List.nil_append, List.append_nil, List.replicate_succ, List.replicate_zero, List.map_cons, List.map_nil, List.length_cons, List.length_nil, true_and, and_true, ite_true, ite_false, if_true, if_false, Bool.false_eq_true, decide_eq_true_eq, Sl.plain, D.isSq, eq_self_iff_true, forall_const, reduceIte, true_or, or_true, atI_0, atI_1, atI_2, atI_3, ixN_0, ixN_1, ixN_2, AtS_ext, AtS_lst, FzS_lst, FzS_ext, GetS_some, NatS_some, ↓fIsi1, ↓fIsi2, BoolS_some, HD.kb_non_tuple, HD.kb_non_list, HD.kb_non_bool, HD.kb_non_int, HD.kb_non_str, HD.kb_bl_tuple, HD.kb_bl_list, HD.kb_bl_bool, HD.kb_bl_int, HD.kb_bl_str, HD.kb_int_tuple, HD.kb_int_list, HD.kb_int_bool, HD.kb_int_int, HD.kb_int_str, HD.kb_str_tuple, HD.kb_str_list, HD.kb_str_bool, HD.kb_str_int, HD.kb_str_str, HD.kb_lst_tuple, HD.kb_lst_list, HD.kb_lst_bool, HD.kb_lst_int, HD.kb_lst_str, HD.kb_tup_tuple, HD.kb_tup_list, HD.kb_tup_bool, HD.kb_tup_int, HD.kb_tup_str, ↓sFz_w, ↓FzS_lst, ↓FzS_ext, ↓dSortSetL, ↓fAbs, ↓fInt, ↓fRepr, ↓fLtT, ↓sRaise, ↓sTryKeep, ↓dCallV_w, ↓dMeth, ↓fCount, ↓fSplit])
def cs84 : List Str := ["NoFilling", "NoWeights"]
def FT84 : FTab := fun nm => if nm = "number_of" then some (2, sp_number_of) else none
/-- no filling, shown and compared with ease -/
structure NoF (S : List Nat) (d : D) : Prop where
  pl : D.pl 3 d = true
  sh : d.sh
  no : ¬ IsFill S d
def sp_law_gno_fillings : DSpec := fun args Q _ => ∃ (n : Nat) (a : Addr) (ds : List D) (S f : List Nat), args = [.lst a ds, dSz S, .ext (.tup (nD f))] ∧ JarOk n ds ∧ n + 2 < 4294967296 ∧ SzOk S ∧ 0 < S.length ∧ FitF S f ∧
  ∀ b T ds' fin, (∀ d ∈ T, NoF S d) → JarOk (n + 2) ds' → Q (.lst b T) (.lst a ds' :: fin)
def b1_law_gno_fillings : DTS :=
    (sDrop (dAppend 4 (dOp fAdd (dOp fAdd (dSl (dVar 2) dNoPart (dPart (dVar 3))) (dTup (dCons (dVar 5) dNil))) (dSl (dVar 2) (dPart (dOp fAdd (dVar 3) (dC (.int 1)))) dNoPart))))
def k2_law_gno_fillings : DTS :=
    (sRet (dVar 4))
def t_law_gno_fillings : DTS :=
    (sSeq (sSetE 3 (dCallJ sp_law_gdraw 0 (dCons (dCB fLen (dCons (dVar 2) dNil)) dNil)))
    (sSeq (sSet 4 (dLst (dCons (dC .non) (dCons (dTup dNil) (dCons (dCB fList (dCons (dVar 2) dNil)) (dCons (dOp fAdd (dVar 2) (dTup (dCons (dC (.int 0)) dNil))) (dCons (dSl (dVar 2) (dPart (dC (.int 1))) dNoPart) (dCons (dC (.str (Str.ofString "0"))) (dCons (dC (.int 0)) (dCons (dTup (dCons (dVar 2) dNil)) (dCons (dLst dNil) (dCons (dLst (dCons (dC .non) dNil)) dNil))))))))))))
    (sSeq (sFor (dSeq (dLst (dCons (dOp fIx (dVar 1) (dVar 3)) (dCons (dNeg (dC (.int 1))) (dCons (dC (.bl true)) (dCons (dC (.bl false)) (dCons (dC .non) (dCons (dC (.str (Str.ofString "0"))) (dCons (dTup (dCons (dC (.int 0)) dNil)) (dCons (dLst (dCons (dC (.int 0)) dNil)) (dCons (dOp fPow (dC (.int 10)) (dC (.int 39))) (dCons (dOp fAdd (dOp fAdd (dOp fIx (dVar 1) (dVar 3)) (dC (.int 1))) (dCallJ sp_law_gdraw 0 (dCons (dOp fPow (dC (.int 10)) (dC (.int 9))) dNil))) dNil)))))))))))) (gSet 5) b1_law_gno_fillings)
    k2_law_gno_fillings)))
theorem sv_nat {k n : Nat} (h : n < 2 ^ 64) : D.sv k (.int (n : Nat)) = true := by
  have : (n : Int).natAbs.log2 < 1920 := by
    rw [Int.natAbs_natCast]
    by_cases e : n = 0
    · subst e; decide
    · exact (Nat.log2_lt e).2 (Nat.lt_of_lt_of_le h (Nat.pow_le_pow_right (by decide) (by decide)))
  cases k <;> simpa [D.sv] using this
theorem sv_nD {k : Nat} {l : List Nat} (h : ∀ n ∈ l, n < 2 ^ 64) : (nD l).all (D.sv k) = true := by
  rw [List.all_eq_true]
  intro d hd
  obtain ⟨n, hn, rfl⟩ := List.mem_map.1 hd
  exact sv_nat (h n hn)
structure OddOk (z : Nat) (o : D) : Prop where
  pl : D.pl 2 o = true
  sv : D.sv 2 o = true
  bk : o.py.bulk ≤ 10
  no : NotBelow z o
theorem fit_small {S f : List Nat} (hS : SzOk S) (hf : FitF S f) : f.length ≤ 24 ∧ ∀ n ∈ f, n < 2 ^ 64 := by
  refine ⟨by rw [hf.1]; exact hS.few, fun n hn => ?_⟩
  obtain ⟨i, hi, rfl⟩ := List.getElem_of_mem hn
  have := hf.2 i (by rw [← hf.1]; exact hi)
  have h4 := hS.small _ (sz_mem (S := S) (n := i) (by rw [← hf.1]; exact hi))
  rw [List.getD_eq_getElem?_getD, List.getElem?_eq_getElem hi] at this
  simp at this
  omega
theorem nof_bent {S f : List Nat} {at' : Nat} {o : D} (hS : SzOk S) (hf : FitF S f) (ha : at' < S.length) (ho : OddOk (sz S at') o) : NoF S (.tup (nD (f.take at') ++ [o] ++ nD (f.drop (at' + 1)))) := by
  obtain ⟨hl, hs⟩ := fit_small hS hf
  have h1 : (nD (f.take at')).length = at' := by rw [nD_len, List.length_take, hf.1]; omega
  have hlen : (nD (f.take at') ++ [o] ++ nD (f.drop (at' + 1))).length ≤ 50 := by
    simp only [List.length_append, List.length_singleton, nD_len, List.length_take, List.length_drop]; omega
  refine ⟨?_, sh_of (k := 3) (by decide) ?_ ?_, ?_⟩
  · rw [D.pl, Bool.and_eq_true, decide_eq_true_eq]
    refine ⟨by omega, ?_⟩
    rw [List.all_append, List.all_append, Bool.and_eq_true, Bool.and_eq_true]
    exact ⟨⟨pl_nats _ _, by simpa using ho.pl⟩, pl_nats _ _⟩
  · rw [D.sv, List.all_append, List.all_append, Bool.and_eq_true, Bool.and_eq_true]
    exact ⟨⟨sv_nD fun n hn => hs n (List.mem_of_mem_take hn), by simpa using ho.sv⟩, sv_nD fun n hn => hs n (List.mem_of_mem_drop hn)⟩
  · show PyData.bulkAll (D.pys _) ≤ 8000
    rw [bulks_app, bulks_app, bulks_nD, bulks_nD, List.length_take, List.length_drop]
    have := ho.bk
    simp only [D.pys, PyData.bulkAll]
    omega
  · rintro ⟨g, e, hg⟩
    have e := D.tup.inj e
    have : (nD (f.take at') ++ [o] ++ nD (f.drop (at' + 1)))[at']? = some o := by
      rw [List.append_assoc, List.getElem?_append_right (by omega), h1]
      simp
    rw [e] at this
    have hgl : at' < g.length := by rw [hg.1]; exact ha
    rw [getD_at hgl] at this
    exact ho.no _ (hg.2 at' ha) (Option.some.inj this).symm
theorem not_len {S : List Nat} {ds : List D} (h : ds.length ≠ S.length) : ¬ IsFill S (.tup ds) := by
  rintro ⟨f, e, hf⟩
  have e := D.tup.inj e
  subst e
  rw [nD_len] at h
  exact h hf.1
theorem m_law_gno_fillings : Meets t_law_gno_fillings 3 3 sp_law_gno_fillings := by
  rintro args Qd Xd ⟨n, a, ds, S, f, rfl, hj, hn, hS, hS1, hf, hQ⟩
  show t_law_gno_fillings _ _ [_, _, _, .un, .un, .un]
  unfold t_law_gno_fillings
  trivial
  have h24 := hS.few
  obtain ⟨hfl, hfs⟩ := fit_small hS hf
  have hfl' := hf.1
  rw [nD_len]
  refine ⟨n, a, ds, f.length, rfl, hj, by omega, gdok (by omega) (by omega), fun at' ds1 fin r0 r1 hj1 => ?_⟩
  obtain ⟨at', rfl⟩ := Int.eq_ofNat_of_zero_le r0
  have hat : at' < S.length := by omega
  trivial
  rw [nD_len]
  have hz := hS.pos _ (sz_mem hat)
  have hz4 := hS.small _ (sz_mem hat)
  have hfz : f.length + (0 + 1) ≤ sizeLine := Nat.le_trans (by omega : f.length + (0 + 1) ≤ 100) (by decide)
  refine ⟨by decide, by decide, hfz, by decide, by decide, by decide, by decide, fun a4 => ⟨_, atN (sz_at hat), ?_⟩⟩
  trivial
  refine ⟨by decide, by decide, fun a6 => ⟨⟨by decide, by decide, by decide⟩, _, atN (sz_at hat), ?_⟩⟩
  trivial
  refine ⟨⟨by decide, by decide, by decide⟩, n + 1, a, ds1, _, rfl, hj1, by omega, gdok (by decide) (by decide), fun r ds2 fin r0 r1 hj2 => ?_⟩
  trivial
  have hb : ∀ o ∈ [D.int (sz S at' : Nat), D.int (-1), D.bl true, D.bl false, D.non, D.str (Str.ofString "0"), D.tup [D.int 0], D.lst [D.int 0], D.int (10 ^ Int.toNat 39), D.int ((sz S at' : Nat) + 1 + r)], OddOk (sz S at') o := by
    intro o ho
    simp only [List.mem_cons, List.not_mem_nil, or_false] at ho
    have hr : r < 1000000000 := r1
    rcases ho with rfl | rfl | rfl | rfl | rfl | rfl | rfl | rfl | rfl | rfl
    · exact ⟨rfl, sv_nat (by omega), Nat.zero_le _, fun v hv e => by have := D.int.inj e; omega⟩
    · exact ⟨rfl, by decide, by decide, fun v hv e => by have := D.int.inj e; omega⟩
    · exact ⟨rfl, rfl, by decide, fun v hv e => by cases e⟩
    · exact ⟨rfl, rfl, by decide, fun v hv e => by cases e⟩
    · exact ⟨rfl, rfl, by decide, fun v hv e => by cases e⟩
    · exact ⟨rfl, by decide +kernel, by decide +kernel, fun v hv e => by cases e⟩
    · exact ⟨rfl, by decide, by decide, fun v hv e => by cases e⟩
    · exact ⟨rfl, by decide, by decide, fun v hv e => by cases e⟩
    · exact ⟨rfl, by decide +kernel, by decide, fun v hv e => by
        have e := D.int.inj e
        have : (10 : Int) ^ Int.toNat 39 > 4 := by decide
        omega⟩
    · have e : (sz S at' : Nat) + 1 + r = ((sz S at' + 1 + r.toNat : Nat) : Int) := by omega
      rw [e]
      exact ⟨rfl, sv_nat (by omega), Nat.zero_le _, fun v hv e => by have := D.int.inj e; omega⟩
  have hb0 : ∀ d ∈ [D.non, D.tup [], D.lst (nD f), D.tup (nD f ++ [D.int 0]), D.tup (cutD (nD f) (some 1) none), D.str (Str.ofString "0"), D.int 0, D.tup [D.tup (nD f)], D.lst [], D.lst [D.non]], NoF S d := by
    have hc : cutD (nD f) (some 1) none = nD (f.drop 1) := by
      rw [show (1 : Int) = ((1 : Nat) : Int) from rfl, cut_drop _ 1 (by rw [nD_len]; omega)]
      exact List.map_drop.symm
    rw [hc]
    have notT : ∀ d : D, (∀ ds, d ≠ .tup ds) → ¬ IsFill S d := fun d h ⟨g, e, _⟩ => h _ e
    intro d hd
    simp only [List.mem_cons, List.not_mem_nil, or_false] at hd
    rcases hd with rfl | rfl | rfl | rfl | rfl | rfl | rfl | rfl | rfl | rfl
    · exact ⟨rfl, sh_of (k := 3) (by decide) rfl (by decide), notT _ fun _ z => by cases z⟩
    · exact ⟨rfl, sh_of (k := 3) (by decide) rfl (by decide), not_len (by simp; omega)⟩
    · exact ⟨by simp only [D.pl, pl_nats, nD_len]; simp; omega, sh_of (k := 3) (by decide) (sv_nD hfs) (by show PyData.bulkAll (D.pys _) ≤ 8000; rw [bulks_nD]; omega), notT _ fun _ z => by cases z⟩
    · refine ⟨by rw [D.pl, Bool.and_eq_true, decide_eq_true_eq, List.all_append, Bool.and_eq_true]; exact ⟨by simp; omega, pl_nats _ _, rfl⟩, sh_of (k := 3) (by decide) (by rw [D.sv, List.all_append, Bool.and_eq_true]; exact ⟨sv_nD hfs, by decide⟩) (by show PyData.bulkAll (D.pys _) ≤ 8000; rw [bulks_app, bulks_nD]; simp only [D.pys, PyData.bulkAll, D.py, PyData.bulk]; omega), not_len (by simp; omega)⟩
    · exact ⟨by simp only [D.pl, pl_nats, nD_len]; simp; omega, sh_of (k := 3) (by decide) (sv_nD fun n hn => hfs n (List.mem_of_mem_drop hn)) (by show PyData.bulkAll (D.pys _) ≤ 8000; rw [bulks_nD, List.length_drop]; omega), not_len (by simp; omega)⟩
    · exact ⟨rfl, sh_of (k := 3) (by decide) (by decide +kernel) (by decide +kernel), notT _ fun _ z => by cases z⟩
    · exact ⟨rfl, sh_of (k := 3) (by decide) (by decide) (by decide), notT _ fun _ z => by cases z⟩
    · refine ⟨?_, sh_of (k := 3) (by decide) (by rw [D.sv, List.all_cons, Bool.and_eq_true]; exact ⟨sv_nD hfs, rfl⟩) (by show PyData.bulkAll (D.pys _) ≤ 8000; simp only [D.pys, PyData.bulkAll, D.py, PyData.bulk]; rw [bulks_nD]; omega), ?_⟩
      · rw [D.pl, Bool.and_eq_true, decide_eq_true_eq, List.all_cons, Bool.and_eq_true, D.pl, Bool.and_eq_true, decide_eq_true_eq, nD_len]
        exact ⟨by simp, ⟨by omega, pl_nats _ _⟩, rfl⟩
      · rintro ⟨g, e, hg⟩
        have e := D.tup.inj e
        cases g with
        | nil => simp at e
        | cons x g => rw [nD_cons] at e; cases (List.cons.inj e).1
    · exact ⟨rfl, sh_of (k := 3) (by decide) rfl (by decide), notT _ fun _ z => by cases z⟩
    · exact ⟨rfl, sh_of (k := 3) (by decide) rfl (by decide), notT _ fun _ z => by cases z⟩
  refine ⟨by decide, ?_⟩
  have hT0 : [D.non, D.tup [], D.lst (nD f), D.tup (nD f ++ [D.int 0]), D.tup (cutD (nD f) (some 1) none), D.str (Str.ofString "0"), D.int 0, D.tup [D.tup (nD f)], D.lst [], D.lst [D.non]].length = 10 := rfl
  generalize [D.non, D.tup [], D.lst (nD f), D.tup (nD f ++ [D.int 0]), D.tup (cutD (nD f) (some 1) none), D.str (Str.ofString "0"), D.int 0, D.tup [D.tup (nD f)], D.lst [], D.lst [D.non]] = T0 at hb0 hT0
  refine for_indD (fun T env => ∃ (F : List D) (u5 : Sl), env = [.lst a ds2, dSz S, .ext (.tup (nD f)), dI (at' : Nat), .lst a4 F, u5] ∧ (∀ d ∈ F, NoF S d) ∧ (∀ o ∈ T, OddOk (sz S at') o) ∧ F.length + T.length ≤ 100) ?_ ?_ _ _ ⟨T0, _, rfl, hb0, hb, ?_⟩
  · rintro env ⟨F, u5, rfl, hF, _⟩
    refine ⟨True.intro, ?_⟩
    unfold k2_law_gno_fillings
    trivial
    exact hQ _ F _ _ hF hj2
  · rintro o T env N ⟨F, u5, rfl, hF, hT, hl⟩ hN
    rw [List.length_cons] at hl
    have c1 : cutD (nD f) none (some ((at' : Nat) : Int)) = nD (f.take at') := by
      rw [cut_take _ at' (by rw [nD_len]; omega)]
      exact List.map_take.symm
    have c2 : cutD (nD f) (some (((at' : Nat) : Int) + 1)) none = nD (f.drop (at' + 1)) := by
      rw [show ((at' : Nat) : Int) + 1 = ((at' + 1 : Nat) : Int) from rfl, cut_drop _ (at' + 1) (by rw [nD_len]; omega)]
      exact List.map_drop.symm
    refine ⟨True.intro, ?_⟩
    unfold b1_law_gno_fillings
    trivial
    rw [c1, c2]
    have hm := nof_bent hS hf hat (hT o List.mem_cons_self)
    refine ⟨by decide, Nat.le_trans (by rw [nD_len, List.length_take]; omega : _ ≤ 100) (by decide), Nat.le_trans (by simp only [List.length_append, List.length_singleton, nD_len, List.length_take, List.length_drop]; omega : _ ≤ 100) (by decide), Nat.lt_of_le_of_lt (by omega : F.length ≤ 100) (by decide), hN _ ⟨_, _, rfl, fun d hd => ?_, fun o ho => hT o (List.mem_cons_of_mem _ ho), by simp; omega⟩⟩
    rcases List.mem_append.1 hd with h | h
    · exact hF d h
    · rw [List.mem_singleton.1 h]; exact hm
  · rw [hT0]; simp
def k1_law : DTS :=
    (sSetE 5 (dOp fAdd (dVar 5) (dVar 7)))
def b2_law : DTS :=
    (sSeq (sIf (dNot (dTest (dCall sp_law_gsame (dCons (dCall sp_number_of (dCons (dVar 3) (dCons (dVar 6) dNil))) (dCons (dVar 5) dNil))))) (sRet (dC (.bl false))) sNext)
    k1_law)
def e3_law : DT :=
    (dVar 7)
def e4_law : DT :=
    (dVar 7)
def e5_law : DT :=
    (dCall (sp_law_gtold FT84 cs84) (dCons (dC (.glo "number_of")) (dCons (dLst (dCons (dVar 17) (dCons (dVar 14) dNil))) dNil)))
def b6_law : DTS :=
    (sSeq (sSetE 15 (dCB fRepr (dCons (dVar 14) dNil)))
    (sSeq (sSetE 16 (dLc (dSeq (dLst (dCons (dVar 3) (dCons (dVar 8) dNil)))) (gSet 17) dYes e5_law [17]))
    (sIf (dOr (dTest (dOp fNe (dVar 16) (dLst (dCons (dLst (dCons (dC (.str (Str.ofString "filling"))) dNil)) (dCons (dLst (dCons (dC (.str (Str.ofString "filling"))) dNil)) dNil))))) (dTest (dOp fNe (dCB fRepr (dCons (dVar 14) dNil)) (dVar 15)))) (sRet (dC (.bl false))) sNext)))
def k7_law : DTS :=
    (sSeq (sSetE 13 (dOp fIx (dOp fIx (dVar 4) (dCallJ sp_law_gdraw 1 (dCons (dCB fLen (dCons (dVar 4) dNil)) dNil))) (dC (.int 0))))
    (sSeq (sSetE 8 (dTup (dCons (dOp fIx (dVar 3) (dC (.int 0))) (dCons (dOp fAdd (dTup (dCons (dTup (dCons (dTup dNil) (dCons (dTup (dCons (dNeg (dC (.int 1))) dNil)) dNil))) dNil)) (dOp fIx (dVar 3) (dC (.int 1)))) dNil))))
    (sFor (dSeq (dCallJ sp_law_gno_fillings 1 (dCons (dOp fIx (dVar 3) (dC (.int 0))) (dCons (dVar 13) dNil)))) (gSet 14) b6_law)))
def k8_law : DTS :=
    (sSeq (sSetE 8 (dCallJ sp_law_glight 1 (dCons (dVar 3) dNil)))
    (sSeq (sSetE 9 (dCall sp_law_gweights (dCons (dVar 8) dNil)))
    (sSeq (sSetE 10 (dOp (fCmp fun i j => decide (i < j)) (dCB fMin (dCons (dLc (dSeq (dVar 9)) (gTupD 2 (gsCons (gSet 6) (gsCons (gSet 7) gsNil))) dYes e3_law [6, 7]) dNil)) (dC (.int 0))))
    (sSeq (sSetE 11 (dCallJ sp_law_gdraw 1 (dCons (dCB fLen (dCons (dVar 9) dNil)) dNil)))
    (sSeq (sSetE 5 (dCB fSum (dCons (dLc (dSeq (dSl (dVar 9) dNoPart (dPart (dVar 11)))) (gTupD 2 (gsCons (gSet 6) (gsCons (gSet 7) gsNil))) dYes e4_law [6, 7]) dNil)))
    (sSeq (sSetE 12 (dIf (dTest (dVar 10)) (dLst (dCons (dC (.str (Str.ofString "weights"))) dNil)) (dLst (dCons (dC (.str (Str.ofString "told"))) (dCons (dVar 5) dNil)))))
    (sSeq (sIf (dNot (dTest (dCall sp_law_gsame (dCons (dCall (sp_law_gtold FT84 cs84) (dCons (dC (.glo "number_of")) (dCons (dLst (dCons (dVar 8) (dCons (dOp fIx (dOp fIx (dVar 9) (dVar 11)) (dC (.int 0))) dNil))) dNil))) (dCons (dVar 12) dNil))))) (sRet (dC (.bl false))) sNext)
    k7_law)))))))
def b9_law : DTS :=
    (sSeq (sSetE 3 (dCallJ sp_law_gheavy 1 (dCons (dC (.int 4)) (dCons (dC (.int 12)) dNil))))
    (sSeq (sSetE 4 (dCall sp_law_gweights (dCons (dVar 3) dNil)))
    (sSeq (sSetE 5 (dC (.int 0)))
    (sSeq (sFor (dSeq (dVar 4)) (gTupD 2 (gsCons (gSet 6) (gsCons (gSet 7) gsNil))) b2_law)
    k8_law))))
def k10_law : DTS :=
    (sRet (dC (.bl true)))
def t_law : DTS :=
    (sSeq (sSet 1 (dLst (dCons (dCB fList (dCons (dSl (dVar 0) dNoPart (dPart (dC (.int 63)))) dNil)) (dCons (dC (.int 0)) (dCons (dC (.int 0)) dNil)))))
    (sSeq (sFor (dRange1 (dCons (dC (.int 3)) dNil)) (gSet 2) b9_law)
    k10_law))
theorem xw_f : xWord (Str.ofString "NoFilling") = Str.ofString "filling" := by decide +kernel
theorem xw_w : xWord (Str.ofString "NoWeights") = Str.ofString "weights" := by decide +kernel
theorem cmp_ff : D.cmp (.lst [.lst [.str (Str.ofString "filling")], .lst [.str (Str.ofString "filling")]]) := ⟨rfl, by decide +kernel⟩
theorem m_law : Meets t_law 1 17 (lawSpec 63) := by
  rintro args Qd Xd ⟨ns, rfl, hl, hQ⟩
  show t_law _ _ [_, .un, .un, .un, .un, .un, .un, .un, .un, .un, .un, .un, .un, .un, .un, .un, .un, .un]
  unfold t_law
  trivial
  refine ⟨by decide, fun a => ⟨⟨by decide, by decide⟩, ?_⟩⟩
  rw [show rgD 0 3 = nD (List.range 3) from rgD_nat 3, cut_iD]
  refine for_ind (fun k : Nat => D.int (k : Int)) (fun xs env => ∃ (n : Nat) (ds : List D) (u2 u3 u4 u5 u6 u7 u8 u9 u10 u11 u12 u13 u14 u15 u16 u17 : Sl), env = [.ext (.fz (ns.map D.int)), .lst a ds, u2, u3, u4, u5, u6, u7, u8, u9, u10, u11, u12, u13, u14, u15, u16, u17] ∧ JarOk n ds ∧ n + xs.length * 5000000 < 4294967296) ?_ ?_ (List.range 3) _
    ⟨0, _, _, _, _, _, _, _, _, _, _, _, _, _, _, _, _, _, rfl, ⟨_, 0, 0, rfl, by decide, by decide⟩, by decide⟩
  · rintro env ⟨n, ds, u2, u3, u4, u5, u6, u7, u8, u9, u10, u11, u12, u13, u14, u15, u16, u17, rfl, _⟩
    refine ⟨True.intro, ?_⟩
    unfold k10_law
    trivial
    exact hQ _
  rintro k xs env N ⟨n, ds, u2, u3, u4, u5, u6, u7, u8, u9, u10, u11, u12, u13, u14, u15, u16, u17, rfl, hj, hn⟩ hN
  rw [List.length_cons] at hn
  refine ⟨True.intro, ?_⟩
  unfold b9_law
  trivial
  refine ⟨n, a, ds, 4, 12, rfl, hj, by omega, by decide, by decide, by decide, by decide, fun S ps ds1 fin hs hS2 hS3 h6 hnn hj1 => ?_⟩
  trivial
  have hnw : ∀ q ∈ wts S ps, 0 ≤ q.2 := fun q hq => by
    obtain ⟨f, hf, rfl⟩ := List.mem_map.1 hq
    exact hnn f (allF_fit hf)
  have h24 := hs.sz.few
  have plT : ∀ {S' ps' q}, ShOk S' ps' → q ∈ wts S' ps' → D.pl 3 (.tup (nD q.1)) = true := fun {S' ps' q} hs' hq => by
    have := (wts_fit hq).1
    have := hs'.sz.few
    simp only [D.pl, pl_nats, nD_len]
    simp; omega
  refine ⟨S, ps, rfl, hs, fun a2 fin => ?_⟩
  trivial
  refine for_ind dWt (fun qs env => ∃ (pre : List (List Nat × Int)) (u6 u7 : Sl), env = [.ext (.fz (ns.map D.int)), .lst a ds1, .ext (.int (k : Nat)), .ext (dSh S ps), .ext (.lst ((wts S ps).map dWt)), dI (wsum pre), u6, u7, u8, u9, u10, u11, u12, u13, u14, u15, u16, u17] ∧ wts S ps = pre ++ qs) ?_ ?_ (wts S ps) _ ⟨[], _, _, rfl, rfl⟩
  rotate_left
  · rintro q qs env N1 ⟨pre, u6, u7, rfl, he⟩ hN1
    have hq : q ∈ wts S ps := by rw [he]; simp
    refine ⟨True.intro, ?_⟩
    unfold b2_law
    trivial
    refine ⟨S, ps, .tup (nD q.1), 3, rfl, hs, plT hs hq, .inr (.inr ⟨hnw, pre, q, qs, he, rfl, fun fin => ?_⟩)⟩
    trivial
    refine ⟨_, rfl, rfl, fun fin => ?_⟩
    trivial
    unfold k1_law
    trivial
    rw [show wsum pre + q.2 = wsum (pre ++ [q]) by rw [wsum_app]; simp [wsum]]
    exact hN1 _ ⟨pre ++ [q], _, _, rfl, by rw [he]; simp⟩
  rintro env ⟨pre0, u6, u7, rfl, _⟩
  refine ⟨True.intro, ?_⟩
  unfold k8_law
  trivial
  refine ⟨n + 900000, a, ds1, S, ps, rfl, hj1, by omega, hs, h6, fun S' ps' ds2 fin hs' h7 hj2 => ?_⟩
  trivial
  refine ⟨S', ps', rfl, hs', fun a3 fin => ?_⟩
  trivial
  have hwl' := wts_len (ps := ps') hs'.sz
  have hwne' := wts_min (ps := ps') hs'.sz
  refine lc_map dWt (fun q => .int q.2) True.intro (wts S' ps') (Nat.le_trans hwl' (by decide)) (fun q hq R hR => ?_) fun b => ?_
  · unfold e3_law
    trivial
    exact hR
  trivial
  refine ⟨(wts S' ps').map Prod.snd, by rw [List.map_map]; rfl, by simpa using hwne', fun mn hmn hle => ?_⟩
  trivial
  rw [List.length_map]
  have hlp : 0 < (wts S' ps').length := List.length_pos_iff.2 hwne'
  refine ⟨n + 900000 + 400001, a, ds2, (wts S' ps').length, rfl, hj2, by omega, gdok (by omega) (by omega), fun at' ds3 fin r0 r1 hj3 => ?_⟩
  obtain ⟨at', rfl⟩ := Int.eq_ofNat_of_zero_le r0
  have hat : at' < (wts S' ps').length := by omega
  trivial
  have ct : cutD ((wts S' ps').map dWt) none (some ((at' : Nat) : Int)) = ((wts S' ps').take at').map dWt := by
    rw [cut_take _ at' (by rw [List.length_map]; omega)]
    exact List.map_take.symm
  rw [ct]
  refine lc_map dWt (fun q => .int q.2) True.intro ((wts S' ps').take at') (Nat.le_trans (by rw [List.length_take]; omega : _ ≤ 5000) (by decide)) (fun q hq R hR => ?_) fun b => ?_
  · unfold e4_law
    trivial
    exact hR
  trivial
  refine ⟨((wts S' ps').take at').map Prod.snd, by rw [List.map_map]; rfl, ?_⟩
  have tail : ∀ u5 u12, k7_law (exOf [Sl.ext (D.fz (List.map D.int ns))] Xd) { nx := N, rt := fun r env => Qd r [Sl.ext (D.fz (List.map D.int ns))], bk := fun env1 => k10_law (exOf [Sl.ext (D.fz (List.map D.int ns))] Xd) (endsOf [Sl.ext (D.fz (List.map D.int ns))] Qd) env1, ct := N }
      [.ext (.fz (ns.map D.int)), .lst a ds3, .ext (.int (k : Nat)), .ext (dSh S ps), .ext (.lst ((wts S ps).map dWt)), u5, .un, .un, .ext (dSh S' ps'), .ext (.lst ((wts S' ps').map dWt)), .ext (.bl (decide (mn < 0))), dI (at' : Nat), u12, u13, u14, u15, u16, u17] := by
    intro u5 u12
    unfold k7_law
    trivial
    rw [List.length_map]
    have hlp0 : 0 < (wts S ps).length := List.length_pos_iff.2 (wts_min hs.sz)
    have hwl0 := wts_len (ps := ps) hs.sz
    refine ⟨n + 900000 + 400001 + 1, a, ds3, (wts S ps).length, rfl, hj3, by omega, gdok (by omega) (by omega), fun j ds4 fin j0 j1 hj4 => ?_⟩
    obtain ⟨j, rfl⟩ := Int.eq_ofNat_of_zero_le j0
    have hjl : j < (wts S ps).length := by omega
    obtain ⟨q0, hq0⟩ : ∃ q, (wts S ps)[j]? = some q := ⟨_, List.getElem?_eq_getElem hjl⟩
    have hq0m : q0 ∈ wts S ps := List.mem_of_getElem? hq0
    have hq02 : ((wts S ps).map dWt)[j]? = some (dWt q0) := by rw [List.getElem?_map, hq0]; rfl
    trivial
    refine ⟨_, atN hq02, ?_⟩
    trivial
    rw [List.length_map]
    have hs2 : ShO4 S ((⟨[], [-1]⟩ : Part) :: ps) := hs.cons ⟨.nil, by simp, rfl⟩ (by intro x hx; simp at hx; subst hx; decide) (by omega)
    refine ⟨by decide, by decide, by decide, by decide, Nat.le_trans (by omega : _ ≤ 100) (by decide), by decide, ?_⟩
    refine ⟨n + 900000 + 400001 + 1 + 1, a, ds4, S, q0.1, rfl, hj4, by omega, hs.sz, hs.one, wts_fit hq0m, fun b T ds5 fin hT hj5 => ?_⟩
    trivial
    refine for_indD (fun T env => ∃ (u14 u15 u16 u17 : Sl), env = [.ext (.fz (ns.map D.int)), .lst a ds5, .ext (.int (k : Nat)), .ext (dSh S ps), .ext (.lst ((wts S ps).map dWt)), u5, .un, .un, .ext (dSh S ((⟨[], [-1]⟩ : Part) :: ps)), .ext (.lst ((wts S' ps').map dWt)), .ext (.bl (decide (mn < 0))), dI (at' : Nat), u12, .ext (.tup (nD q0.1)), u14, u15, u16, u17] ∧ ∀ d ∈ T, NoF S d) ?_ ?_ T _ ⟨_, _, _, _, rfl, hT⟩
    · rintro env ⟨u14, u15, u16, u17, rfl, _⟩
      exact ⟨True.intro, hN _ ⟨n + 900000 + 400001 + 1 + 1 + 2, ds5, _, _, _, _, _, _, _, _, _, _, _, _, _, _, _, _, rfl, hj5, by omega⟩⟩
    · rintro d T env N2 ⟨u14, u15, u16, u17, rfl, hT⟩ hN2
      have hd := hT d List.mem_cons_self
      refine ⟨True.intro, ?_⟩
      unfold b6_law
      trivial
      refine ⟨hd.sh, by decide, ?_⟩
      refine lc_map (fun qs : List Part => dSh S qs) (fun _ => .lst [.str (Str.ofString "filling")]) True.intro [ps, (⟨[], [-1]⟩ : Part) :: ps] (show 2 ≤ sizeLine by decide) (fun qs hqs R hR => ?_) fun b2 => ?_
      · have hsq : ShOk S qs := by
          simp only [List.mem_cons, List.not_mem_nil, or_false] at hqs
          rcases hqs with rfl | rfl
          · exact hs.toShOk
          · exact hs2.toShOk
        unfold e5_law
        trivial
        refine ⟨by decide, fun a5 => ⟨"number_of", 2, sp_number_of, _, rfl, rfl, by simp, by simp, .inl ⟨"NoFilling", by decide, by decide, fun Q' X' h => ⟨S, qs, d, 3, rfl, hsq, hd.pl, .inl ⟨hd.no, h⟩⟩, fun a6 fin => ?_⟩⟩⟩
        rw [xw_f]
        trivial
        exact hR
      trivial
      refine ⟨by decide, by decide, by decide, cmp_ff, cmp_ff, ?_⟩
      rw [eqv_refl cmp_ff, if_neg (by decide)]
      refine ⟨hd.sh, ?_⟩
      rw [if_neg (by simp)]
      exact hN2 _ ⟨_, _, _, _, rfl, fun e he => hT e (List.mem_cons_of_mem _ he)⟩
  obtain ⟨q, hq⟩ : ∃ q, (wts S' ps')[at']? = some q := ⟨_, List.getElem?_eq_getElem hat⟩
  have hqm : q ∈ wts S' ps' := List.mem_of_getElem? hq
  have hq2 : ((wts S' ps').map dWt)[at']? = some (dWt q) := by rw [List.getElem?_map, hq]; rfl
  have hsp : wts S' ps' = (wts S' ps').take at' ++ q :: (wts S' ps').drop (at' + 1) := by
    obtain ⟨h1, h2⟩ := List.getElem?_eq_some_iff.1 hq
    rw [← h2, ← List.drop_eq_getElem_cons h1, List.take_append_drop]
  by_cases hb : mn < 0
  · rw [if_pos hb]
    obtain ⟨p, hp, e⟩ := List.mem_map.1 hmn
    refine ⟨by decide, _, atN hq2, ?_⟩
    trivial
    refine ⟨by decide, fun a5 => ⟨"number_of", 2, sp_number_of, _, rfl, rfl, by simp, by simp, .inl ⟨"NoWeights", by decide, by decide, fun Q' X' h => ⟨S', ps', _, 3, rfl, hs', plT hs' hqm, .inr (.inl ⟨⟨p, hp, by omega⟩, ⟨q.1, rfl, wts_fit hqm⟩, h⟩)⟩, fun a6 fin => ?_⟩⟩⟩
    rw [xw_w]
    trivial
    refine ⟨_, rfl, rfl, fun fin => ?_⟩
    trivial
    exact tail _ _
  · rw [if_neg hb]
    refine ⟨by decide, _, atN hq2, ?_⟩
    trivial
    refine ⟨by decide, fun a5 => ⟨"number_of", 2, sp_number_of, _, rfl, rfl, by simp, by simp, .inr ⟨.int (wsum ((wts S' ps').take at')), fun Q' X' h => ⟨S', ps', _, 3, rfl, hs', plT hs' hqm, .inr (.inr ⟨fun r hr => ?_, _, q, _, hsp, rfl, h⟩)⟩, fun a6 fin => ?_⟩⟩⟩
    · have := hle r.2 (List.mem_map.2 ⟨r, hr, rfl⟩)
      omega
    trivial
    refine ⟨_, rfl, rfl, fun fin => ?_⟩
    trivial
    exact tail _ _
end K84
end LS

/-! HX7: slices with a step. -/
namespace HD
open PySem PyProof.Rows L2
section
variable {prog : Program} {w : World} {A : Around} {E : Value → Shared → Prop} {s : Shared}
theorem rev_adjust (n : Nat) : Builtin.Slice.sliceAdjust none none (-1) (n : Int) = ((n : Int) - 1, -1) := by
  simp [Builtin.Slice.sliceAdjust]
theorem rev_places (n : Nat) : Builtin.Slice.slicePlaces ((n : Int) - 1) (-1) (-1) = n := by
  unfold Builtin.Slice.slicePlaces
  rw [if_neg (by decide)]
  by_cases h : n = 0
  · subst h; rfl
  · rw [if_pos (by omega), show (-(-1) : Int) = 1 by decide, Int.ediv_one]
    omega
theorem sliceApplied_rev {sl : Addr} {vs : Value} {n : Nat} {Q : Int × Int × Nat → Shared → Prop} (hs : s.heap.IsSliceOf sl .none .none vs) (pk : IsPart vs (some (-1)))
    (h : Q ((n : Int) - 1, -1, n) s) : wpAny (model prog w) A (Builtin.Slice.sliceApplied (.ref sl) (pure (n : Int))) Q E s := by
  obtain ⟨os, hos, hcs, hds⟩ := id hs
  unfold Builtin.Slice.sliceApplied Builtin.Slice.sliceFields
  refine wpAny_bind (wpAny_bind (wpAny_field hos hds (x := .none) rfl (wpAny_bind (wpAny_field hos hds (x := .none) rfl (wpAny_bind (wpAny_field hos hds (x := vs) rfl (wpAny_pure ?_)))))))
  refine wpAny_bind (HT.slicePart_ pk ?_)
  show wpAny _ _ (if ((-1 : Int) == 0) = true then _ else _) _ _ s
  rw [if_neg (by decide)]
  refine wpAny_bind (HT.slicePart_ .none (wpAny_bind (HT.slicePart_ .none (wpAny_bind (wpAny_pure ?_)))))
  show wpAny _ _ (match Builtin.Slice.sliceAdjust none none (-1) (n : Int) with | (lo, hi) => pure (lo, (-1 : Int), Builtin.Slice.slicePlaces lo hi (-1))) _ _ s
  rw [rev_adjust]
  show wpAny _ _ (pure ((n : Int) - 1, (-1 : Int), Builtin.Slice.slicePlaces ((n : Int) - 1) (-1) (-1))) _ _ s
  rw [rev_places]
  exact wpAny_pure h
theorem pick_rev (xs : Array Value) : ((List.range xs.size).filterMap fun (m : Nat) => xs[((xs.size : Int) - 1 + (m : Int) * (-1)).toNat]?).toArray = xs.toList.reverse.toArray := by
  have e : (fun (m : Nat) => xs[((xs.size : Int) - 1 + (m : Int) * (-1)).toNat]?) = (fun m => xs[m]?) ∘ fun m => xs.size - 1 - m := by
    funext m
    have : ((xs.size : Int) - 1 + (m : Int) * (-1)).toNat = xs.size - 1 - m := by omega
    simp only [this, Function.comp]
  rw [e, ← List.filterMap_map, PySem.W.krv_range, List.filterMap_reverse, PySem.W.krv_all]
theorem getItem_tuple_rev {t sl : Addr} {items : Array Value} {vs : Value} {Q : Value → Shared → Prop} (ht : IsTup s.heap t items) (hs : s.heap.IsSliceOf sl .none .none vs) (pk : IsPart vs (some (-1)))
    (h : Q (.ref s.heap.objs.size) { s with heap := s.heap.push { cls := .type "tuple", data := .seq items.toList.reverse.toArray } })
    (hsz : items.size ≤ sizeLine) : wpAny (model prog w) A (getItem (.ref t) (.ref sl)) Q E s := by
  have htake : sizeOk (.seq items.toList.reverse.toArray) := by
    show items.toList.reverse.toArray.size ≤ sizeLine
    rw [List.size_toArray, List.length_reverse, Array.length_toList]
    omega
  obtain ⟨os, hos, hcs, hds⟩ := id hs
  have hTs : s.TypeIs (.ref sl) "slice" := ⟨os, hos, hcs⟩
  unfold getItem
  try with_reducible refine wpAny_holding ?_
  first | refine wpAny_bind (wpAny_pure ?_) | skip
  refine wpAny_bind (wpAny_sequenceKey ht.typeIs (by decide) ?_)
  refine wpAny_bind (wpAny_callSpecial?_slot (name := Str.ofString "__getitem__") ht.typeIs PyProof.Rows.slot_tuple_getitem
    (wpAny_call_entry PyProof.Rows.slot_tuple_getitem ht.typeIs entry_tuple_getitem ?_ (args_tuple_getitem _ _)))
  show wpAny _ _ (Builtin.Tuple.tupleItemsOf (.ref t) >>= _) _ _ s
  refine wpAny_bind (tupleItemsOf_ ht ?_)
  refine wpAny_bind (wpAny_typeOf hTs ?_)
  rw [if_pos (by decide)]
  refine wpAny_bind (sliceApplied_rev hs pk ?_)
  have hno : ¬ (((((items.size : Nat) : Int) - 1) == 0 && (-1 : Int) == 1 && items.size == items.size) = true) := by
    rw [show ((-1 : Int) == 1) = false from rfl, Bool.and_false, Bool.false_and]
    exact Bool.false_ne_true
  show wpAny _ _ (if (((((items.size : Nat) : Int) - 1) == 0 && (-1 : Int) == 1 && items.size == items.size) = true) then _ else _) _ _ s
  rw [if_neg hno, pick_rev]
  first
    | exact wpAny_bind (m := Builtin.Tuple.tupleExact _) (wpAny_newObj_type (wpAny_pure ⟨_, rfl, wpAny_pure h⟩) htake)
    | exact wpAny_bind (m := Builtin.Tuple.tupleExact _) (wpAny_newObj_type (wpAny_bind (wpAny_pure (wpAny_pure ⟨_, rfl, wpAny_pure h⟩))) htake)
    | exact wpAny_bind (wpAny_bind (m := Builtin.Tuple.tupleExact _) (wpAny_newObj_type (wpAny_pure (wpAny_pure ⟨_, rfl, wpAny_pure h⟩)) htake))
    | exact wpAny_bind (wpAny_bind (m := Builtin.Tuple.tupleExact _) (wpAny_newObj_type (wpAny_pure ⟨_, rfl, wpAny_pure h⟩) htake))
end
/-- the items of xs[::c] -/
def stepL {α : Type} (xs : List α) (c : Int) : List α := (sliceRange (sliceBounds none none (some c) xs.length).1 (sliceBounds none none (some c) xs.length).2.1 (sliceBounds none none (some c) xs.length).2.2).filterMap (xs[·]?)
theorem vals_pick {xs : List V} {us : List Value} (r : Vals xs us) (ix : List Nat) : Vals (ix.filterMap (xs[·]?)) (ix.filterMap (us[·]?)) := by
  induction ix with
  | nil => exact .nil
  | cons i ix ih =>
    cases e : xs[i]? with
    | none =>
      have e2 : us[i]? = none := by
        rw [List.getElem?_eq_none_iff] at e ⊢
        rw [← r.length]; exact e
      rw [List.filterMap_cons_none e, List.filterMap_cons_none e2]
      exact ih
    | some x =>
      obtain ⟨u, e2, ru⟩ := r.get e
      rw [List.filterMap_cons_some e, List.filterMap_cons_some e2]
      exact .cons ru ih
theorem stepL_vals {xs : List V} {us : List Value} (r : Vals xs us) (c : Int) : Vals (stepL xs c) (slicePick us.toArray none none (some c)).toList := by
  unfold stepL slicePick
  rw [List.size_toArray, ← r.length]
  simp only [List.getElem?_toArray]
  exact vals_pick r _
theorem stepL_rev {α : Type} (xs : List α) : stepL xs (-1) = xs.reverse := by
  unfold stepL
  rw [PySem.W.krv_bounds]
  show (sliceRange ((xs.length : Int) - 1) (-1) (-1)).filterMap (xs[·]?) = _
  rw [PySem.W.krv_sliceRange, PySem.W.krv_range, List.filterMap_reverse]
  have := PySem.W.krv_all xs.toArray
  simp only [List.size_toArray, List.getElem?_toArray] at this
  rw [this]
theorem stepL_len {α : Type} (xs : List α) (c : Int) (h0 : c ≠ 0) : (stepL xs c).length ≤ xs.length := by
  unfold stepL
  refine Nat.le_trans (List.length_filterMap_le _ _) ?_
  refine sliceRange_length_le _ _ _ _ (fun h => ?_) fun h => ?_
  · simp [sliceBounds] at h ⊢
    simp [h]
  · simp [sliceBounds] at h ⊢
    simp [show ¬ (0 < c) by omega]
section
variable {X : Cx} {e es : Expr} {te ts : TE} {p3 pos : Pos}
def tStep (K : PySem.W.Frag) (te : TE) (tp : TO) : TE := fun σ H Q => te σ H fun x H1 => tp σ H1 fun o H2 => ∃ (c : Int) (a : Addr) (xs : List V), o = some c ∧ x = .ref a ∧ c ≠ 0 ∧ ((SqL K H2 a xs ∧ ∀ p, H2 p = none → Q (.ref p) (upd H2 p (.lst (stepL xs c)))) ∨ (c = -1 ∧ SqT K H2 a xs ∧ newT H2 xs.reverse Q))
theorem pe_step {st : Expr} {tp : TO} (he : PE X e te) (hst : PO X (some st) tp) : PE X (.Subscript e (.Slice none none (some st) p3) pos) (tStep X.K te tp) := by
  refine ⟨fun pins s σ H Q I h => ?_⟩
  refine Subscript_ (thn (he.run pins s σ H _ I h) fun v s1 ⟨x, H1, I1, r1, q1⟩ => ?_)
  refine wpAny_Slice (thn (po_none.run pins s1 σ H1 (fun o H2 => o = none ∧ H2 = H1) I1 ⟨rfl, rfl⟩) fun vl s2 ⟨l, H2, I2, pl, el, e2⟩ => ?_)
  subst el e2
  refine thn (po_none.run pins s2 σ H2 (fun o H3 => o = none ∧ H3 = H2) I2 ⟨rfl, rfl⟩) fun vu s3 ⟨u, H3, I3, pu, eu, e3⟩ => ?_
  subst eu e3
  refine thn (hst.run pins s3 σ H3 _ I3 q1) fun vs s4 ⟨o, H4, I4, ps, c, a, xs, eo, ex, hc, q⟩ => ?_
  subst eo ex
  cases r1
  cases pl
  cases pu
  have I5 : Inv X pins σ H4 { s4 with heap := s4.heap.push { cls := .type "slice", data := .fields #[.none, .none, vs] } } := I4.kept (t' := s4.toks) fun b ob q => Heap.get?_push_of_some _ q
  show wpAny (model X.prog X.w) X.A (subscriptTail e (.Slice none none (some st) p3) (.ref a) (.ref s4.heap.objs.size)) (EP X pins σ Q) X.xe { s4 with heap := s4.heap.push { cls := .type "slice", data := .fields #[.none, .none, vs] } }
  rcases q with ⟨hx, q⟩ | ⟨rfl, hx, q⟩
  · obtain ⟨its, r, ht, hz⟩ := I5.list hx
    have hlen := r.length
    refine tail_any (ops := [.ref a, .ref s4.heap.objs.size]) ht.isList.typeIs (PySem.slot_list_getitem.lookup) ?_ (by with_unfolding_all rfl)
    refine wpAny_getItem_list_slice ht.isList (Heap.IsSliceOf.new _ .none .none vs) .none .none ps (fun z => hc (Option.some.inj z)) ?_ (by rw [List.size_toArray]; omega)
    refine ⟨.ref _, _, I5.laid (t' := s4.toks) (o := .lst (stepL xs c)) (fun b ob q => Heap.get?_push_of_some _ q) (Nat.le_refl _) ?_, rfl, q _ (I5.hok.fresh (Nat.le_refl _))⟩
    refine ⟨Nat.le_trans (stepL_len xs c hc) hz, _, 0, stepL_vals r c, ?_⟩
    rw [Array.toArray_toList]
    exact Heap.get?_push_size _ rfl
  · obtain ⟨its, r, ht, hz⟩ := I5.tuple hx
    have hlen := r.length
    refine tail_any (ops := [.ref a, .ref s4.heap.objs.size]) ht.typeIs (PyProof.Rows.slot_tuple_getitem.lookup) ?_ (by with_unfolding_all rfl)
    refine getItem_tuple_rev ht (Heap.IsSliceOf.new _ .none .none vs) ps ?_ (by rw [List.size_toArray]; omega)
    exact laidT (tk := s4.toks) I5 r.reverse (by rw [List.length_reverse]; exact hz) q
end
theorem Reps.rev {K : PySem.W.Frag} {F : Hp} {ds : List D} {vs : List V} (h : Reps K F ds vs) (c : Int) : Reps K F (stepL ds c) (stepL vs c) := by
  unfold stepL
  rw [h.length]
  generalize sliceRange _ _ _ = ix
  induction ix with
  | nil => exact rfl
  | cons i ix ih =>
    cases e : ds[i]? with
    | none =>
      have e2 : vs[i]? = none := by
        rw [List.getElem?_eq_none_iff] at e ⊢
        rw [← h.length]; exact e
      rw [List.filterMap_cons_none e, List.filterMap_cons_none e2]
      exact ih
    | some x =>
      obtain ⟨u, e2, ru⟩ := h.get e
      rw [List.filterMap_cons_some e, List.filterMap_cons_some e2]
      exact ⟨_, _, rfl, ru, ih⟩
def fStep (d : D) (o : Option Int) (Q : Sl → Prop) : Prop := match d, o with
  | .lst ds, some c => c ≠ 0 ∧ ∀ a, Q (.lst a (stepL ds c))
  | .fz ds, some c => c ≠ 0 ∧ ∀ a, Q (.lst a (stepL ds c))
  | .tup ds, some c => c = -1 ∧ Q (.ext (.tup ds.reverse))
  | _, _ => False
def dStep (ta : DT) (tp : DTO) : DT := fun Ex env Q => ta Ex env fun x env1 => tp Ex env1 fun o env2 => wd env2 x fun d => fStep d o fun sl => Q sl env2
section
variable {G : GG} {N : List Str} {sc : SC} {k : Nat} {a : Expr} {ta : DT} {pos : Pos}
theorem de_step {st : Expr} {tp : DTO} {p2 : Pos} (h : DE G N sc k a ta) (hp : DO' G N sc k (some st) tp) : DE G N sc k (.Subscript a (.Slice none none (some st) p2) pos) (dStep ta tp) := ⟨fun W => by
  obtain ⟨te, p1, i1⟩ := h.ex W
  obtain ⟨tp', p2', i2⟩ := hp.ex W
  refine ⟨tStep G.K te tp', fun X S => by rw [← S.K]; exact pe_step (p1 X S) (p2' X S), fun e Ex hl env T F σ H Q R hh ht hR => ?_⟩
  refine i1 e Ex hl env T F σ H _ _ hh ht fun v H1 F1 env1 x hh1 q1 => ?_
  refine i2 e Ex hl env1 _ F1 σ H1 _ _ hh1 q1 fun o H3 F3 env3 hh3 q3 => ?_
  obtain ⟨d, rd, q4⟩ := hh3.wd (v := v) (sl := x) List.mem_cons_self q3
  have dn := hh3.pop.done hR
  cases o with
  | none => cases d <;> exact q4.elim
  | some c =>
    cases d with
    | lst ds =>
      obtain ⟨b, vs, rfl, e1, r1⟩ := rd.lst hh3.fh
      exact ⟨c, b, vs, rfl, rfl, q4.1, .inl ⟨SqL.of e1, fun p n => dn.lst hh3.fh n (r1.rev c) (q4.2 p)⟩⟩
    | fz ds =>
      obtain ⟨b, vs, rfl, e1, r1⟩ := rd.fz hh3.fh
      exact ⟨c, b, vs, rfl, rfl, q4.1, .inl ⟨e1, fun p n => dn.lst hh3.fh n (r1.rev c) (q4.2 p)⟩⟩
    | tup ds =>
      obtain ⟨b, vs, rfl, e1, e2, r1⟩ := rd.tup hh3.fh
      obtain ⟨rfl, q5⟩ := q4
      have r2 := r1.rev (-1)
      rw [stepL_rev, stepL_rev] at r2
      exact ⟨-1, b, vs, rfl, rfl, by decide, .inr ⟨rfl, e1, dn.tup hh3.fh r2 q5⟩⟩
    | _ => exact q4.elim⟩
end
end HD

/-! HX8: a, b = c, d. -/
namespace HD
open PySem L2
section
variable {G : GG} {N : List Str} {sc : SC} {k : Nat} {a b : Expr} {pos : Pos}
def sPar (i j : Nat) (t : DTA) : DTS := fun Ex E env => t Ex env fun xs env1 => frzDs env1 xs fun ds env2 => match ds with
  | [d, d'] => E.nx ((env2.set i (.ext d)).set j (.ext d'))
  | _ => False
theorem ds_par {x y : Str} {px py pt : Pos} {kt k2 pt2} {ta : DTA} (i j : Nat) (h : DAs G N sc k [a, b] ta) (hi : N[i]? = some x := by rfl) (hj : N[j]? = some y := by rfl) (hij : i ≠ j := by decide)
    (hx : sc.sc.names.lookup x = some .local := by rfl) (hy : sc.sc.names.lookup y = some .local := by rfl)
    (hw : ∀ env : Env, env.scope = sc.sc → swappedStores [.Tuple [.Name x px, .Name y py] kt pt] (.Tuple [a, b] k2 pt2) env = pure (some [x, y]) := by intro env h; unfold swappedStores Env.blockKind Env.kindOf; rw [h]; rfl)
    (hs : ∀ env, swapsWithSole [.Tuple [.Name x px, .Name y py] kt pt] (.Tuple [a, b] k2 pt2) pos.line env = pure false := by intro _; rfl) :
    DS G N sc k (.Assign [.Tuple [.Name x px, .Name y py] kt pt] (.Tuple [a, b] k2 pt2) pos) (sPar i j ta) := ⟨fun W => by
  obtain ⟨te, p1, i1⟩ := h.ex W
  refine ⟨tPar i j te, fun X S => ps_par S.calm (by rw [S.nms]; exact S.nd) (by rw [S.nms]; exact hi) (by rw [S.nms]; exact hj) hij (by rw [S.scp]; exact hx) (by rw [S.scp]; exact hy) (p1 X S) (hw _ S.scp) (hs _), fun e Ex hl env F σ H E Dn hh ht ok => ?_⟩
  refine i1 e Ex hl env [] F σ H _ _ hh ht fun vs H1 F1 env1 xs le hh1 q1 => ?_
  obtain ⟨ds, F2, env2, sm, hh2, r2, q2⟩ := hh1.frzs le q1
  rcases ds with _ | ⟨d, _ | ⟨d', _ | ⟨d3, ds⟩⟩⟩ <;> try exact q2.elim
  obtain ⟨v, vs1, rfl, rv, v2, vs2, rfl, rv2, rfl⟩ := r2
  refine ⟨v, v2, rfl, ?_⟩
  exact ok.nx _ F2 _ H1 ((((hh2.pushE rv2).pushE rv).assign i True.intro).assign j True.intro) q2⟩
end
end HD

/-! HX9: enumerate(list or tuple). -/
namespace HD
open PySem L2
set_option maxHeartbeats 1000000 in
theorem meets_enum1 {v : Value} {o : Obj} {H : Heap → Prop} (B : Begins v o H) :
    PySem.Meets (Builtin.«enumerate.__new__» ⟨[.type "enumerate", v], []⟩) (fun _ R s => H s.heap ∧
      R (.ok (.ret (.ref (s.heap.push o).objs.size))) { s with heap := (s.heap.push o).push { cls := .type "enumerate", data := .fields #[.none, .bool false, .ref s.heap.objs.size, rawInt 0, .none, .none] } }) :=
  .of_wp fun prog w A R s h => by
    obtain ⟨hp, g, d, tk, os⟩ := s; obtain ⟨h1, h⟩ := h
    have hsub := sub_enumerate
    have q1 : ∀ {A' : Around} {E : Value → Shared → Prop} {Q : Value → Shared → Prop}, Q (.ref hp.objs.size) ⟨hp.push o, g, d, tk, os⟩ → wpAny (model prog w) A' (pyIter v) Q E ⟨hp, g, d, tk, os⟩ :=
      fun q => B.iter prog w _ _ ⟨hp, g, d, tk, os⟩ _ h1 q
    wp_walk using q1
    refine wpAny_stack_any fun st => wpAny_pure ?_
    split
    · rename_i c _ _ _ _ _
      cases (c == Value.type "enumerate")
      · wp_walk using q1
        exact ⟨_, rfl, h⟩
      · wp_walk using q1
        exact ⟨_, rfl, h⟩
    · wp_walk using q1
      exact ⟨_, rfl, h⟩
theorem enum_begins1 {prog : Program} {w : World} {A : Around} {E : Value → Shared → Prop} {s : Shared} {v : Value} {o : Obj} {H : Heap → Prop} {Q : Value → Shared → Prop} (B : Begins v o H) (h1 : H s.heap)
    (h : ∀ h', IsEnum h' (s.heap.objs.size + 1) s.heap.objs.size 0 .none → h'.get? s.heap.objs.size = some o → h'.objs.size = s.heap.objs.size + 2 →
      (∀ b o, s.heap.get? b = some o → h'.get? b = some o) → Q (.ref (s.heap.objs.size + 1)) { s with heap := h' }) :
    wpAny (model prog w) A (call (.type "enumerate") [v]) Q E s := by
  refine callType_new F.called_enumerate (by decide) (F.typeCall_enumerate_1 _) (F.newCall_enumerate_1 _) (fun obj => F.args_object_init_2 obj _) F.entry_enumerate_new
    (meets_enum1 B) ⟨h1, ?_⟩
  have hz : (s.heap.push o).objs.size = s.heap.objs.size + 1 := Heap.size_push ..
  show _ ∧ _
  rw [hz]
  have he : IsEnum ((s.heap.push o).push { cls := .type "enumerate", data := .fields #[.none, .bool false, .ref s.heap.objs.size, rawInt 0, .none, .none] }) (s.heap.objs.size + 1) s.heap.objs.size 0 .none := by
    have := Heap.get?_push_size (s.heap.push o) (o := { cls := .type "enumerate", data := .fields #[.none, .bool false, .ref s.heap.objs.size, rawInt 0, .none, .none] }) rfl
    rw [hz] at this; exact this
  refine ⟨⟨_, he, rfl⟩, h _ he (Heap.get?_push_of_some _ (Heap.get?_push_size _ B.free)) (by rw [Heap.size_push, hz]) fun b o x => Heap.get?_push_of_some _ (Heap.get?_push_of_some _ x)⟩
def IteX (b : Bool) (K : PySem.W.Frag) (a : Addr) : It :=
  ⟨fun i H => ∃ (xs : List V) (x : V), SqX b K H a xs ∧ xs[i]? = some x,
    fun i H v H' => ∃ T x, v = .ref T ∧ H T = none ∧ H' = upd H T (.tup [.int (i : Nat), x]) ∧ ∀ xs, SqX b K H a xs → xs[i]? = some x,
    fun i H => ∃ xs : List V, SqX b K H a xs ∧ i = xs.length⟩
theorem turn_enumX {P : Program} {w : World} {K : PySem.W.Frag} {elts : List Expr} {kk : Nat} {tpos : Pos} {b : Bool} {a n : Addr} (la : a < n) :
    Turn P w K (.Tuple elts kk tpos) (IteX b K a) [n + 1, n] (n + 1) (fun i h => (∃ old, IsEnum h (n + 1) n ((0 : Int) + (i : Int)) old) ∧ ItX b h n a i) where
  mem := by simp
  obj := fun i h st c hc => by
    obtain ⟨⟨old, he⟩, hi⟩ := st
    have e' : c = n + 1 ∨ c = n := by simpa using hc
    rcases e' with z | z
    · rw [z]; exact ⟨_, he, fun v q => nomatch q⟩
    · rw [z]; exact hi.obj
  keep := fun i h h' st k => by
    obtain ⟨⟨old, he⟩, hi⟩ := st
    exact ⟨⟨old, k (n + 1) (by simp) _ he⟩, hi.at fun o q => k n (by simp) o q⟩
  item := by
    intro X hP hw hK hc i pins s σ H E I hf st hg
    subst hP hw hK
    obtain ⟨he, hit⟩ := st
    obtain ⟨xs, x, hq, hx⟩ := hg
    obtain ⟨its, rv, p⟩ := Inv.seqX I hq
    obtain ⟨u, hu, ru⟩ := rv.get hx
    have hh := I.ok.hd hc
    have Z := GoesN.enumFrom (elts := elts) (x1 := kk) (pos := tpos) 0 (draws_X (prog := X.prog) (w := X.w) (A := X.A.in1) b hh n a (Nat.ne_of_lt la) its.toArray) (n + 1) (Nat.succ_ne_self _) (by
      intro z
      have e' : n + 1 = n ∨ n + 1 = a := by simpa using z
      have la' : (a : Nat) < n := la
      rcases e' with q | q
      · exact absurd q (Nat.succ_ne_self _)
      · exact absurd q (Nat.ne_of_gt (Nat.lt_succ_of_lt la'))) List.mem_cons_self
    have hi1 : i < its.length := (List.getElem?_eq_some_iff.mp hu).1
    refine Z.goes i s _ E (by rw [List.size_toArray]; exact hi1) ⟨he, hit, p⟩ fun v h' tk hY st' hk htk => ?_
    obtain ⟨T, t, x', rfl, hT, hx', hTup⟩ := hY
    rw [List.getElem?_toArray, hu] at hx'
    cases hx'
    obtain ⟨he', hit', _⟩ := st'
    have e0 : (0 : Int) + (i : Int) = (i : Int) := Int.zero_add _
    rw [e0] at hTup
    have new : ObjOk X.prog X.w (upd H T (.tup [.int (i : Nat), x])) h' T (.tup [.int (i : Nat), x]) := ⟨by show 2 ≤ sizeLine; decide, [.int i t, u], .cons ⟨_, rfl⟩ (.cons ru .nil), hTup⟩
    have I1 : L2.Inv X pins σ (upd H T (.tup [.int (i : Nat), x])) { s with heap := h', toks := tk } :=
      I.turnedNew (t' := tk) (ch := [n + 1, n]) (fun c o hb q => hk c o hb q) hf hT new
    refine ⟨.ref T, _, I1, rfl, ⟨T, x, rfl, I.hok.fresh hT, rfl, fun l hl => by rw [seqX_inj I hl hq]; exact hx⟩, ⟨he', hit'⟩, fun c hcm => ?_⟩
    have hlt : c < s.heap.objs.size := by
      have e' : c = n + 1 ∨ c = n := by simpa using hcm
      obtain ⟨old, he⟩ := he
      rcases e' with q | q
      · rw [q]; exact Heap.lt_size he
      · rw [q]; obtain ⟨_, e1, _⟩ := hit.obj; exact Heap.lt_size e1
    rw [upd_ne (Nat.ne_of_lt (Nat.lt_of_lt_of_le hlt hT))]
    exact (hf c hcm).1
  done := by
    intro X hP hw hK hc i pins s σ H E I hf st hg
    subst hP hw hK
    obtain ⟨he, hit⟩ := st
    obtain ⟨xs, hq, hend⟩ := hg
    obtain ⟨its, rv, p⟩ := Inv.seqX I hq
    have hh := I.ok.hd hc
    have Z := GoesN.enumFrom (elts := elts) (x1 := kk) (pos := tpos) 0 (draws_X (prog := X.prog) (w := X.w) (A := X.A.in1) b hh n a (Nat.ne_of_lt la) its.toArray) (n + 1) (Nat.succ_ne_self _) (by
      intro z
      have e' : n + 1 = n ∨ n + 1 = a := by simpa using z
      have la' : (a : Nat) < n := la
      rcases e' with q | q
      · exact absurd q (Nat.succ_ne_self _)
      · exact absurd q (Nat.ne_of_gt (Nat.lt_succ_of_lt la'))) List.mem_cons_self
    have en : i = its.toArray.size := by
      rw [List.size_toArray, ← rv.length]
      exact hend
    rw [en] at he hit
    refine Z.stops s _ E ⟨he, hit, p⟩ fun h' tk hk htk => ?_
    exact I.turnedL (t' := tk) (ch := [n + 1, n]) (fun c o hb q => hk c o hb q) hf
  self := fun A i s Q E st h => let ⟨⟨_, he⟩, _⟩ := st; wpAny_pyIter_enum he h
def iEnumX (K : PySem.W.Frag) (ta : TA) : TI := fun σ H R => ta σ H fun vs H1 => ∃ b a xs, vs = [.ref a] ∧ SqX b K H1 a xs ∧ R (IteX b K a) H1
theorem pi_enumX {X : Cx} {e : Expr} {ta : TA} {p pos tpos : Pos} {elts : List Expr} {kk : Nat} (hg : Gl X "enumerate") (hm : X.mg "enumerate" = none) (ha : PA X [e] ta) (hs : starEach [e] X.env = [(false, eval e X.env)]) :
    PI X (.Tuple elts kk tpos) (.Call (.Name "enumerate" p) [e] [] pos) (iEnumX X.K ta) := by
  refine ⟨fun pins s σ H R I h => ?_⟩
  refine PyProof.Rows.Call_ (ld_blt I hg hm PyProof.Rows.boot_enumerate (PyProof.Rows.callWith_type1 (thn (ha.run pos pins s σ H _ I h) fun us s1 ⟨vs, H1, I1, r1, q1⟩ => ?_) hs rfl))
  obtain ⟨b, a, xs, ex, hq, q⟩ := q1
  subst ex
  obtain ⟨u1, rfl, ru1⟩ := vals1 r1
  cases ru1
  obtain ⟨its, rv, p1⟩ := Inv.seqX I1 hq
  refine enum_begins1 (begins_X b a its.toArray) p1 fun h' he g1 hsz hk => wpAny_pyIter_enum he ?_
  have I2 : L2.Inv X pins σ H1 { s1 with heap := h' } := I1.kept (t' := s1.toks) hk
  refine ⟨s1.heap.objs.size + 1, [s1.heap.objs.size + 1, s1.heap.objs.size], _, _, H1, rfl, I2, turn_enumX p1.lt, ⟨⟨.none, he⟩, itX_new g1⟩, fun c hcm => ?_, q⟩
  have e' : c = s1.heap.objs.size + 1 ∨ c = s1.heap.objs.size := by simpa using hcm
  have hle : s1.heap.objs.size ≤ c := by
    rcases e' with z | z
    · rw [z]; exact Nat.le_add_right _ _
    · rw [z]; exact Nat.le_refl _
  exact I1.fpOk hle (I1.hok.fresh hle)
/-- the numbered items -/
def enD (xs : List D) : List D := (xs.zipIdx).map fun p => D.tk [.int (p.2 : Nat), p.1]
def dEnum (ta : DT) : DTI := fun Ex env Q => ta Ex env fun x env1 => seqD env1 x fun xs k1 => Q (enD xs) k1 env1
theorem src_enum {K : PySem.W.Frag} {b : Bool} {a : Addr} {xs : List D} {k1 : Env' → Prop} {F0 : Hp} (h1 : Stands K b a xs k1 F0) : Src K (IteX b K a) (enD xs) k1 F0 := fun e env T F σ H i hh sm kk => by
  obtain ⟨vs, s1, r1⟩ := h1 e env T F σ H hh sm kk
  refine ⟨fun hi => ⟨vs, s1, ?_⟩, fun d hd => ?_⟩
  · rw [enD, List.length_map, List.length_zipIdx, r1.length] at hi
    exact hi.symm
  · rw [enD, List.getElem?_map, List.getElem?_zipIdx] at hd
    cases hz : xs[i]? with
    | none =>
      rw [hz] at hd
      cases hd
    | some x =>
      rw [hz] at hd
      have ed := Option.some.inj hd
      obtain ⟨v, hv, rv⟩ := r1.get hz
      refine ⟨⟨vs, v, s1, hv⟩, fun y H2 hyl => ?_⟩
      obtain ⟨T', x1, rfl, nT, rfl, f1⟩ := hyl
      have e1 := f1 _ s1
      rw [hv] at e1
      cases e1
      have g := Grow.frozen (o := .tup [.int (i : Nat), v]) hh.fh nT
      refine ⟨_, g, ?_⟩
      rw [← ed]
      refine ⟨T', [.int (i : Nat), v], rfl, SqT.of upd_same, ⟨.int (i : Nat), [v], rfl, ?_, v, [], rfl, Rep.same g.ff rv, rfl⟩⟩
      show V.int (i : Nat) = V.int ((0 + i : Nat) : Int)
      rw [Nat.zero_add]
section
variable {G : GG} {N : List Str} {sc : SC} {k : Nat} {a : Expr} {ta : DT} {p pos tpos : Pos} {elts : List Expr} {kk : Nat}
theorem di_enum (ha : DE G N sc k a ta) (hm : G.mg "enumerate" = none) (hg : GlS sc "enumerate" := by rfl) (hs : NoStar a [] := by intro _; rfl) :
    DI G N sc k (.Tuple elts kk tpos) (.Call (.Name "enumerate" p) [a] [] pos) (dEnum ta) := ⟨fun W => by
  obtain ⟨te, p1, i1⟩ := ha.ex W
  refine ⟨iEnumX G.K (tCons te tNil), fun X S => ?_, fun e Ex hl env T F σ H Q R hh ht hR => ?_⟩
  · rw [← S.K]
    exact pi_enumX (S.gl hg) (by rw [S.mg]; exact hm) (pa_cons (p1 X S) pa_nil (hs _)) (hs _)
  · refine i1 e Ex hl env T F σ H _ _ hh ht fun v H1 F1 env1 x hh1 q1 => ?_
    obtain ⟨b1, a1, xs, k1, F3, rfl, q3, sm3, hh3, st1, kk1⟩ := hh1.seqD q1
    obtain ⟨vs, s1, _⟩ := st1 e env1 T F3 σ H1 hh3 (Same.refl _) kk1
    exact ⟨b1, a1, vs, rfl, s1, hR _ H1 F3 env1 _ _ hh3 (src_enum st1) q3⟩⟩
end
end HD

/-! K85: shares of worths -/
namespace LS
namespace K85
open PySem L2 HD PM
local macro_rules | `(tactic| trivial) => `(tactic| try simp -dsimp only [↓sSeq, ↓sIf, ↓sRet, ↓retD_ext, ↓retD_lst, ↓retD_al, ↓sSet, ↓sSetE, ↓sAsg, ↓sDrop, ↓sNext, ↓sFor, ↓sRetN, ↓sCont, ↓sBreak, ↓dTest, ↓dOp, ↓dVar_w, ↓dC, ↓dCons, ↓dNil, ↓dTup, ↓dLst, ↓frzDs, ↓frzD_ext, ↓frzD_lst, ↓frzD_al, ↓wd_ext, ↓wd_lst, ↓wd_al, ↓wds, ↓AtS_ext, ↓AtS_lst, ↓AtL, ↓fAdd, ↓fSub, ↓fMul, ↓fDiv, ↓fMod, ↓fPow, ↓fCmp, ↓fIn, ↓fEq_ii, ↓fEq_ss, ↓fEq_bb, ↓fEq_tt, ↓fEq_ll, ↓fNe_ii, ↓fNe_ss, ↓fNe_bb, ↓fNe_tt, ↓fNe_ll, ↓fIx_l, ↓fIx_t, ↓fIx_k, ↓fIx_f, ↓GetS_some, ↓NatS_some, ↓fSl, ↓fIsN, ↓fNotN, ↓D.knN, ↓dNot, ↓dAnd, ↓dOr, ↓dAndV_w, ↓dOrV_w, ↓dNotV, ↓dIf, ↓dNeg, ↓dChain_w, ↓BlS_bl, ↓dCall_w, ↓dCallJ_w, ↓anyAl, ↓frozs, ↓froz, ↓gSet, ↓gTupD, ↓gsCons, ↓gsNil, ↓dSeq, ↓seqD_tup, ↓seqD_elst, ↓seqD_lst, ↓seqD_al, ↓dRange1, ↓dRange2, ↓dZip, ↓dCB, ↓dLc, ↓dYes, ↓dNoPart, ↓dPart, ↓dSl, ↓fLen, ↓fMin, ↓fMax, ↓fSum, ↓fAll, ↓fAny, ↓fSorted, ↓fTuple, ↓fList, ↓dRg1, ↓dRg2, ↓dLstRg, ↓dTupRg, ↓dIndex, ↓fIdx, ↓dAppend_w, ↓dExtend_w, ↓extD_lst, ↓dPopAt_w, ↓popD_int, ↓dPop_w, ↓mutD_w, ↓sSetItem_w, ↓setD_int, ↓dSortSet, ↓dTable_w, ↓wipeE, finals1, finals2, finals3, finals4, finals5, finals6, fin1_ext, fin1_lst, List.getElem?_cons_zero, List.getElem?_cons_succ, List.getElem?_nil, List.set_cons_zero, List.set_cons_succ, List.cons_append, List.nil_append, List.append_nil, List.replicate_succ, List.replicate_zero, List.map_cons, List.map_nil, List.length_cons, List.length_nil, true_and, and_true, ite_true, ite_false, if_true, if_false, Bool.false_eq_true, decide_eq_true_eq, Sl.plain, D.isSq, eq_self_iff_true, forall_const, reduceIte, true_or, or_true, atI_0, atI_1, atI_2, atI_3, ixN_0, ixN_1, ixN_2, AtS_ext, AtS_lst, FzS_lst, FzS_ext, GetS_some, NatS_some, ↓fIsi1, ↓fIsi2, BoolS_some, HD.kb_non_tuple, HD.kb_non_list, HD.kb_non_bool, HD.kb_non_int, HD.kb_non_str, HD.kb_bl_tuple, HD.kb_bl_list, HD.kb_bl_bool, HD.kb_bl_int, HD.kb_bl_str, HD.kb_int_tuple, HD.kb_int_list, HD.kb_int_bool, HD.kb_int_int, HD.kb_int_str, HD.kb_str_tuple, HD.kb_str_list, HD.kb_str_bool, HD.kb_str_int, HD.kb_str_str, HD.kb_lst_tuple, HD.kb_lst_list, HD.kb_lst_bool, HD.kb_lst_int, HD.kb_lst_str, HD.kb_tup_tuple, HD.kb_tup_list, HD.kb_tup_bool, HD.kb_tup_int, HD.kb_tup_str, ↓sFz_w, ↓FzS_lst, ↓FzS_ext, ↓dSortSetL, ↓fAbs, ↓fInt, ↓fRepr, ↓fLtT, ↓sRaise, ↓sTryKeep, ↓dCallV_w, ↓dMeth, ↓fCount, ↓fSplit, dStep, fStep, sPar, dEnum])
def sp_common : DSpec := fun args Q _ => ∃ (a b : Nat), args = [dI (a : Nat), dI (b : Nat)] ∧ b < 2 ^ 8000 ∧ ∀ fin, Q (dI (Nat.gcd a b : Nat)) fin
def b1_common : DTS :=
    (sPar 0 1 (dCons (dVar 1) (dCons (dOp fMod (dVar 0) (dVar 1)) dNil)))
def k2_common : DTS :=
    (sRet (dVar 0))
def t_common : DTS :=
    (sSeq (sWhile (dTest (dOp (fCmp fun i j => decide (j < i)) (dVar 1) (dC (.int 0)))) b1_common)
    k2_common)
theorem m_common : Meets t_common 2 0 sp_common := by
  rintro args Qd Xd ⟨a, b, rfl, hb, hQ⟩
  show t_common _ _ [_, _]
  unfold t_common
  trivial
  refine ⟨fun m env => ∃ a' b' : Nat, env = [dI (a' : Nat), dI (b' : Nat)] ∧ m = b' ∧ b' ≤ b ∧ Nat.gcd a' b' = Nat.gcd a b, ⟨b, a, b, rfl, rfl, Nat.le_refl _, rfl⟩, ?_⟩
  rintro m env ⟨a', b', rfl, rfl, hle, hg⟩
  trivial
  by_cases h0 : m = 0
  · subst h0
    rw [if_neg (by decide)]
    unfold k2_common
    trivial
    rw [Nat.gcd_zero_right] at hg
    subst hg
    exact hQ _
  · rw [if_pos (by omega)]
    unfold b1_common
    trivial
    refine ⟨by omega, a' % m, Nat.mod_lt _ (by omega), m, a' % m, by rw [Int.natCast_emod], rfl, Nat.le_trans (Nat.le_of_lt (Nat.mod_lt _ (by omega))) hle, ?_⟩
    rw [← hg, Nat.gcd_comm m, ← Nat.gcd_rec, Nat.gcd_comm]
def lowP (a b : Nat) : D := .tup [.int ((a / Nat.gcd a b : Nat) : Int), .int ((b / Nat.gcd a b : Nat) : Int)]
theorem gcd_div {a b : Nat} (hb0 : 0 < b) (hb : b < 2 ^ 8000) (i : Int) : CDivW i ((Nat.gcd a b : Nat) : Int) := by
  have h1 : 0 < Nat.gcd a b := Nat.gcd_pos_of_pos_right _ hb0
  have h2 : Nat.gcd a b < 2 ^ 9000 := Nat.lt_of_le_of_lt (Nat.gcd_le_right _ hb0) (Nat.lt_of_lt_of_le hb (Nat.pow_le_pow_right (by decide) (by decide)))
  refine ⟨by omega, ?_⟩
  rw [Int.natAbs_natCast]
  exact (Nat.log2_lt (by omega)).2 h2
def sp_law_glow : DSpec := fun args Q _ => ∃ (a b : Nat), args = [dI (a : Nat), dI (b : Nat)] ∧ 0 < b ∧ b < 2 ^ 8000 ∧ ∀ fin, Q (.ext (lowP a b)) fin
def b1_law_glow : DTS :=
    (sPar 2 3 (dCons (dVar 3) (dCons (dOp fMod (dVar 2) (dVar 3)) dNil)))
def k2_law_glow : DTS :=
    (sRet (dTup (dCons (dOp fDiv (dVar 0) (dVar 2)) (dCons (dOp fDiv (dVar 1) (dVar 2)) dNil))))
def t_law_glow : DTS :=
    (sSeq (sPar 2 3 (dCons (dVar 0) (dCons (dVar 1) dNil)))
    (sSeq (sWhile (dTest (dOp (fCmp fun i j => decide (j < i)) (dVar 3) (dC (.int 0)))) b1_law_glow)
    k2_law_glow))
theorem m_law_glow : Meets t_law_glow 2 2 sp_law_glow := by
  rintro args Qd Xd ⟨a, b, rfl, hb0, hb, hQ⟩
  show t_law_glow _ _ [_, _, .un, .un]
  unfold t_law_glow
  trivial
  refine ⟨fun m env => ∃ a' b' : Nat, env = [dI (a : Nat), dI (b : Nat), dI (a' : Nat), dI (b' : Nat)] ∧ m = b' ∧ Nat.gcd a' b' = Nat.gcd a b, ⟨b, a, b, rfl, rfl, rfl⟩, ?_⟩
  rintro m env ⟨a', b', rfl, rfl, hg⟩
  trivial
  by_cases h0 : m = 0
  · subst h0
    rw [if_neg (by decide)]
    unfold k2_law_glow
    trivial
    rw [Nat.gcd_zero_right] at hg
    subst hg
    refine ⟨gcd_div hb0 hb _, gcd_div hb0 hb _, by decide, ?_⟩
    have := hQ [dI (a : Nat), dI (b : Nat)]
    unfold lowP at this
    rw [Int.natCast_ediv, Int.natCast_ediv] at this
    exact this
  · rw [if_pos (by omega)]
    unfold b1_law_glow
    trivial
    refine ⟨by omega, a' % m, Nat.mod_lt _ (by omega), m, a' % m, by rw [Int.natCast_emod], rfl, ?_⟩
    rw [← hg, Nat.gcd_comm m, ← Nat.gcd_rec, Nat.gcd_comm]
def mineW (S : List Nat) (ps : List Part) (n v : Nat) : Int := wsum ((wts S ps).filter fun q => q.1.getD n 0 == v)
theorem wsum_le {l : List (List Nat × Int)} {B : Int} (h : ∀ q ∈ l, q.2 ≤ B) : wsum l ≤ l.length * B := by
  induction l with
  | nil => simp [wsum]
  | cons q l ih =>
    have h1 := h q List.mem_cons_self
    have h2 := ih fun r hr => h r (List.mem_cons_of_mem _ hr)
    have e : wsum (q :: l) = q.2 + wsum l := rfl
    rw [e, List.length_cons, Int.natCast_add, Int.add_mul]
    omega
theorem wsum_bd {S : List Nat} {ps : List Part} (h : ShOk S ps) : (wsum (wts S ps)).toNat < 2 ^ 8000 := by
  have h1 : ∀ q ∈ wts S ps, q.2 ≤ ((2 ^ 2500 : Nat) : Int) := by
    intro q hq
    obtain ⟨f, hf, rfl⟩ := List.mem_map.1 hq
    obtain ⟨b, hb0, hbl, hbb⟩ := h.bd
    have := jAll_bd (w := .sum) (S := S) (ps := ps) (g := fun n => f.getD n 0) hb0 fun p hp => ⟨h.ok p hp, hbb p hp, (allF_fit hf).fit (h.ok p hp)⟩
    have h60 := h.few
    have h2 := Nat.lt_of_lt_of_le this (Nat.pow_le_pow_right (by decide) (by omega : 100 + b * ps.length ≤ 2500))
    show jAll .sum S ps (fun n => f.getD n 0) ≤ _
    generalize 2 ^ 2500 = B at h2 ⊢
    omega
  have h2 := wsum_le h1
  have h3 := wts_len (ps := ps) h.sz
  have h4 : (wts S ps).length * 2 ^ 2500 ≤ 4096 * 2 ^ 2500 := Nat.mul_le_mul_right _ h3
  have h5 : 4096 * 2 ^ 2500 < 2 ^ 8000 := by
    rw [show 4096 = 2 ^ 12 from rfl, ← Nat.pow_add]
    exact Nat.pow_lt_pow_right (by decide) (by decide)
  have h6 : wsum (wts S ps) ≤ (((wts S ps).length * 2 ^ 2500 : Nat) : Int) := by rw [Int.natCast_mul]; exact h2
  generalize (wts S ps).length * 2 ^ 2500 = A at h4 h6
  generalize 4096 * 2 ^ 2500 = B at h4 h5
  generalize 2 ^ 8000 = C at h5 ⊢
  omega
def sp_share_of : DSpec := fun args Q X => ∃ (S : List Nat) (ps : List Part) (dn dv : D) (k : Nat), args = [.ext (dSh S ps), .ext dn, .ext dv] ∧ ShOk S ps ∧ D.pl k dn = true ∧ D.pl k dv = true ∧
  (((∀ n : Nat, n < S.length → dn ≠ .int (n : Nat)) ∧ ∀ fin, X "NoName" fin) ∨
    ∃ n : Nat, n < S.length ∧ dn = .int (n : Nat) ∧ (((∀ v : Nat, v < sz S n → dv ≠ .int (v : Nat)) ∧ ∀ fin, X "NoFilling" fin) ∨
      ∃ v : Nat, v < sz S n ∧ dv = .int (v : Nat) ∧ ((((∃ q ∈ wts S ps, q.2 < 0) ∨ wsum (wts S ps) = 0) ∧ ∀ fin, X "NoWeights" fin) ∨
        ((∀ q ∈ wts S ps, 0 ≤ q.2) ∧ 0 < wsum (wts S ps) ∧ ∀ fin, Q (.ext (lowP (mineW S ps n v).toNat (wsum (wts S ps)).toNat)) fin))))
def e1_share_of : DT :=
    (dVar 6)
def e2_share_of : DT :=
    (dVar 6)
def k3_share_of : DTS :=
    (sSeq (sSetE 3 (dCall sp_weights_of (dCons (dVar 0) dNil)))
    (sSeq (sSetE 4 (dCB fSum (dCons (dLc (dSeq (dVar 3)) (gTupD 2 (gsCons (gSet 5) (gsCons (gSet 6) gsNil))) dYes e1_share_of [5, 6]) dNil)))
    (sSeq (sIf (dTest (dOp fEq (dVar 4) (dC (.int 0)))) (sRaise "NoWeights") sNext)
    (sSeq (sSetE 7 (dCB fSum (dCons (dLc (dSeq (dVar 3)) (gTupD 2 (gsCons (gSet 5) (gsCons (gSet 6) gsNil))) (dTest (dOp fEq (dOp fIx (dVar 5) (dVar 1)) (dVar 2))) e2_share_of [5, 6]) dNil)))
    (sSeq (sSetE 8 (dCall sp_common (dCons (dVar 7) (dCons (dVar 4) dNil))))
    (sRet (dTup (dCons (dOp fDiv (dVar 7) (dVar 8)) (dCons (dOp fDiv (dVar 4) (dVar 8)) dNil)))))))))
def k4_share_of : DTS :=
    (sSeq (sIf (dOr (dNot (dTest (dCall sp_is_whole (dCons (dVar 2) dNil)))) (dNot (dTest (dChain (fCmp fun i j => decide (i ≤ j)) (fCmp fun i j => decide (i < j)) (dC (.int 0)) (dVar 2) (dOp fIx (dOp fIx (dVar 0) (dC (.int 0))) (dVar 1)))))) (sRaise "NoFilling") sNext)
    k3_share_of)
def t_share_of : DTS :=
    (sSeq (sIf (dOr (dNot (dTest (dCall sp_is_whole (dCons (dVar 1) dNil)))) (dNot (dTest (dChain (fCmp fun i j => decide (i ≤ j)) (fCmp fun i j => decide (i < j)) (dC (.int 0)) (dVar 1) (dCB fLen (dCons (dOp fIx (dVar 0) (dC (.int 0))) dNil)))))) (sRaise "NoName") sNext)
    k4_share_of)
theorem m_share_of : Meets t_share_of 3 6 sp_share_of := by
  rintro args Qd Xd ⟨S, ps, dn, dv, k, rfl, hs, hpn, hpv, h⟩
  show t_share_of _ _ [_, _, _, .un, .un, .un, .un, .un, .un]
  unfold t_share_of
  trivial
  refine ⟨dn, k, rfl, hpn, fun fin => ?_⟩
  trivial
  by_cases hi : D.isInt dn = true
  · cases dn with
    | int i =>
      rw [if_neg (by simp [D.isInt])]
      trivial
      by_cases h0 : 0 ≤ i
      · rw [if_pos h0]
        trivial
        rw [nD_len]
        by_cases h1 : i < (S.length : Int)
        · rw [if_neg (by simp; omega)]
          obtain ⟨n, rfl⟩ := Int.eq_ofNat_of_zero_le h0
          have hn : n < S.length := by omega
          have hh : ((∀ v : Nat, v < sz S n → dv ≠ .int (v : Nat)) ∧ ∀ fin, Xd "NoFilling" fin) ∨
      ∃ v : Nat, v < sz S n ∧ dv = .int (v : Nat) ∧ ((((∃ q ∈ wts S ps, q.2 < 0) ∨ wsum (wts S ps) = 0) ∧ ∀ fin, Xd "NoWeights" fin) ∨
        ((∀ q ∈ wts S ps, 0 ≤ q.2) ∧ 0 < wsum (wts S ps) ∧ ∀ fin, Qd (.ext (lowP (mineW S ps n v).toNat (wsum (wts S ps)).toNat)) fin)) := by
            rcases h with ⟨hx, _⟩ | ⟨m, hm, e, h⟩
            · exact absurd rfl (hx n hn)
            · have e := D.int.inj e
              have e : n = m := by omega
              subst e
              exact h
          clear h
          unfold k4_share_of
          trivial
          refine ⟨dv, k, rfl, hpv, fun fin => ?_⟩
          trivial
          by_cases hj : D.isInt dv = true
          · cases dv with
            | int j =>
              rw [if_neg (by simp [D.isInt])]
              trivial
              by_cases j0 : 0 ≤ j
              · rw [if_pos j0]
                refine ⟨_, atN (sz_at hn), ?_⟩
                trivial
                by_cases j1 : j < (sz S n : Int)
                · rw [if_neg (by simp; omega)]
                  obtain ⟨v, rfl⟩ := Int.eq_ofNat_of_zero_le j0
                  have hv : v < sz S n := by omega
                  have h3 : (((∃ q ∈ wts S ps, q.2 < 0) ∨ wsum (wts S ps) = 0) ∧ ∀ fin, Xd "NoWeights" fin) ∨
                      ((∀ q ∈ wts S ps, 0 ≤ q.2) ∧ 0 < wsum (wts S ps) ∧ ∀ fin, Qd (.ext (lowP (mineW S ps n v).toNat (wsum (wts S ps)).toNat)) fin) := by
                    rcases hh with ⟨hx, _⟩ | ⟨u, hu, e, h⟩
                    · exact absurd rfl (hx v hv)
                    · have e := D.int.inj e
                      have e : v = u := by omega
                      subst e
                      exact h
                  clear hh
                  have hwl := wts_len (ps := ps) hs.sz
                  unfold k3_share_of
                  trivial
                  by_cases hneg : ∃ q ∈ wts S ps, q.2 < 0
                  · refine ⟨S, ps, rfl, hs, .inr ⟨hneg, fun fin => ?_⟩⟩
                    rcases h3 with ⟨_, hX⟩ | ⟨hx, _⟩
                    · exact hX _
                    · obtain ⟨q, hq, h⟩ := hneg
                      have := hx q hq
                      omega
                  have hpos : ∀ q ∈ wts S ps, 0 ≤ q.2 := fun q hq => Int.not_lt.1 fun h => hneg ⟨q, hq, h⟩
                  refine ⟨S, ps, rfl, hs, .inl ⟨hpos, fun fin => ?_⟩⟩
                  trivial
                  refine lc_map dWt (fun q => .int q.2) True.intro (wts S ps) (Nat.le_trans hwl (by decide)) (fun q hq R hR => ?_) fun b => ?_
                  · unfold e1_share_of
                    trivial
                    exact hR
                  trivial
                  refine ⟨(wts S ps).map Prod.snd, by rw [List.map_map]; rfl, ?_⟩
                  trivial
                  rw [show ((wts S ps).map Prod.snd).sum = wsum (wts S ps) from rfl]
                  by_cases hz : wsum (wts S ps) = 0
                  · rw [if_pos (by rw [hz]; rfl)]
                    rcases h3 with ⟨_, hX⟩ | ⟨_, hx, _⟩
                    · exact hX _
                    · omega
                  rw [if_neg (by simpa using hz)]
                  have hw0 : 0 ≤ wsum (wts S ps) := wsum_nn hpos
                  have hQ : ∀ fin, Qd (.ext (lowP (mineW S ps n v).toNat (wsum (wts S ps)).toNat)) fin := by
                    rcases h3 with ⟨hx | hx, _⟩ | ⟨_, _, hx⟩
                    · exact absurd hx hneg
                    · exact absurd hx hz
                    · exact hx
                  have hm0 : 0 ≤ mineW S ps n v := wsum_nn fun q hq => hpos q (List.mem_filter.1 hq).1
                  refine lc_filter dWt (fun q => .int q.2) (fun q => q.1.getD n 0 == v) True.intro (wts S ps) (Nat.le_trans hwl (by decide)) (fun q hq R hR => ?_) fun b => ?_
                  · have hf := wts_fit hq
                    unfold e2_share_of
                    trivial
                    refine ⟨_, atN (getD_at (by rw [hf.1]; exact hn)), ?_⟩
                    trivial
                    generalize q.1.getD n 0 = x at hR ⊢
                    refine R_if ?_ hR
                    have e2 : (((x : Nat) : Int) == ((v : Nat) : Int)) = (x == v) := by
                      rw [Bool.eq_iff_iff, beq_iff_eq, beq_iff_eq]
                      omega
                    first | exact e2 | exact e2.symm | (simp; done) | (rw [e2]; done) | (rw [← e2]; done) | (simp; omega)
                  trivial
                  refine ⟨((wts S ps).filter fun q => q.1.getD n 0 == v).map Prod.snd, by rw [List.map_map]; rfl, ?_⟩
                  trivial
                  rw [show (((wts S ps).filter fun q => q.1.getD n 0 == v).map Prod.snd).sum = mineW S ps n v from rfl]
                  have ea : mineW S ps n v = ((mineW S ps n v).toNat : Int) := (Int.toNat_of_nonneg hm0).symm
                  have eb : wsum (wts S ps) = ((wsum (wts S ps)).toNat : Int) := (Int.toNat_of_nonneg hw0).symm
                  refine ⟨(mineW S ps n v).toNat, (wsum (wts S ps)).toNat, by rw [← ea, ← eb], wsum_bd hs, fun fin => ?_⟩
                  trivial
                  have hb0 : 0 < (wsum (wts S ps)).toNat := by omega
                  refine ⟨gcd_div hb0 (wsum_bd hs) _, gcd_div hb0 (wsum_bd hs) _, by decide, ?_⟩
                  have := hQ [.ext (dSh S ps), .ext (.int (n : Nat)), .ext (.int (v : Nat))]
                  unfold lowP at this
                  rw [Int.natCast_ediv, Int.natCast_ediv, ← ea, ← eb] at this
                  exact this
                · rw [if_pos (by simp; omega)]
                  rcases hh with ⟨_, hX⟩ | ⟨v, hv, e, _⟩
                  · exact hX _
                  · have := D.int.inj e
                    omega
              · rw [if_neg j0]
                trivial
                rcases hh with ⟨_, hX⟩ | ⟨v, hv, e, _⟩
                · exact hX _
                · have := D.int.inj e
                  omega
            | _ => simp [D.isInt] at hj
          · rw [if_pos (by simpa using hj)]
            rcases hh with ⟨_, hX⟩ | ⟨v, hv, rfl, _⟩
            · exact hX _
            · exact absurd rfl hj
        · rw [if_pos (by simp; omega)]
          rcases h with ⟨_, hX⟩ | ⟨n, hn, e, _⟩
          · exact hX _
          · have := D.int.inj e
            omega
      · rw [if_neg h0]
        trivial
        rcases h with ⟨_, hX⟩ | ⟨n, hn, e, _⟩
        · exact hX _
        · have := D.int.inj e
          omega
    | _ => simp [D.isInt] at hi
  · rw [if_pos (by simpa using hi)]
    rcases h with ⟨_, hX⟩ | ⟨n, hn, rfl, _⟩
    · exact hX _
    · exact absurd rfl hi
def cs85 : List Str := ["NoName", "NoFilling", "NoWeights"]
def FT85 : FTab := fun nm => if nm = "share_of" then some (3, sp_share_of) else none
def sp_law_gall_right : DSpec := fun args Q _ => ∃ (S : List Nat) (ps : List Part), args = [.ext (dSh S ps)] ∧ ShOk S ps ∧ ∀ fin, Q (.ext (.bl true)) fin
def e1_law_gall_right : DT :=
    (dVar 4)
def e2_law_gall_right : DT :=
    (dVar 4)
def e3_law_gall_right : DT :=
    (dVar 4)
def b4_law_gall_right : DTS :=
    (sSeq (sSetE 9 (dCB fSum (dCons (dLc (dSeq (dVar 1)) (gTupD 2 (gsCons (gSet 3) (gsCons (gSet 4) gsNil))) (dTest (dOp fEq (dOp fIx (dVar 3) (dVar 6)) (dVar 8))) e3_law_gall_right [3, 4]) dNil)))
    (sSeq (sSetE 10 (dIf (dOr (dTest (dVar 5)) (dTest (dOp fEq (dVar 2) (dC (.int 0))))) (dLst (dCons (dC (.str (Str.ofString "weights"))) dNil)) (dLst (dCons (dC (.str (Str.ofString "told"))) (dCons (dCall sp_law_glow (dCons (dVar 9) (dCons (dVar 2) dNil))) dNil)))))
    (sIf (dNot (dTest (dCall sp_law_gsame (dCons (dCall (sp_law_gtold FT85 cs85) (dCons (dC (.glo "share_of")) (dCons (dLst (dCons (dVar 0) (dCons (dVar 6) (dCons (dVar 8) dNil)))) dNil))) (dCons (dVar 10) dNil))))) (sRet (dC (.bl false))) sNext)))
def b5_law_gall_right : DTS :=
    (sFor (dRange1 (dCons (dVar 7) dNil)) (gSet 8) b4_law_gall_right)
def k6_law_gall_right : DTS :=
    (sRet (dC (.bl true)))
def t_law_gall_right : DTS :=
    (sSeq (sSetE 1 (dCall sp_law_gweights (dCons (dVar 0) dNil)))
    (sSeq (sSetE 2 (dCB fSum (dCons (dLc (dSeq (dVar 1)) (gTupD 2 (gsCons (gSet 3) (gsCons (gSet 4) gsNil))) dYes e1_law_gall_right [3, 4]) dNil)))
    (sSeq (sSetE 5 (dOp (fCmp fun i j => decide (i < j)) (dCB fMin (dCons (dLc (dSeq (dVar 1)) (gTupD 2 (gsCons (gSet 3) (gsCons (gSet 4) gsNil))) dYes e2_law_gall_right [3, 4]) dNil)) (dC (.int 0))))
    (sSeq (sFor (dEnum (dOp fIx (dVar 0) (dC (.int 0)))) (gTupD 2 (gsCons (gSet 6) (gsCons (gSet 7) gsNil))) b5_law_gall_right)
    k6_law_gall_right))))
theorem m_law_gall_right : Meets t_law_gall_right 1 10 sp_law_gall_right := by
  rintro args Qd Xd ⟨S, ps, rfl, hs, hQ⟩
  show t_law_gall_right _ _ [_, .un, .un, .un, .un, .un, .un, .un, .un, .un, .un]
  unfold t_law_gall_right
  trivial
  have hwl := wts_len (ps := ps) hs.sz
  have hwne := wts_min (ps := ps) hs.sz
  refine ⟨S, ps, rfl, hs, fun a1 fin => ?_⟩
  trivial
  refine lc_map dWt (fun q => .int q.2) True.intro (wts S ps) (Nat.le_trans hwl (by decide)) (fun q hq R hR => ?_) fun b => ?_
  · unfold e1_law_gall_right
    trivial
    exact hR
  trivial
  refine ⟨(wts S ps).map Prod.snd, by rw [List.map_map]; rfl, ?_⟩
  trivial
  refine lc_map dWt (fun q => .int q.2) True.intro (wts S ps) (Nat.le_trans hwl (by decide)) (fun q hq R hR => ?_) fun b => ?_
  · unfold e2_law_gall_right
    trivial
    exact hR
  trivial
  refine ⟨(wts S ps).map Prod.snd, by rw [List.map_map]; rfl, by simpa using hwne, fun mn hmn hle => ?_⟩
  trivial
  have en : enD (nD S) = S.zipIdx.map fun p => D.tk [.int (p.2 : Nat), .int (p.1 : Nat)] := by
    unfold enD
    rw [show nD S = S.map (fun n : Nat => D.int (n : Nat)) from rfl, List.zipIdx_map, List.map_map]
    rfl
  rw [en, show ((wts S ps).map Prod.snd).sum = wsum (wts S ps) from rfl]
  refine for_ind (fun p : Nat × Nat => D.tk [.int (p.2 : Nat), .int (p.1 : Nat)]) (fun xs env => ∃ (u6 u7 u8 u9 u10 : Sl), env = [.ext (dSh S ps), .ext (.lst ((wts S ps).map dWt)), dI (wsum (wts S ps)), .un, .un, .ext (.bl (decide (mn < 0))), u6, u7, u8, u9, u10] ∧ ∀ p ∈ xs, p.2 < S.length ∧ p.1 = sz S p.2) ?_ ?_ S.zipIdx _ ⟨_, _, _, _, _, rfl, fun p hp => ?_⟩
  · rintro env ⟨u6, u7, u8, u9, u10, rfl, _⟩
    refine ⟨True.intro, ?_⟩
    unfold k6_law_gall_right
    trivial
    exact hQ _
  · rintro ⟨z, n⟩ xs env N ⟨u6, u7, u8, u9, u10, rfl, hx⟩ hN
    obtain ⟨hn, hzn⟩ := hx (z, n) List.mem_cons_self
    replace hzn : z = sz S n := hzn
    replace hn : n < S.length := hn
    have hz4 := hs.sz.small _ (sz_mem hn)
    refine ⟨True.intro, ?_⟩
    unfold b5_law_gall_right
    trivial
    refine ⟨⟨by omega, by omega⟩, ?_⟩
    rw [rgD_nat]
    refine for_ind (fun v : Nat => D.int (v : Nat)) (fun vs env => ∃ (u8 u9 u10 : Sl), env = [.ext (dSh S ps), .ext (.lst ((wts S ps).map dWt)), dI (wsum (wts S ps)), .un, .un, .ext (.bl (decide (mn < 0))), dI (n : Nat), dI (z : Nat), u8, u9, u10] ∧ ∀ v ∈ vs, v < sz S n) ?_ ?_ (List.range z) _ ⟨_, _, _, rfl, fun v hv => by rw [← hzn]; exact List.mem_range.1 hv⟩
    · rintro env ⟨u8, u9, u10, rfl, _⟩
      exact ⟨True.intro, hN _ ⟨_, _, _, _, _, rfl, fun p hp => hx p (List.mem_cons_of_mem _ hp)⟩⟩
    rintro v vs env N2 ⟨u8, u9, u10, rfl, hvs⟩ hN2
    have hv := hvs v List.mem_cons_self
    refine ⟨True.intro, ?_⟩
    unfold b4_law_gall_right
    trivial
    refine lc_filter dWt (fun q => .int q.2) (fun q => q.1.getD n 0 == v) True.intro (wts S ps) (Nat.le_trans hwl (by decide)) (fun q hq R hR => ?_) fun b => ?_
    · have hf := wts_fit hq
      unfold e3_law_gall_right
      trivial
      refine ⟨_, atN (getD_at (by rw [hf.1]; exact hn)), ?_⟩
      trivial
      generalize q.1.getD n 0 = x at hR ⊢
      refine R_if ?_ hR
      have e2 : (((x : Nat) : Int) == ((v : Nat) : Int)) = (x == v) := by
        rw [Bool.eq_iff_iff, beq_iff_eq, beq_iff_eq]
        omega
      first | exact e2 | exact e2.symm | (simp; done) | (rw [e2]; done) | (rw [← e2]; done) | (simp; omega)
    trivial
    refine ⟨((wts S ps).filter fun q => q.1.getD n 0 == v).map Prod.snd, by rw [List.map_map]; rfl, ?_⟩
    trivial
    rw [show (((wts S ps).filter fun q => q.1.getD n 0 == v).map Prod.snd).sum = mineW S ps n v from rfl]
    have plI : ∀ i : Int, D.pl 1 (.int i) = true := fun i => rfl
    by_cases hb : mn < 0
    · rw [if_pos hb]
      obtain ⟨q, hq, e⟩ := List.mem_map.1 hmn
      refine ⟨by decide, by decide, fun a5 => ⟨"share_of", 3, sp_share_of, _, rfl, rfl, by simp, by simp, .inl ⟨"NoWeights", by decide, by decide, fun Q' X' h => ⟨S, ps, _, _, 1, rfl, hs, plI _, plI _, .inr ⟨n, hn, rfl, .inr ⟨v, hv, rfl, .inl ⟨.inl ⟨q, hq, by omega⟩, h⟩⟩⟩⟩, fun a6 fin => ?_⟩⟩⟩
      rw [K84.xw_w]
      trivial
      refine ⟨_, rfl, rfl, fun fin => ?_⟩
      trivial
      exact hN2 _ ⟨_, _, _, rfl, fun u hu => hvs u (List.mem_cons_of_mem _ hu)⟩
    rw [if_neg hb]
    have hpos : ∀ q ∈ wts S ps, 0 ≤ q.2 := fun q hq => Int.le_trans (Int.not_lt.1 hb) (hle q.2 (List.mem_map.2 ⟨q, hq, rfl⟩))
    by_cases hz0 : wsum (wts S ps) = 0
    · rw [if_pos (by rw [hz0]; rfl)]
      refine ⟨by decide, by decide, fun a5 => ⟨"share_of", 3, sp_share_of, _, rfl, rfl, by simp, by simp, .inl ⟨"NoWeights", by decide, by decide, fun Q' X' h => ⟨S, ps, _, _, 1, rfl, hs, plI _, plI _, .inr ⟨n, hn, rfl, .inr ⟨v, hv, rfl, .inl ⟨.inr hz0, h⟩⟩⟩⟩, fun a6 fin => ?_⟩⟩⟩
      rw [K84.xw_w]
      trivial
      refine ⟨_, rfl, rfl, fun fin => ?_⟩
      trivial
      exact hN2 _ ⟨_, _, _, rfl, fun u hu => hvs u (List.mem_cons_of_mem _ hu)⟩
    rw [if_neg (by simpa using hz0)]
    have hw0 : 0 ≤ wsum (wts S ps) := wsum_nn hpos
    have hm0 : 0 ≤ mineW S ps n v := wsum_nn fun q hq => hpos q (List.mem_filter.1 hq).1
    have ea : mineW S ps n v = ((mineW S ps n v).toNat : Int) := (Int.toNat_of_nonneg hm0).symm
    have eb : wsum (wts S ps) = ((wsum (wts S ps)).toNat : Int) := (Int.toNat_of_nonneg hw0).symm
    refine ⟨(mineW S ps n v).toNat, (wsum (wts S ps)).toNat, by rw [← ea, ← eb], by omega, wsum_bd hs, fun fin => ?_⟩
    trivial
    refine ⟨by decide, by decide, fun a5 => ⟨"share_of", 3, sp_share_of, _, rfl, rfl, by simp, by simp, .inr ⟨lowP (mineW S ps n v).toNat (wsum (wts S ps)).toNat, fun Q' X' h => ⟨S, ps, _, _, 1, rfl, hs, plI _, plI _, .inr ⟨n, hn, rfl, .inr ⟨v, hv, rfl, .inr ⟨hpos, by omega, h⟩⟩⟩⟩, fun a6 fin => ?_⟩⟩⟩
    trivial
    refine ⟨_, rfl, rfl, fun fin => ?_⟩
    trivial
    exact hN2 _ ⟨_, _, _, rfl, fun u hu => hvs u (List.mem_cons_of_mem _ hu)⟩
  · obtain ⟨h1, h2, h3⟩ := List.mem_zipIdx hp
    refine ⟨by omega, ?_⟩
    rw [h3]
    simp only [sz, List.getD_eq_getElem?_getD, Nat.sub_zero]
    rw [List.getElem?_eq_getElem (by omega : p.2 < S.length)]
    rfl
def b1_law : DTS :=
    (sSeq (sSetE 12 (dLst (dCons (dCall (sp_law_gtold FT85 cs85) (dCons (dC (.glo "share_of")) (dCons (dLst (dCons (dVar 10) (dCons (dVar 11) (dCons (dC (.int 0)) dNil)))) dNil))) (dCons (dCall (sp_law_gtold FT85 cs85) (dCons (dC (.glo "share_of")) (dCons (dLst (dCons (dVar 10) (dCons (dVar 11) (dCons (dVar 11) dNil)))) dNil))) dNil))))
    (sIf (dTest (dOp fNe (dOp fAdd (dVar 12) (dLst (dCons (dCall (sp_law_gtold FT85 cs85) (dCons (dC (.glo "share_of")) (dCons (dLst (dCons (dVar 10) (dCons (dVar 8) (dCons (dVar 11) dNil)))) dNil))) dNil))) (dLst (dCons (dLst (dCons (dC (.str (Str.ofString "name"))) dNil)) (dCons (dLst (dCons (dC (.str (Str.ofString "name"))) dNil)) (dCons (dLst (dCons (dC (.str (Str.ofString "filling"))) dNil)) dNil)))))) (sRet (dC (.bl false))) sNext))
def k2_law : DTS :=
    (sSeq (sSetE 12 (dLst (dCons (dCall (sp_law_gtold FT85 cs85) (dCons (dC (.glo "share_of")) (dCons (dLst (dCons (dVar 10) (dCons (dCB fLen (dCons (dVar 4) dNil)) (dCons (dC (.int 9)) dNil)))) dNil))) (dCons (dCall (sp_law_gtold FT85 cs85) (dCons (dC (.glo "share_of")) (dCons (dLst (dCons (dVar 10) (dCons (dVar 8) (dCons (dOp fIx (dVar 4) (dVar 8)) dNil)))) dNil))) dNil))))
    (sIf (dTest (dOp fNe (dVar 12) (dLst (dCons (dLst (dCons (dC (.str (Str.ofString "name"))) dNil)) (dCons (dLst (dCons (dC (.str (Str.ofString "filling"))) dNil)) dNil))))) (sRet (dC (.bl false))) sNext))
def b3_law : DTS :=
    (sSeq (sFor (dSeq (dVar 9)) (gSet 11) b1_law)
    k2_law)
def k4_law : DTS :=
    (sSeq (sSetE 7 (dTup (dCons (dVar 4) (dCons (dOp fAdd (dTup (dCons (dTup (dCons (dTup dNil) (dCons (dTup (dCons (dNeg (dC (.int 1))) dNil)) dNil))) dNil)) (dOp fIx (dVar 3) (dC (.int 1)))) dNil))))
    (sSeq (sSetE 8 (dCallJ sp_law_gdraw 1 (dCons (dCB fLen (dCons (dVar 4) dNil)) dNil)))
    (sSeq (sSetE 9 (dLst (dCons (dNeg (dC (.int 1))) (dCons (dC (.bl true)) (dCons (dC (.bl false)) (dCons (dC .non) (dCons (dC (.str (Str.ofString "0"))) (dCons (dTup (dCons (dC (.int 0)) dNil)) (dCons (dLst (dCons (dC (.int 0)) dNil)) (dCons (dOp fPow (dC (.int 10)) (dC (.int 39))) (dCons (dOp fSub (dC (.int 0)) (dOp fPow (dC (.int 10)) (dC (.int 39)))) (dCons (dOp fAdd (dC (.int 12)) (dCallJ sp_law_gdraw 1 (dCons (dOp fPow (dC (.int 10)) (dC (.int 9))) dNil))) dNil))))))))))))
    (sFor (dSeq (dLst (dCons (dVar 3) (dCons (dVar 5) (dCons (dVar 7) dNil))))) (gSet 10) b3_law))))
def k5_law : DTS :=
    (sSeq (sSetE 6 (dCallJ sp_law_glight 1 (dCons (dVar 3) dNil)))
    (sSeq (sIf (dNot (dTest (dCall sp_law_gall_right (dCons (dVar 6) dNil)))) (sRet (dC (.bl false))) sNext)
    k4_law))
def b6_law : DTS :=
    (sSeq (sSetE 3 (dCallJ sp_law_gheavy 1 (dCons (dC (.int 4)) (dCons (dC (.int 12)) dNil))))
    (sSeq (sSetE 4 (dOp fIx (dVar 3) (dC (.int 0))))
    (sSeq (sSetE 5 (dTup (dCons (dVar 4) (dCons (dOp fAdd (dSl (dOp fIx (dVar 3) (dC (.int 1))) dNoPart (dPart (dC (.int 23)))) (dTup (dCons (dTup (dCons (dTup dNil) (dCons (dTup (dCons (dC (.int 0)) dNil)) dNil))) dNil))) dNil))))
    (sSeq (sIf (dOr (dNot (dTest (dCall sp_law_gall_right (dCons (dVar 3) dNil)))) (dNot (dTest (dCall sp_law_gall_right (dCons (dVar 5) dNil))))) (sRet (dC (.bl false))) sNext)
    k5_law))))
def k7_law : DTS :=
    (sRet (dC (.bl true)))
def t_law : DTS :=
    (sSeq (sSet 1 (dLst (dCons (dCB fList (dCons (dSl (dVar 0) dNoPart (dPart (dC (.int 63)))) dNil)) (dCons (dC (.int 0)) (dCons (dC (.int 0)) dNil)))))
    (sSeq (sFor (dRange1 (dCons (dC (.int 3)) dNil)) (gSet 2) b6_law)
    k7_law))
theorem xw_n : xWord (Str.ofString "NoName") = Str.ofString "name" := by decide +kernel
theorem cmp_nf : D.cmp (.lst [.lst [.str (Str.ofString "name")], .lst [.str (Str.ofString "filling")]]) := ⟨rfl, by decide +kernel⟩
theorem cmp_nnf : D.cmp (.lst [.lst [.str (Str.ofString "name")], .lst [.str (Str.ofString "name")], .lst [.str (Str.ofString "filling")]]) := ⟨rfl, by decide +kernel⟩
theorem m_law : Meets t_law 1 12 (lawSpec 63) := by
  rintro args Qd Xd ⟨ns, rfl, hl, hQ⟩
  show t_law _ _ [_, .un, .un, .un, .un, .un, .un, .un, .un, .un, .un, .un, .un]
  unfold t_law
  trivial
  refine ⟨by decide, fun a => ⟨⟨by decide, by decide⟩, ?_⟩⟩
  rw [show rgD 0 3 = nD (List.range 3) from rgD_nat 3, cut_iD]
  refine for_ind (fun k : Nat => D.int (k : Int)) (fun xs env => ∃ (n : Nat) (ds : List D) (u2 u3 u4 u5 u6 u7 u8 u9 u10 u11 u12 : Sl), env = [.ext (.fz (ns.map D.int)), .lst a ds, u2, u3, u4, u5, u6, u7, u8, u9, u10, u11, u12] ∧ JarOk n ds ∧ n + xs.length * 5000000 < 4294967296) ?_ ?_ (List.range 3) _
    ⟨0, _, _, _, _, _, _, _, _, _, _, _, _, rfl, ⟨_, 0, 0, rfl, by decide, by decide⟩, by decide⟩
  · rintro env ⟨n, ds, u2, u3, u4, u5, u6, u7, u8, u9, u10, u11, u12, rfl, _⟩
    refine ⟨True.intro, ?_⟩
    unfold k7_law
    trivial
    exact hQ _
  rintro k xs env N ⟨n, ds, u2, u3, u4, u5, u6, u7, u8, u9, u10, u11, u12, rfl, hj, hn⟩ hN
  rw [List.length_cons] at hn
  refine ⟨True.intro, ?_⟩
  unfold b6_law
  trivial
  refine ⟨n, a, ds, 4, 12, rfl, hj, by omega, by decide, by decide, by decide, by decide, fun S ps ds1 fin hs hS2 hS3 h6 hnn hj1 => ?_⟩
  trivial
  have hbare : ShO4 S (ps ++ [(⟨[], [0]⟩ : Part)]) := .mk4 hs.sz hs.one (fun q hq => by
    rcases List.mem_append.1 hq with hq | hq
    · exact hs.ok q hq
    · rw [List.mem_singleton.1 hq]; exact ⟨.nil, by simp, rfl⟩) (fun q hq => by
    rcases List.mem_append.1 hq with hq | hq
    · exact hs.b4 q hq
    · rw [List.mem_singleton.1 hq]; intro x hx; simp at hx; subst hx; decide) (by rw [List.length_append, List.length_singleton]; omega)
  have ct : cutD (ps.map dP) none (some 23) = ps.map dP := by
    rw [show (23 : Int) = ((23 : Nat) : Int) from rfl]
    unfold cutD
    rw [HT.sIx_none, HT.sIx_nat, List.drop_zero, Nat.sub_zero, Nat.min_eq_right (by rw [List.length_map]; omega), List.take_length]
  rw [ct]
  refine ⟨by decide, by decide, by decide, by decide, Nat.le_trans (by rw [List.length_map]; omega : _ ≤ 100) (by decide), by decide, ?_⟩
  refine ⟨S, ps, rfl, hs, fun fin => ?_⟩
  trivial
  rw [show (ps.map dP ++ [D.tup [D.tup [], D.tup [D.int 0]]]) = (ps ++ [(⟨[], [0]⟩ : Part)]).map dP by rw [List.map_append]; rfl]
  refine ⟨S, ps ++ [(⟨[], [0]⟩ : Part)], rfl, hbare, fun fin => ?_⟩
  trivial
  unfold k5_law
  trivial
  refine ⟨n + 900000, a, ds1, S, ps, rfl, hj1, by omega, hs, h6, fun S' ps' ds2 fin hs' h7 hj2 => ?_⟩
  trivial
  refine ⟨S', ps', rfl, hs', fun fin => ?_⟩
  trivial
  unfold k4_law
  trivial
  have hs2 : ShO4 S ((⟨[], [-1]⟩ : Part) :: ps) := hs.cons ⟨.nil, by simp, rfl⟩ (by intro x hx; simp at hx; subst hx; decide) (by omega)
  rw [if_neg (by decide)]
  refine ⟨by decide, by decide, by decide, by decide, Nat.le_trans (by rw [List.length_map]; omega : _ ≤ 100) (by decide), by decide, ?_⟩
  rw [nD_len]
  have hSl := hs.one
  have hS24 := hs.sz.few
  refine ⟨n + 900000 + 400001, a, ds2, S.length, rfl, hj2, by omega, gdok (by omega) (by omega), fun name ds3 fin r0 r1 hj3 => ?_⟩
  obtain ⟨name, rfl⟩ := Int.eq_ofNat_of_zero_le r0
  have hnm : name < S.length := by omega
  trivial
  refine ⟨by decide, by decide, fun a6 => ⟨⟨by decide, by decide, by decide⟩, ⟨by decide, by decide, by decide⟩, ⟨by decide, by decide, by decide⟩, n + 900000 + 400001 + 1, a, ds3, _, rfl, hj3, by omega, gdok (by decide) (by decide), fun r ds4 fin q0 q1 hj4 => ?_⟩⟩
  trivial
  have hS4 : S.length ≤ 12 := by omega
  have hodd : ∀ o ∈ [D.int (-1), D.bl true, D.bl false, D.non, D.str (Str.ofString "0"), D.tup [D.int 0], D.lst [D.int 0],
                D.int (10 ^ Int.toNat 39), D.int (0 - 10 ^ Int.toNat 39), D.int (12 + r)], D.pl 2 o = true ∧ ∀ v : Nat, v < 12 → o ≠ .int (v : Nat) := by
    intro o ho
    simp only [List.mem_cons, List.not_mem_nil, or_false] at ho
    have h10 : (10 : Int) ^ Int.toNat 39 > 12 := by decide
    rcases ho with rfl | rfl | rfl | rfl | rfl | rfl | rfl | rfl | rfl | rfl
    · exact ⟨rfl, fun v hv e => by have := D.int.inj e; omega⟩
    · exact ⟨rfl, fun v hv e => by cases e⟩
    · exact ⟨rfl, fun v hv e => by cases e⟩
    · exact ⟨rfl, fun v hv e => by cases e⟩
    · exact ⟨rfl, fun v hv e => by cases e⟩
    · exact ⟨rfl, fun v hv e => by cases e⟩
    · exact ⟨rfl, fun v hv e => by cases e⟩
    · exact ⟨rfl, fun v hv e => by have := D.int.inj e; omega⟩
    · exact ⟨rfl, fun v hv e => by have := D.int.inj e; omega⟩
    · exact ⟨rfl, fun v hv e => by have := D.int.inj e; omega⟩
  generalize [D.int (-1), D.bl true, D.bl false, D.non, D.str (Str.ofString "0"), D.tup [D.int 0], D.lst [D.int 0],
                D.int (10 ^ Int.toNat 39), D.int (0 - 10 ^ Int.toNat 39), D.int (12 + r)] = odds at hodd ⊢
  have plI : ∀ i : Int, D.pl 2 (.int i) = true := fun i => rfl
  have hz4 := hs.sz.small _ (sz_mem hnm)
  refine ⟨by decide, by decide, ?_⟩
  refine for_ind (fun qs : List Part => dSh S qs) (fun Qs env => ∃ (u10 u11 u12 : Sl), env = [.ext (.fz (ns.map D.int)), .lst a ds4, .ext (.int (k : Nat)), .ext (dSh S ps), .ext (.tup (nD S)), .ext (dSh S (ps ++ [(⟨[], [0]⟩ : Part)])), .ext (dSh S' ps'), .ext (dSh S ((⟨[], [-1]⟩ : Part) :: ps)), .ext (.int (name : Nat)), .ext (.lst odds), u10, u11, u12] ∧ ∀ qs ∈ Qs, ShOk S qs) ?_ ?_ [ps, ps ++ [(⟨[], [0]⟩ : Part)], (⟨[], [-1]⟩ : Part) :: ps] _ ⟨_, _, _, rfl, fun qs hq => ?_⟩
  · rintro env ⟨u10, u11, u12, rfl, _⟩
    exact ⟨True.intro, hN _ ⟨n + 900000 + 400001 + 1 + 1, ds4, _, _, _, _, _, _, _, _, _, _, _, rfl, hj4, by omega⟩⟩
  · rintro qs Qs env N1 ⟨u10, u11, u12, rfl, hQs⟩ hN1
    have hsq := hQs qs List.mem_cons_self
    refine ⟨True.intro, ?_⟩
    unfold b3_law
    trivial
    refine for_indD (fun T env => ∃ (u11 u12 : Sl), env = [.ext (.fz (ns.map D.int)), .lst a ds4, .ext (.int (k : Nat)), .ext (dSh S ps), .ext (.tup (nD S)), .ext (dSh S (ps ++ [(⟨[], [0]⟩ : Part)])), .ext (dSh S' ps'), .ext (dSh S ((⟨[], [-1]⟩ : Part) :: ps)), .ext (.int (name : Nat)), .ext (.lst odds), .ext (dSh S qs), u11, u12] ∧ ∀ o ∈ T, D.pl 2 o = true ∧ ∀ v : Nat, v < 12 → o ≠ .int (v : Nat)) ?_ ?_ odds _ ⟨_, _, rfl, hodd⟩
    · rintro env ⟨u11, u12, rfl, _⟩
      refine ⟨True.intro, ?_⟩
      unfold k2_law
      trivial
      rw [nD_len]
      refine ⟨by decide, fun a5 => ⟨"share_of", 3, sp_share_of, _, rfl, rfl, by simp, by simp, .inl ⟨"NoName", by decide, by decide, fun Q' X' h => ⟨S, qs, _, _, 2, rfl, hsq, plI _, plI _, .inl ⟨fun v hv e => by have := D.int.inj e; omega, h⟩⟩, fun a6 fin => ?_⟩⟩⟩
      rw [xw_n]
      trivial
      refine ⟨_, atN (sz_at hnm), ?_⟩
      trivial
      refine ⟨by decide, fun a7 => ⟨"share_of", 3, sp_share_of, _, rfl, rfl, by simp, by simp, .inl ⟨"NoFilling", by decide, by decide, fun Q' X' h => ⟨S, qs, _, _, 2, rfl, hsq, plI _, plI _, .inr ⟨name, hnm, rfl, .inl ⟨fun v hv e => by have := D.int.inj e; omega, h⟩⟩⟩, fun a8 fin => ?_⟩⟩⟩
      rw [K84.xw_f]
      trivial
      refine ⟨by decide, by decide, by decide, by decide, cmp_nf, cmp_nf, ?_⟩
      rw [eqv_refl cmp_nf, if_neg (by decide)]
      exact hN1 _ ⟨_, _, _, rfl, fun q hq => hQs q (List.mem_cons_of_mem _ hq)⟩
    · rintro o T env N2 ⟨u11, u12, rfl, hT⟩ hN2
      obtain ⟨hop, hon⟩ := hT o List.mem_cons_self
      refine ⟨True.intro, ?_⟩
      unfold b1_law
      trivial
      refine ⟨by decide, fun a5 => ⟨"share_of", 3, sp_share_of, _, rfl, rfl, by simp, by simp, .inl ⟨"NoName", by decide, by decide, fun Q' X' h => ⟨S, qs, _, _, 2, rfl, hsq, hop, plI _, .inl ⟨fun v hv e => hon v (by omega) e, h⟩⟩, fun a6 fin => ?_⟩⟩⟩
      rw [xw_n]
      trivial
      refine ⟨by decide, fun a7 => ⟨"share_of", 3, sp_share_of, _, rfl, rfl, by simp, by simp, .inl ⟨"NoName", by decide, by decide, fun Q' X' h => ⟨S, qs, _, _, 2, rfl, hsq, hop, hop, .inl ⟨fun v hv e => hon v (by omega) e, h⟩⟩, fun a8 fin => ?_⟩⟩⟩
      rw [xw_n]
      trivial
      refine ⟨by decide, by decide, fun a9 => ⟨"share_of", 3, sp_share_of, _, rfl, rfl, by simp, by simp, .inl ⟨"NoFilling", by decide, by decide, fun Q' X' h => ⟨S, qs, _, _, 2, rfl, hsq, plI _, hop, .inr ⟨name, hnm, rfl, .inl ⟨fun v hv e => hon v (by omega) e, h⟩⟩⟩, fun a10 fin => ?_⟩⟩⟩
      rw [K84.xw_f]
      trivial
      refine ⟨by decide, by decide, by decide, by decide, by decide, by decide, cmp_nnf, cmp_nnf, ?_⟩
      rw [if_neg (by rw [eqv_refl cmp_nnf]; decide)]
      exact hN2 _ ⟨_, _, rfl, fun q hq => hT q (List.mem_cons_of_mem _ hq)⟩
  · simp only [List.mem_cons, List.not_mem_nil, or_false] at hq
    rcases hq with rfl | rfl | rfl
    · exact hs.toShOk
    · exact hbare.toShOk
    · exact hs2.toShOk
end K85
end LS

/-! K02: worths of fillings -/
namespace LS
namespace K02
open PySem L2 HD PM
open K84 (NoF OddOk nof_bent not_len sv_nD sv_nat fit_small xw_f)
local macro_rules | `(tactic| trivial) => `(tactic| try simp -dsimp only [↓sSeq, ↓sIf, ↓sRet, ↓retD_ext, ↓retD_lst, ↓retD_al, ↓sSet, ↓sSetE, ↓sAsg, ↓sDrop, ↓sNext, ↓sFor, ↓sRetN, ↓sCont, ↓sBreak, ↓dTest, ↓dOp, ↓dVar_w, ↓dC, ↓dCons, ↓dNil, ↓dTup, ↓dLst, ↓frzDs, ↓frzD_ext, ↓frzD_lst, ↓frzD_al, ↓wd_ext, ↓wd_lst, ↓wd_al, ↓wds, ↓AtS_ext, ↓AtS_lst, ↓AtL, ↓fAdd, ↓fSub, ↓fMul, ↓fDiv, ↓fMod, ↓fPow, ↓fCmp, ↓fIn, ↓fEq_ii, ↓fEq_ss, ↓fEq_bb, ↓fEq_tt, ↓fEq_ll, ↓fNe_ii, ↓fNe_ss, ↓fNe_bb, ↓fNe_tt, ↓fNe_ll, ↓fIx_l, ↓fIx_t, ↓fIx_k, ↓fIx_f, ↓GetS_some, ↓NatS_some, ↓fSl, ↓fIsN, ↓fNotN, ↓D.knN, ↓dNot, ↓dAnd, ↓dOr, ↓dAndV_w, ↓dOrV_w, ↓dNotV, ↓dIf, ↓dNeg, ↓dChain_w, ↓BlS_bl, ↓dCall_w, ↓dCallJ_w, ↓anyAl, ↓frozs, ↓froz, ↓gSet, ↓gTupD, ↓gsCons, ↓gsNil, ↓dSeq, ↓seqD_tup, ↓seqD_elst, ↓seqD_lst, ↓seqD_al, ↓dRange1, ↓dRange2, ↓dZip, ↓dCB, ↓dLc, ↓dYes, ↓dNoPart, ↓dPart, ↓dSl, ↓fLen, ↓fMin, ↓fMax, ↓fSum, ↓fAll, ↓fAny, ↓fSorted, ↓fTuple, ↓fList, ↓dRg1, ↓dRg2, ↓dLstRg, ↓dTupRg, ↓dIndex, ↓fIdx, ↓dAppend_w, ↓dExtend_w, ↓extD_lst, ↓dPopAt_w, ↓popD_int, ↓dPop_w, ↓mutD_w, ↓sSetItem_w, ↓setD_int, ↓dSortSet, ↓dTable_w, ↓wipeE, finals1, finals2, finals3, finals4, finals5, finals6, fin1_ext, fin1_lst, List.getElem?_cons_zero, List.getElem?_cons_succ, List.getElem?_nil, List.set_cons_zero, List.set_cons_succ, List.cons_append, List.nil_append, List.append_nil, List.replicate_succ, List.replicate_zero, List.map_cons, List.map_nil, List.length_cons, List.length_nil, true_and, and_true, ite_true, ite_false, if_true, if_false, Bool.false_eq_true, decide_eq_true_eq, Sl.plain, D.isSq, eq_self_iff_true, forall_const, reduceIte, true_or, or_true, atI_0, atI_1, atI_2, atI_3, ixN_0, ixN_1, ixN_2, AtS_ext, AtS_lst, FzS_lst, FzS_ext, GetS_some, NatS_some, ↓fIsi1, ↓fIsi2, BoolS_some, HD.kb_non_tuple, HD.kb_non_list, HD.kb_non_bool, HD.kb_non_int, HD.kb_non_str, HD.kb_bl_tuple, HD.kb_bl_list, HD.kb_bl_bool, HD.kb_bl_int, HD.kb_bl_str, HD.kb_int_tuple, HD.kb_int_list, HD.kb_int_bool, HD.kb_int_int, HD.kb_int_str, HD.kb_str_tuple, HD.kb_str_list, HD.kb_str_bool, HD.kb_str_int, HD.kb_str_str, HD.kb_lst_tuple, HD.kb_lst_list, HD.kb_lst_bool, HD.kb_lst_int, HD.kb_lst_str, HD.kb_tup_tuple, HD.kb_tup_list, HD.kb_tup_bool, HD.kb_tup_int, HD.kb_tup_str, ↓sFz_w, ↓FzS_lst, ↓FzS_ext, ↓dSortSetL, ↓fAbs, ↓fInt, ↓fRepr, ↓fLtT, ↓sRaise, ↓sTryKeep, ↓dCallV_w, ↓dMeth, ↓fCount, ↓fSplit, dStep, fStep])
def sp_law_sheet : DSpec := fun args Q _ => ∃ (n : Nat) (a : Addr) (ds : List D) (w : Wd) (most roof parts : Nat), args = [.lst a ds, dW w, dI (most : Nat), dI (roof : Nat), dI (parts : Nat)] ∧ JarOk n ds ∧ n + 700000 < 4294967296 ∧ 0 < most ∧ most ≤ 24 ∧ 0 < roof ∧ roof ≤ 4096 ∧ parts ≤ 60 ∧
  ∀ (S : List Nat) (ps : List Part) ds' fin, SzOk S → 0 < S.length → S.length ≤ most → prodN S ≤ roof → PsOk w S ps → ps.length ≤ parts → (∀ p ∈ ps, p.ns.length ≤ 3) → JarOk (n + 700000) ds' → Q (.ext (dSh S ps)) (.lst a ds' :: fin)
def e1_law_sheet : DT :=
    (dCallJ sp_law_part 0 (dCons (dVar 1) (dCons (dVar 5) (dCons (dVar 7) dNil))))
def t_law_sheet : DTS :=
    (sSeq (sSetE 5 (dCallJ sp_law_sizes 0 (dCons (dVar 2) (dCons (dVar 3) dNil))))
    (sSeq (sSetE 6 (dCallJ sp_law_dip 0 (dCons (dOp fAdd (dVar 4) (dC (.int 1))) dNil)))
    (sSeq (sSetE 7 (dOp fAdd (dC (.int 2)) (dCallJ sp_law_dip 0 (dCons (dC (.int 2)) dNil))))
    (sRet (dTup (dCons (dVar 5) (dCons (dCB fTuple (dCons (dLc (dRange1 (dCons (dVar 6) dNil)) (gSet 8) dYes e1_law_sheet [8]) dNil)) dNil)))))))
theorem m_law_sheet : Meets t_law_sheet 5 4 sp_law_sheet := by
  rintro args Qd Xd ⟨n, a, ds, w, most, roof, parts, rfl, hj, hn, hm0, hm1, hr0, hr1, hp, hQ⟩
  show t_law_sheet _ _ [_, _, _, _, _, .un, .un, .un, .un]
  unfold t_law_sheet
  trivial
  refine ⟨n, a, ds, most, roof, rfl, hj, by omega, hm0, hm1, hr0, hr1, fun S ds1 fin hS hS1 hSm hSr hj1 => ?_⟩
  trivial
  refine ⟨n + 64, a, ds1, (parts : Int) + 1, rfl, hj1, by omega, by omega, by omega, fun r ds2 fin r0 r1 hj2 => ?_⟩
  trivial
  refine ⟨n + 64 + 1, a, ds2, 2, rfl, hj2, by omega, by omega, by omega, fun q ds3 fin q0 q1 hj3 => ?_⟩
  trivial
  refine ⟨⟨by omega, by omega⟩, ?_⟩
  have er : rgD 0 r = nD (List.range r.toNat) := by rw [← rgD_nat, Int.toNat_of_nonneg r0]
  rw [er]
  obtain ⟨wide, hw⟩ : ∃ z : Nat, 2 + q = (z : Nat) := ⟨(2 + q).toNat, by omega⟩
  refine lc_ind (fun k : Nat => D.int (k : Int)) (fun xs acc env => ∃ (m : Nat) (ds : List D) (ps : List Part), env = [.lst a ds, dW w, dI (most : Nat), dI (roof : Nat), dI (parts : Nat), dSz S, dI r, dI (2 + q), .un] ∧ acc = ps.map dP ∧ JarOk m ds ∧ m + 10000 * xs.length ≤ n + 700000 ∧ ps.length + xs.length = r.toNat ∧ PsOk w S ps ∧ ∀ p ∈ ps, p.ns.length ≤ 3) ?_ ?_ (List.range r.toNat) [] _
    ⟨n + 64 + 1 + 1, ds3, [], rfl, rfl, hj3, by simp; omega, by simp, by intro p hp; simp at hp, by intro p hp; simp at hp⟩
  · rintro acc env ⟨m, ds4, ps, rfl, rfl, hj4, hm4, hl, hps, h3⟩
    simp only [List.length_nil, Nat.add_zero, Nat.mul_zero] at hm4 hl
    refine ⟨True.intro, fun b => ?_⟩
    trivial
    exact ⟨by decide, hQ S ps _ _ hS hS1 hSm hSr hps (by omega) h3 (hj4.up hm4)⟩
  · rintro k xs acc env N ⟨m, ds4, ps, rfl, rfl, hj4, hm4, hl, hps, h3⟩ hN
    rw [List.length_cons] at hm4 hl
    refine ⟨True.intro, by rw [List.length_map]; exact Nat.lt_of_le_of_lt (by omega : _ ≤ 100) (by decide), ?_⟩
    unfold e1_law_sheet
    trivial
    refine ⟨m, a, ds4, w, S, wide, by rw [hw], hj4, by omega, hS, by omega, fun p ds5 fin h1 h2 h4 hj5 => ?_⟩
    trivial
    refine hN _ _ ⟨m + 10000, ds5, ps ++ [p], rfl, by simp, hj5, by omega, by rw [List.length_append, List.length_singleton]; omega, fun q hq => ?_, fun q hq => ?_⟩
    · rcases List.mem_append.1 hq with h | h
      · exact hps q h
      · rw [List.mem_singleton.1 h]; exact ⟨h1, h2⟩
    · rcases List.mem_append.1 hq with h | h
      · exact h3 q h
      · rw [List.mem_singleton.1 h]; omega
def sp_law_whole_number : DSpec := sp_is_whole
def t_law_whole_number : DTS :=
    (sRet (dAndV (dCB fIsi (dCons (dVar 0) (dCons (dC (.val (.ty "int"))) dNil))) (dNotV (dCB fIsi (dCons (dVar 0) (dCons (dC (.val (.ty "bool"))) dNil))))))
theorem m_law_whole_number : Meets t_law_whole_number 1 0 sp_law_whole_number := by
  rintro args Qd Xd ⟨d, k, rfl, hp, hQ⟩
  have nv := pl_noVal k d hp
  show t_law_whole_number _ _ [_]
  unfold t_law_whole_number
  cases d with
  | val _ => cases k <;> simp [D.pl] at hp
  | fz _ => cases k <;> simp [D.pl] at hp
  | tk _ => cases k <;> simp [D.pl] at hp
  | exc _ => cases k <;> simp [D.pl] at hp
  | glo _ => cases k <;> simp [D.pl] at hp
  | _ =>
    trivial
    simp only [nv, D.isFz, true_and, Bool.not_true, Bool.not_false]
    exact hQ _
def sp_law_look : DSpec := fun args Q _ => ∃ (S : List Nat) (p : Part) (g : List Nat), args = [dSz S, .ext (dP p), .ext (.tup (nD g))] ∧ SzOk S ∧ p.Ok S ∧ g.length = S.length ∧ (∀ n ∈ p.ns, g.getD n 0 < sz S n) ∧ ∀ fin, Q (dI (val S p fun n => g.getD n 0)) fin
def b1_law_look : DTS :=
    (sSetE 3 (dOp fAdd (dOp fMul (dVar 3) (dOp fIx (dVar 0) (dVar 4))) (dOp fIx (dVar 2) (dVar 4))))
def k2_law_look : DTS :=
    (sRet (dOp fIx (dOp fIx (dVar 1) (dC (.int 1))) (dVar 3)))
def t_law_look : DTS :=
    (sSeq (sSetE 3 (dC (.int 0)))
    (sSeq (sFor (dSeq (dOp fIx (dVar 1) (dC (.int 0)))) (gSet 4) b1_law_look)
    k2_law_look))
theorem q1_law_look {Ex : DX} {E : DEnds} {S g : List Nat} {s1 : Sl} (hl : g.length = S.length) (ns : List Nat) : ∀ (acc : Nat) (s4 : Sl), (∀ n ∈ ns, n < S.length ∧ 0 < sz S n) → (∀ n ∈ ns, g.getD n 0 < sz S n) → (acc + 1) * psz S ns ≤ 4096 →
    (∀ u4, E.nx [dSz S, s1, .ext (.tup (nD g)), dI (pl S acc ns (ns.map fun n => g.getD n 0) : Nat), u4]) →
    forD (gSet 4) b1_law_look (fun _ => True) Ex E (nD ns) [dSz S, s1, .ext (.tup (nD g)), dI (acc : Nat), s4] := by
  induction ns with
  | nil => intro acc s4 _ _ _ hE; exact ⟨True.intro, hE s4⟩
  | cons n ns ih =>
    intro acc s4 hn hg hb hE
    obtain ⟨hn1, hn2⟩ := hn n List.mem_cons_self
    have hw := hg n List.mem_cons_self
    have hpos : 0 < psz S ns := prodN_pos fun x hx => by
      obtain ⟨y, hy, rfl⟩ := List.mem_map.1 hx
      exact (hn y (List.mem_cons_of_mem _ hy)).2
    have e : psz S (n :: ns) = sz S n * psz S ns := rfl
    rw [e, ← Nat.mul_assoc] at hb
    have hb2 : (acc + 1) * sz S n ≤ 4096 := Nat.le_trans (Nat.le_mul_of_pos_right _ hpos) hb
    have hb3 : acc + 1 ≤ 4096 := Nat.le_trans (Nat.le_mul_of_pos_right _ hn2) hb2
    have hb4 : sz S n ≤ 4096 := Nat.le_trans (Nat.le_mul_of_pos_left _ (by omega)) hb2
    have hb5 : (acc * sz S n + g.getD n 0 + 1) ≤ (acc + 1) * sz S n := by rw [Nat.add_mul]; omega
    rw [nD_cons, forD]
    unfold b1_law_look
    trivial
    refine ⟨_, atN (sz_at hn1), ?_⟩
    trivial
    refine ⟨cmul64 (by omega) (by omega) (by omega) (by omega), _, atN (getD_at (by omega)), ?_⟩
    trivial
    have := ih (acc * sz S n + g.getD n 0) (dI (n : Nat)) (fun m hm => hn m (List.mem_cons_of_mem _ hm)) (fun m hm => hg m (List.mem_cons_of_mem _ hm)) (Nat.le_trans (Nat.mul_le_mul_right _ hb5) hb) hE
    rw [Int.natCast_add, Int.natCast_mul] at this
    exact this
theorem m_law_look : Meets t_law_look 3 2 sp_law_look := by
  rintro args Qd Xd ⟨S, p, g, rfl, hS, hp, hl, hg, hQ⟩
  show t_law_look _ _ [_, _, _, .un, .un]
  unfold t_law_look
  trivial
  refine q1_law_look hl p.ns 0 _ (Part.Ok.both hS hp) hg (by have := Part.Ok.psz hS hp; simpa using this) fun u4 => ?_
  unfold k2_law_look
  trivial
  refine ⟨_, atN (iD_at (val_at hp hg)), ?_⟩
  trivial
  exact hQ _
def sp_law_due : DSpec := sp_joined_at
def b1_law_due : DTS :=
    (sSetE 3 (dCall sp_law_join (dCons (dVar 0) (dCons (dVar 3) (dCons (dCall sp_law_look (dCons (dOp fIx (dVar 1) (dC (.int 0))) (dCons (dVar 4) (dCons (dVar 2) dNil)))) dNil)))))
def k2_law_due : DTS :=
    (sRet (dVar 3))
def t_law_due : DTS :=
    (sSeq (sSetE 3 (dCall sp_law_nothing (dCons (dVar 0) dNil)))
    (sSeq (sFor (dSeq (dOp fIx (dVar 1) (dC (.int 1)))) (gSet 4) b1_law_due)
    k2_law_due))
theorem m_law_due : Meets t_law_due 3 2 sp_law_due := by
  rintro args Qd Xd ⟨w, S, ps, f, rfl, hs, hf, hQ⟩
  show t_law_due _ _ [_, _, _, .un, .un]
  unfold t_law_due
  trivial
  refine ⟨w, rfl, fun fin => ?_⟩
  trivial
  have hfew := hs.few
  obtain ⟨bb, hbz, hbl, hbb⟩ := hs.bd
  have hbl : bb * ps.length ≤ 2400 := by omega
  refine for_ind dP (fun qs env => ∃ (acc : Int) (k : Nat) (u4 : Sl), env = [dW w, .ext (dSh S ps), .ext (.tup (nD f)), dI acc, u4] ∧ 0 < k ∧ k + bb * qs.length ≤ 3000 ∧ acc.natAbs < 2 ^ k ∧ (∀ p ∈ qs, p.Ok S ∧ Bd bb p) ∧
    qs.foldl (fun acc p => jn w acc (val S p fun n => f.getD n 0)) acc = jAll w S ps fun n => f.getD n 0) ?_ ?_ ps _ ⟨unitW w, 100, _, rfl, by decide, by omega, unit_bd w, fun p hp => ⟨hs.ok p hp, hbb p hp⟩, rfl⟩
  · rintro env ⟨acc, k, u4, rfl, _, _, _, _, h⟩
    refine ⟨True.intro, ?_⟩
    rw [List.foldl_nil] at h
    subst h
    unfold k2_law_due
    trivial
    exact hQ _
  · rintro p qs env N ⟨acc, k, u4, rfl, hk, hl, hb, hp, h⟩ hN
    rw [List.length_cons, Nat.mul_add] at hl
    obtain ⟨h1, h2⟩ := hp p List.mem_cons_self
    have hv := val_bd h1 h2 (hf.fit h1)
    refine ⟨True.intro, ?_⟩
    unfold b1_law_due
    trivial
    refine ⟨S, p, f, rfl, hs.sz, h1, hf.1, hf.fit h1, fun fin => ?_⟩
    trivial
    refine ⟨w, acc, _, rfl, cmulN hb hv (by omega), fun fin => ?_⟩
    trivial
    exact hN _ ⟨_, k + bb, _, rfl, by omega, by omega, jn_bd hk hbz hb hv, fun q hq => hp q (List.mem_cons_of_mem _ hq), h⟩
def sp_law_is_filling : DSpec := fun args Q _ => ∃ (S : List Nat) (d : D) (k : Nat), args = [.ext d, dSz S] ∧ S.length ≤ 24 ∧ D.pl k d = true ∧ ∀ (b : Bool) fin, (b = true ↔ IsFill S d) → Q (.ext (.bl b)) fin
def e1_law_is_filling : DT :=
    (dC (.int 1))
def e2_law_is_filling : DT :=
    (dC (.int 1))
def k3_law_is_filling : DTS :=
    (sSeq (sIf (dTest (dOp (fCmp fun i j => decide (j < i)) (dCB fLen (dCons (dLc (dSeq (dVar 0)) (gSet 2) (dNot (dTest (dCall sp_law_whole_number (dCons (dVar 2) dNil)))) e1_law_is_filling [2]) dNil)) (dC (.int 0)))) (sRet (dC (.bl false))) sNext)
    (sRet (dOp fEq (dCB fLen (dCons (dLc (dZip (dVar 0) (dVar 1)) (gTupD 2 (gsCons (gSet 2) (gsCons (gSet 3) gsNil))) (dOr (dTest (dOp (fCmp fun i j => decide (i < j)) (dVar 2) (dC (.int 0)))) (dTest (dOp (fCmp fun i j => decide (j ≤ i)) (dVar 2) (dVar 3)))) e2_law_is_filling [2, 3]) dNil)) (dC (.int 0)))))
def t_law_is_filling : DTS :=
    (sSeq (sIf (dOr (dNot (dTest (dCB fIsi (dCons (dVar 0) (dCons (dC (.val (.ty "tuple"))) dNil))))) (dTest (dOp fNe (dCB fLen (dCons (dVar 0) dNil)) (dCB fLen (dCons (dVar 1) dNil))))) (sRet (dC (.bl false))) sNext)
    k3_law_is_filling)
theorem lc_filterD {g : DTG} {tt : DTT} {te : DT} {vs : List Nat} {keep : Env' → Prop} {Q : Sl → Env' → Prop} {env : Env'} (f : D → D) (p : D → Bool) (hk : keep env) (xs : List D) (hl : xs.length ≤ sizeLine)
    (h : ∀ x ∈ xs, ∀ R : Option D → Env' → Prop, R (if p x = true then some (f x) else none) env → g x env fun env1 => tt noX env1 fun b env2 => if b = true then te noX env2 fun y env3 => frzD env3 y fun d' env4 => R (some d') (wipeE env4 vs) else R none (wipeE env2 vs))
    (hQ : ∀ a, Q (.lst a ((xs.filter p).map f)) env) : lcD g tt te vs keep Q xs [] env := by
  have := lc_filter (g := g) (tt := tt) (te := te) (vs := vs) (keep := keep) (Q := Q) (fun d : D => d) f p hk xs hl h hQ
  rwa [List.map_id'] at this
theorem lfil {ds : List D} {S : List Nat} (hl : ds.length = S.length) (hi : ∀ d ∈ ds, D.isInt d = true) : ((ds.zip S).filter fun p => !inB p.1 p.2).length = 0 ↔ ∃ f : List Nat, ds = nD f ∧ FitF S f := by
  rw [← fit_zip hl, List.length_eq_zero_iff, List.filter_eq_nil_iff, List.all_eq_true]
  simp
theorem m_law_is_filling : Meets t_law_is_filling 2 2 sp_law_is_filling := by
  rintro args Qd Xd ⟨S, d, k, rfl, h24, hp, hQ⟩
  have nv := pl_noVal k d hp
  show t_law_is_filling _ _ [_, _, .un, .un]
  unfold t_law_is_filling
  cases d with
  | val _ => cases k <;> simp [D.pl] at hp
  | fz _ => cases k <;> simp [D.pl] at hp
  | tk _ => cases k <;> simp [D.pl] at hp
  | exc _ => cases k <;> simp [D.pl] at hp
  | glo _ => cases k <;> simp [D.pl] at hp
  | tup ds =>
    cases k with
    | zero => simp [D.pl] at hp
    | succ k =>
      rw [D.pl, Bool.and_eq_true, List.all_eq_true, decide_eq_true_eq] at hp
      trivial
      simp only [nv, D.isFz, true_and, Bool.not_true, Bool.false_eq_true, if_false]
      rw [nD_len]
      by_cases hl : ds.length = S.length
      · rw [if_neg (by simp; omega)]
        unfold k3_law_is_filling
        trivial
        refine lc_filterD (fun _ => .int 1) (fun d => !D.isInt d) True.intro ds (Nat.le_trans (by omega : _ ≤ 100) (by decide)) (fun d hd R hR => ?_) fun b => ?_
        · unfold e1_law_is_filling
          trivial
          refine ⟨d, k, rfl, hp.2 d hd, fun fin => ?_⟩
          trivial
          exact R_if (by cases D.isInt d <;> simp) hR
        trivial
        rw [List.length_map]
        by_cases hi : ∀ d ∈ ds, D.isInt d = true
        · have e0 : (ds.filter fun d => !D.isInt d) = [] := by
            rw [List.filter_eq_nil_iff]
            intro d hd
            simp [hi d hd]
          rw [e0, if_neg (by decide), zip_sz]
          refine lc_filter (fun p : D × Nat => D.tk [p.1, .int (p.2 : Nat)]) (fun _ => .int 1) (fun p => !inB p.1 p.2) True.intro (ds.zip S) (Nat.le_trans (by rw [List.length_zip]; omega : _ ≤ 100) (by decide)) (fun p hpz R hR => ?_) fun b => ?_
          · have hpi := hi p.1 (List.of_mem_zip hpz).1
            obtain ⟨d, z⟩ := p
            cases d with
            | int i =>
              unfold e2_law_is_filling
              trivial
              have e : (!inB (.int i) z) = (decide (i < 0) || decide ((z : Int) ≤ i)) := by
                by_cases h1 : 0 ≤ i <;> by_cases h2 : i < (z : Int) <;> simp [inB, h1, h2] <;> omega
              rw [show (!inB (D.int i, z).1 (D.int i, z).2) = _ from e] at hR
              by_cases h1 : i < 0
              · rw [if_pos h1]
                simpa [h1] using hR
              · rw [if_neg h1]
                by_cases h2 : (z : Int) ≤ i
                · rw [if_pos h2]
                  simpa [h1, h2] using hR
                · rw [if_neg h2]
                  simpa [h1, h2] using hR
            | _ => simp [D.isInt] at hpi
          trivial
          rw [List.length_map]
          refine hQ _ _ ?_
          rw [beq_iff_eq, Int.natCast_eq_zero, lfil hl hi]
          exact ⟨fun ⟨f, e, h⟩ => ⟨f, by rw [e], h⟩, fun ⟨f, e, h⟩ => ⟨f, D.tup.inj e, h⟩⟩
        · rw [if_pos]
          · refine hQ _ _ ⟨fun z => by simp at z, ?_⟩
            rintro ⟨f, e, hf⟩
            have e := D.tup.inj e
            subst e
            exact absurd (fun d hd => by obtain ⟨n, _, rfl⟩ := List.mem_map.1 hd; rfl) hi
          · have : (ds.filter fun d => !D.isInt d) ≠ [] := by
              intro z
              rw [List.filter_eq_nil_iff] at z
              exact hi fun d hd => by simpa using z d hd
            have := List.length_pos_iff.2 this
            omega
      · rw [if_pos (by simp; omega)]
        refine hQ _ _ ⟨fun z => by simp at z, ?_⟩
        rintro ⟨f, e, hf⟩
        have e := D.tup.inj e
        subst e
        rw [nD_len] at hl
        exact absurd hf.1 hl
  | _ =>
    trivial
    simp only [nv, D.isFz, true_and, Bool.not_false, if_true]
    exact hQ _ _ ⟨fun z => by simp at z, fun ⟨_, e, _⟩ => by simp at e⟩
def sp_worth_of : DSpec := fun args Q X => ∃ (w : Wd) (S : List Nat) (ps : List Part) (d : D) (k : Nat), args = [dW w, .ext (dSh S ps), .ext d] ∧ ShOk S ps ∧ D.pl k d = true ∧
  ((¬ IsFill S d ∧ ∀ fin, X "NoFilling" fin) ∨ ∃ f : List Nat, d = .tup (nD f) ∧ FitF S f ∧ ∀ fin, Q (dI (jAll w S ps fun n => f.getD n 0)) fin)
def t_worth_of : DTS :=
    (sSeq (sIf (dNot (dTest (dCall sp_is_filling (dCons (dOp fIx (dVar 1) (dC (.int 0))) (dCons (dVar 2) dNil))))) (sRaise "NoFilling") sNext)
    (sRet (dCall sp_joined_at (dCons (dVar 0) (dCons (dVar 1) (dCons (dVar 2) dNil))))))
theorem m_worth_of : Meets t_worth_of 3 0 sp_worth_of := by
  rintro args Qd Xd ⟨w, S, ps, d, k, rfl, hs, hp, hd⟩
  show t_worth_of _ _ [_, _, _]
  unfold t_worth_of
  trivial
  refine ⟨S, d, k, rfl, hs.sz.few, hp, fun b fin hb => ?_⟩
  trivial
  rcases hd with ⟨hn, hX⟩ | ⟨f, rfl, hf, hQ⟩
  · have : b = false := by
      cases b with
      | false => rfl
      | true => exact absurd (hb.1 rfl) hn
    subst this
    trivial
    exact hX _
  · have : b = true := hb.2 ⟨f, rfl, hf⟩
    subst this
    trivial
    refine ⟨w, S, ps, f, rfl, hs, hf, fun fin => ?_⟩
    trivial
    exact hQ _
def sp_law_bent : DSpec := fun args Q _ => ∃ (n : Nat) (a : Addr) (ds : List D) (S f : List Nat), args = [.lst a ds, .ext (.tup (nD f)), dSz S] ∧ JarOk n ds ∧ n + 3 < 4294967296 ∧ SzOk S ∧ 0 < S.length ∧ FitF S f ∧
  ∀ d ds' fin, NoF S d → JarOk (n + 4) ds' → Q (.ext d) (.lst a ds' :: fin)
def t_law_bent : DTS :=
    (sSeq (sSetE 3 (dCallJ sp_law_dip 0 (dCons (dC (.int 3)) dNil)))
    (sSeq (sSetE 4 (dCallJ sp_law_dip 0 (dCons (dCB fLen (dCons (dVar 1) dNil)) dNil)))
    (sSeq (sSetE 5 (dOp fIx (dLst (dCons (dOp fIx (dVar 2) (dVar 4)) (dCons (dNeg (dC (.int 1))) (dCons (dC (.bl true)) (dCons (dC (.bl false)) (dCons (dC .non) (dCons (dC (.str (Str.ofString "0"))) (dCons (dTup (dCons (dC (.int 0)) dNil)) (dCons (dLst (dCons (dC (.int 0)) dNil)) (dCons (dOp fPow (dC (.int 10)) (dC (.int 39))) dNil)))))))))) (dCallJ sp_law_dip 0 (dCons (dC (.int 9)) dNil))))
    (sSeq (sIf (dTest (dOp fEq (dVar 3) (dC (.int 0)))) (sRet (dOp fAdd (dOp fAdd (dSl (dVar 1) dNoPart (dPart (dVar 4))) (dTup (dCons (dVar 5) dNil))) (dSl (dVar 1) (dPart (dOp fAdd (dVar 4) (dC (.int 1)))) dNoPart))) sNext)
    (sRet (dOp fIx (dLst (dCons (dCB fList (dCons (dVar 1) dNil)) (dCons (dOp fAdd (dVar 1) (dTup (dCons (dC (.int 0)) dNil))) (dCons (dSl (dVar 1) dNoPart (dPart (dNeg (dC (.int 1))))) (dCons (dC .non) (dCons (dC (.int 5)) (dCons (dTup (dCons (dVar 1) dNil)) (dCons (dC (.str (Str.ofString "0"))) dNil)))))))) (dCallJ sp_law_dip 0 (dCons (dC (.int 7)) dNil))))))))
theorem m_law_bent : Meets t_law_bent 3 3 sp_law_bent := by
  rintro args Qd Xd ⟨n, a, ds, S, f, rfl, hj, hn, hS, hS1, hf, hQ⟩
  show t_law_bent _ _ [_, _, _, .un, .un, .un]
  unfold t_law_bent
  trivial
  have h24 := hS.few
  obtain ⟨hfl, hfs⟩ := fit_small hS hf
  have hfl' := hf.1
  refine ⟨n, a, ds, 3, rfl, hj, by omega, by decide, by decide, fun way ds1 fin r0 r1 hj1 => ?_⟩
  trivial
  rw [nD_len]
  refine ⟨n + 1, a, ds1, f.length, rfl, hj1, by omega, by omega, by omega, fun at' ds2 fin r0 r1 hj2 => ?_⟩
  obtain ⟨at', rfl⟩ := Int.eq_ofNat_of_zero_le r0
  have hat : at' < S.length := by omega
  trivial
  have hz := hS.pos _ (sz_mem hat)
  have hz4 := hS.small _ (sz_mem hat)
  refine ⟨_, atN (sz_at hat), ?_⟩
  trivial
  refine ⟨by decide, by decide, ⟨by decide, by decide, by decide⟩, by decide, fun a4 => ⟨n + 1 + 1, a, ds2, 9, rfl, hj2, by omega, by decide, by decide, fun o ds3 fin o0 o1 hj3 => ?_⟩⟩
  trivial
  obtain ⟨od, hod, hok⟩ : ∃ od, atI [D.int (sz S at' : Nat), D.int (-1), D.bl true, D.bl false, D.non, D.str (Str.ofString "0"), D.tup [D.int 0], D.lst [D.int 0], D.int (10 ^ Int.toNat 39)] o = some od ∧ OddOk (sz S at') od := by
    have h : o = 0 ∨ o = 1 ∨ o = 2 ∨ o = 3 ∨ o = 4 ∨ o = 5 ∨ o = 6 ∨ o = 7 ∨ o = 8 := by omega
    rcases h with rfl | rfl | rfl | rfl | rfl | rfl | rfl | rfl | rfl
    · exact ⟨_, rfl, rfl, sv_nat (by omega), Nat.zero_le _, fun v hv e => by have := D.int.inj e; omega⟩
    · exact ⟨_, rfl, rfl, by decide, by decide, fun v hv e => by have := D.int.inj e; omega⟩
    · exact ⟨_, rfl, rfl, rfl, by decide, fun v hv e => by cases e⟩
    · exact ⟨_, rfl, rfl, rfl, by decide, fun v hv e => by cases e⟩
    · exact ⟨_, rfl, rfl, rfl, by decide, fun v hv e => by cases e⟩
    · exact ⟨_, rfl, rfl, by decide +kernel, by decide +kernel, fun v hv e => by cases e⟩
    · exact ⟨_, rfl, rfl, by decide, by decide, fun v hv e => by cases e⟩
    · exact ⟨_, rfl, rfl, by decide, by decide, fun v hv e => by cases e⟩
    · exact ⟨_, rfl, rfl, by decide +kernel, by decide, fun v hv e => by
        have e := D.int.inj e
        have : (10 : Int) ^ Int.toNat 39 > 4 := by decide
        omega⟩
  refine ⟨od, hod, ?_⟩
  trivial
  have c1 : cutD (nD f) none (some ((at' : Nat) : Int)) = nD (f.take at') := by
    rw [cut_take _ at' (by rw [nD_len]; omega)]
    exact List.map_take.symm
  have c2 : cutD (nD f) (some (((at' : Nat) : Int) + 1)) none = nD (f.drop (at' + 1)) := by
    rw [show ((at' : Nat) : Int) + 1 = ((at' + 1 : Nat) : Int) from rfl, cut_drop _ (at' + 1) (by rw [nD_len]; omega)]
    exact List.map_drop.symm
  have c3 : cutD (nD f) none (some (-1)) = nD (f.take (f.length - 1)) := by
    unfold cutD
    have e1 : HT.sIx (nD f).length 0 none = 0 := rfl
    have e2 : HT.sIx (nD f).length (nD f).length (some (-1)) = f.length - 1 := by
      rw [nD_len]
      show (if (-1 : Int) < 0 then ((-1 : Int) + (f.length : Int)).toNat else min (-1 : Int).toNat f.length) = _
      rw [if_pos (by decide)]
      omega
    rw [e1, e2, List.drop_zero, Nat.sub_zero]
    exact List.map_take.symm
  by_cases hw : way = 0
  · rw [if_pos (by simp [hw]), c1, c2]
    refine ⟨by decide, Nat.le_trans (by rw [nD_len, List.length_take]; omega : _ ≤ 100) (by decide), Nat.le_trans (by rw [List.length_append, nD_len, nD_len, List.length_take, List.length_drop, List.length_singleton]; omega : _ ≤ 100) (by decide), ?_⟩
    exact hQ _ _ _ (nof_bent hS hf hat hok) (hj3.up (by omega))
  · rw [if_neg (by simp [hw]), c3]
    refine ⟨by decide, Nat.le_trans (by rw [nD_len]; omega : _ ≤ 100) (by decide), by decide, by decide, fun a5 => ⟨n + 1 + 1 + 1, a, ds3, 7, rfl, hj3, by omega, by decide, by decide, fun o2 ds4 fin p0 p1 hj4 => ?_⟩⟩
    trivial
    have notT : ∀ d : D, (∀ ds, d ≠ .tup ds) → ¬ IsFill S d := fun d h ⟨g, e, _⟩ => h _ e
    have h : o2 = 0 ∨ o2 = 1 ∨ o2 = 2 ∨ o2 = 3 ∨ o2 = 4 ∨ o2 = 5 ∨ o2 = 6 := by omega
    suffices hh : ∃ d, atI [D.lst (nD f), D.tup (nD f ++ [D.int 0]), D.tup (nD (f.take (f.length - 1))), D.non, D.int 5, D.tup [D.tup (nD f)], D.str (Str.ofString "0")] o2 = some d ∧ NoF S d by
      obtain ⟨d, hd, nf⟩ := hh
      refine ⟨d, hd, ?_⟩
      trivial
      exact hQ _ _ _ nf hj4
    rcases h with rfl | rfl | rfl | rfl | rfl | rfl | rfl
    · refine ⟨_, rfl, ?_⟩
      exact ⟨by simp only [D.pl, pl_nats, nD_len]; simp; omega, sh_of (k := 3) (by decide) (sv_nD hfs) (by show PyData.bulkAll (D.pys _) ≤ 8000; rw [bulks_nD]; omega), notT _ fun _ z => by cases z⟩
    · refine ⟨_, rfl, ?_⟩
      exact ⟨by rw [D.pl, Bool.and_eq_true, decide_eq_true_eq, List.all_append, Bool.and_eq_true]; exact ⟨by simp; omega, pl_nats _ _, rfl⟩, sh_of (k := 3) (by decide) (by rw [D.sv, List.all_append, Bool.and_eq_true]; exact ⟨sv_nD hfs, by decide⟩) (by show PyData.bulkAll (D.pys _) ≤ 8000; rw [bulks_app, bulks_nD]; simp only [D.pys, PyData.bulkAll, D.py, PyData.bulk]; omega), not_len (by simp; omega)⟩
    · refine ⟨_, rfl, ?_⟩
      exact ⟨by simp only [D.pl, pl_nats, nD_len]; simp; omega, sh_of (k := 3) (by decide) (sv_nD fun n hn => hfs n (List.mem_of_mem_take hn)) (by show PyData.bulkAll (D.pys _) ≤ 8000; rw [bulks_nD, List.length_take]; omega), not_len (by simp; omega)⟩
    · refine ⟨_, rfl, ?_⟩
      exact ⟨rfl, sh_of (k := 3) (by decide) rfl (by decide), notT _ fun _ z => by cases z⟩
    · refine ⟨_, rfl, ?_⟩
      exact ⟨rfl, sh_of (k := 3) (by decide) (by decide) (by decide), notT _ fun _ z => by cases z⟩
    · refine ⟨_, rfl, ?_⟩
      refine ⟨?_, sh_of (k := 3) (by decide) (by rw [D.sv, List.all_cons, Bool.and_eq_true]; exact ⟨sv_nD hfs, rfl⟩) (by show PyData.bulkAll (D.pys _) ≤ 8000; simp only [D.pys, PyData.bulkAll, D.py, PyData.bulk]; rw [bulks_nD]; omega), ?_⟩
      · rw [D.pl, Bool.and_eq_true, decide_eq_true_eq, List.all_cons, Bool.and_eq_true, D.pl, Bool.and_eq_true, decide_eq_true_eq, nD_len]
        exact ⟨by simp, ⟨by omega, pl_nats _ _⟩, rfl⟩
      · rintro ⟨g, e, hg⟩
        have e := D.tup.inj e
        cases g with
        | nil => simp at e
        | cons x g => rw [nD_cons] at e; cases (List.cons.inj e).1
    · refine ⟨_, rfl, ?_⟩
      exact ⟨rfl, sh_of (k := 3) (by decide) (by decide +kernel) (by decide +kernel), notT _ fun _ z => by cases z⟩
def cs02 : List Str := ["NoFilling"]
def FT02 : FTab := fun nm => if nm = "worth_of" then some (3, sp_worth_of) else none
def k1_law : DTS :=
    (sIf (dTest (dOp fNe (dCall sp_worth_of (dCons (dVar 3) (dCons (dTup (dCons (dVar 5) (dCons (dStep (dVar 6) (dPart (dNeg (dC (.int 1))))) dNil))) (dCons (dVar 9) dNil)))) (dVar 10))) (sRet (dC (.bl false))) sNext)
def b2_law : DTS :=
    (sSeq (sSetE 10 (dCall sp_worth_of (dCons (dVar 3) (dCons (dVar 4) (dCons (dVar 9) dNil)))))
    (sSeq (sIf (dOr (dNot (dTest (dCall sp_law_whole_number (dCons (dVar 10) dNil)))) (dTest (dOp fNe (dVar 10) (dCall sp_law_due (dCons (dVar 3) (dCons (dVar 4) (dCons (dVar 9) dNil))))))) (sRet (dC (.bl false))) sNext)
    k1_law))
def k3_law : DTS :=
    (sIf (dTest (dOp fNe (dCB fRepr (dCons (dVar 12) dNil)) (dVar 13))) (sRet (dC (.bl false))) sNext)
def b4_law : DTS :=
    (sSeq (sSetE 12 (dCallJ sp_law_bent 1 (dCons (dOp fIx (dVar 7) (dCallJ sp_law_dip 1 (dCons (dCB fLen (dCons (dVar 7) dNil)) dNil))) (dCons (dVar 5) dNil))))
    (sSeq (sSetE 13 (dCB fRepr (dCons (dVar 12) dNil)))
    (sSeq (sIf (dAnd (dNot (dTest (dCall sp_law_is_filling (dCons (dVar 12) (dCons (dVar 5) dNil))))) (dTest (dOp fNe (dCall (sp_law_refused FT02 cs02) (dCons (dC (.glo "worth_of")) (dCons (dTup (dCons (dVar 3) (dCons (dVar 4) (dCons (dVar 12) dNil)))) dNil))) (dC (.str (Str.ofString "filling")))))) (sRet (dC (.bl false))) sNext)
    k3_law)))
def k5_law : DTS :=
    (sFor (dRange1 (dCons (dC (.int 6)) dNil)) (gSet 11) b4_law)
def b6_law : DTS :=
    (sSeq (sSetE 3 (dCallJ sp_law_word 1 dNil))
    (sSeq (sSetE 4 (dCallJ sp_law_sheet 1 (dCons (dVar 3) (dCons (dC (.int 6)) (dCons (dC (.int 300)) (dCons (dC (.int 6)) dNil))))))
    (sSeq (sAsg (dVar 4) (gTupD 2 (gsCons (gSet 5) (gsCons (gSet 6) gsNil))))
    (sSeq (sSetE 7 (dCall sp_law_fillings (dCons (dVar 5) (dCons (dLstRg (dRg1 (dCB fLen (dCons (dVar 5) dNil)))) dNil))))
    (sSeq (sSetE 8 (dOp fAdd (dC (.int 1)) (dOp fDiv (dCB fLen (dCons (dVar 7) dNil)) (dC (.int 40)))))
    (sSeq (sFor (dSeq (dStep (dVar 7) (dPart (dVar 8)))) (gSet 9) b2_law)
    k5_law))))))
def k7_law : DTS :=
    (sRet (dC (.bl true)))
def t_law : DTS :=
    (sSeq (sSet 1 (dCall sp_law_jar (dCons (dVar 0) dNil)))
    (sSeq (sFor (dRange1 (dCons (dC (.int 4)) dNil)) (gSet 2) b6_law)
    k7_law))
theorem jAll_rev {w : Wd} {S : List Nat} {ps : List Part} {g : Nat → Nat} : jAll w S ps.reverse g = jAll w S ps g := by
  have key : ∀ (l : List Int) (acc : Int), l.foldl (jn w) acc = l.foldr (jn w) acc := by
    intro l
    induction l with
    | nil => intro acc; rfl
    | cons x l ih =>
      intro acc
      rw [List.foldl_cons, ih, List.foldr_cons]
      clear ih
      induction l with
      | nil => exact jn_comm w acc x
      | cons y l ih =>
        rw [List.foldr_cons, List.foldr_cons, ih, ← jn_assoc, ← jn_assoc, jn_comm w y x]
  have e : ∀ (l : List Part) (acc : Int), l.foldl (fun acc p => jn w acc (val S p g)) acc = (l.map fun p => val S p g).foldl (jn w) acc := by
    intro l
    induction l with
    | nil => intro acc; rfl
    | cons x l ih => intro acc; exact ih _
  unfold jAll
  rw [e, e, List.map_reverse, List.foldl_reverse, key]
  congr 1
  funext a b
  exact jn_comm w b a
theorem stepL_map {α β : Type} (g : α → β) (l : List α) (c : Int) : stepL (l.map g) c = (stepL l c).map g := by
  unfold stepL
  rw [List.length_map, List.map_filterMap]
  congr 1
  funext i
  rw [List.getElem?_map]
theorem stepL_mem {α : Type} {l : List α} {c : Int} {x : α} (h : x ∈ stepL l c) : x ∈ l := by
  unfold stepL at h
  obtain ⟨i, _, e⟩ := List.mem_filterMap.1 h
  exact List.mem_of_getElem? e
theorem allF_pos {S : List Nat} (hS : SzOk S) : 0 < (allF S).length := by
  unfold allF
  rw [len_fills, psz_all]
  exact prodN_pos hS.pos
theorem pl_fit {S f : List Nat} (hS : SzOk S) (hf : FitF S f) : D.pl 3 (.tup (nD f)) = true := by
  have h24 := hS.few
  rw [D.pl, Bool.and_eq_true, decide_eq_true_eq, nD_len, hf.1]
  exact ⟨by omega, pl_nats _ _⟩
theorem m_law : Meets t_law 1 13 (lawSpec 63) := by
  rintro args Qd Xd ⟨ns, rfl, hl, hQ⟩
  show t_law _ _ [_, .un, .un, .un, .un, .un, .un, .un, .un, .un, .un, .un, .un, .un]
  unfold t_law
  trivial
  refine ⟨ns, rfl, hl, fun a ds fin hj => ?_⟩
  trivial
  refine ⟨⟨by decide, by decide⟩, ?_⟩
  have er : rgD 0 4 = nD (List.range 4) := rgD_nat 4
  rw [er]
  refine for_ind (fun i : Nat => D.int (i : Nat)) (fun is env => ∃ (n : Nat) (ds : List D) (u2 u3 u4 u5 u6 u7 u8 u9 u10 u11 u12 u13 : Sl), env = [.ext (.fz (ns.map D.int)), .lst a ds, u2, u3, u4, u5, u6, u7, u8, u9, u10, u11, u12, u13] ∧ JarOk n ds ∧ n + is.length * 800000 < 4294967296) ?_ ?_ (List.range 4) _ ⟨0, ds, _, _, _, _, _, _, _, _, _, _, _, _, rfl, hj, by decide⟩
  · rintro env ⟨n, ds, u2, u3, u4, u5, u6, u7, u8, u9, u10, u11, u12, u13, rfl, _⟩
    refine ⟨True.intro, ?_⟩
    unfold k7_law
    trivial
    exact hQ _
  rintro k is env N ⟨n, ds, u2, u3, u4, u5, u6, u7, u8, u9, u10, u11, u12, u13, rfl, hj, hn⟩ hN
  rw [List.length_cons] at hn
  refine ⟨True.intro, ?_⟩
  unfold b6_law
  trivial
  refine ⟨n, a, ds, rfl, hj, by omega, fun w ds1 fin hj1 => ?_⟩
  trivial
  refine ⟨n + 1, a, ds1, w, 6, 300, 6, rfl, hj1, by omega, by decide, by decide, by decide, by decide, by decide, fun S ps ds2 fin hS hS1 hS6 hSr hps hpl hp3 hj2 => ?_⟩
  trivial
  have hs : ShO4 S ps := hps.sh hS hS1 (by omega)
  have er2 : rgD 0 ((nD S).length : Int) = nD (List.range S.length) := by rw [nD_len]; exact rgD_nat _
  refine ⟨by rw [nD_len]; exact ⟨by omega, by omega⟩, fun a7 => ?_⟩
  rw [er2]
  refine ⟨S, List.range S.length, fArgs_tl, fun n hn => ⟨List.mem_range.1 hn, hS.pos _ (sz_mem (List.mem_range.1 hn))⟩, by rw [psz_all]; exact hS.prod, by rw [List.length_range]; omega, fun fin => ?_⟩
  trivial
  have hal := allF_len hS
  rw [show (fD (fills S (List.range S.length))).length = (allF S).length by rw [fD, List.length_map]; rfl]
  refine ⟨?_, by omega, ?_⟩
  · exact ⟨by decide, by decide⟩
  rw [show stepL (fD (fills S (List.range S.length))) (1 + ((allF S).length : Int) / 40) = (stepL (allF S) (1 + ((allF S).length : Int) / 40)).map (fun f => D.tup (nD f)) from stepL_map _ _ _]
  refine for_ind (fun f : List Nat => D.tup (nD f)) (fun fs env => ∃ (u9 u10 : Sl), env = [.ext (.fz (ns.map D.int)), .lst a ds2, .ext (.int (k : Nat)), dW w, .ext (dSh S ps), dSz S, .ext (dPs ps), .ext (.lst (fD (allF S))), dI (1 + ((allF S).length : Int) / 40), u9, u10, u11, u12, u13] ∧ ∀ f ∈ fs, FitF S f) ?_ ?_ _ _ ⟨_, _, rfl, fun f hf => allF_fit (stepL_mem hf)⟩
  rotate_left
  · rintro f fs env N1 ⟨u9, u10, rfl, hfs⟩ hN1
    have hf := hfs f List.mem_cons_self
    refine ⟨True.intro, ?_⟩
    unfold b2_law
    trivial
    refine ⟨w, S, ps, _, 3, rfl, hs, pl_fit hS hf, .inr ⟨f, rfl, hf, fun fin => ?_⟩⟩
    trivial
    refine ⟨.int _, 1, rfl, rfl, fun fin => ?_⟩
    trivial
    rw [if_neg (by simp [D.isInt])]
    refine ⟨w, S, ps, f, rfl, hs, hf, fun fin => ?_⟩
    trivial
    rw [if_neg (by simp)]
    unfold k1_law
    trivial
    refine ⟨by decide, w, S, ps.reverse, .tup (nD f), 3, by unfold dSh dPs; rw [List.map_reverse], (ShO4.mk4 hS hS1 (fun p hp => hs.ok p (List.mem_reverse.1 hp)) (fun p hp => hs.b4 p (List.mem_reverse.1 hp)) (by rw [List.length_reverse]; omega)).toShOk, pl_fit hS hf, .inr ⟨f, rfl, hf, fun fin => ?_⟩⟩
    rw [jAll_rev]
    trivial
    rw [if_neg (by simp)]
    exact hN1 _ ⟨_, _, rfl, fun g hg => hfs g (List.mem_cons_of_mem _ hg)⟩
  rintro env ⟨u9, u10, rfl, _⟩
  refine ⟨True.intro, ?_⟩
  unfold k5_law
  trivial
  refine ⟨⟨by decide, by decide⟩, ?_⟩
  have er6 : rgD 0 6 = nD (List.range 6) := rgD_nat 6
  rw [er6]
  refine for_ind (fun i : Nat => D.int (i : Nat)) (fun is env => ∃ (m : Nat) (ds : List D) (u11 u12 u13 : Sl), env = [.ext (.fz (ns.map D.int)), .lst a ds, .ext (.int (k : Nat)), dW w, .ext (dSh S ps), dSz S, .ext (dPs ps), .ext (.lst (fD (allF S))), dI (1 + ((allF S).length : Int) / 40), u9, u10, u11, u12, u13] ∧ JarOk m ds ∧ m + is.length * 5 ≤ n + 700031) ?_ ?_ (List.range 6) _ ⟨n + 1 + 700000, ds2, _, _, _, rfl, hj2, by simp⟩
  · rintro env ⟨m, ds3, u11, u12, u13, rfl, hj3, hm⟩
    exact ⟨True.intro, hN _ ⟨m, ds3, _, _, _, _, _, _, _, _, _, _, _, _, rfl, hj3, by simp at hm; omega⟩⟩
  rintro j is env N2 ⟨m, ds3, u11, u12, u13, rfl, hj3, hm⟩ hN2
  rw [List.length_cons] at hm
  refine ⟨True.intro, ?_⟩
  unfold b4_law
  trivial
  rw [show (fD (allF S)).length = (allF S).length by rw [fD, List.length_map]]
  have hlp : 0 < (allF S).length := allF_pos hS
  refine ⟨m, a, ds3, (allF S).length, rfl, hj3, by omega, by omega, by omega, fun r ds4 fin r0 r1 hj4 => ?_⟩
  obtain ⟨r, rfl⟩ := Int.eq_ofNat_of_zero_le r0
  obtain ⟨f, hf0⟩ : ∃ f, (allF S)[r]? = some f := ⟨_, List.getElem?_eq_getElem (by omega)⟩
  have hf := allF_fit (List.mem_of_getElem? hf0)
  have hf1 : (fD (allF S))[r]? = some (.tup (nD f)) := by rw [fD, List.getElem?_map, hf0]; rfl
  trivial
  refine ⟨_, atN hf1, ?_⟩
  trivial
  refine ⟨m + 1, a, ds4, S, f, rfl, hj4, by omega, hS, hS1, hf, fun d ds5 fin nf hj5 => ?_⟩
  trivial
  refine ⟨nf.sh, ?_⟩
  trivial
  refine ⟨S, d, 3, rfl, hS.few, nf.pl, fun b fin hb => ?_⟩
  have hb0 : b = false := by
    cases b with
    | false => rfl
    | true => exact absurd (hb.1 rfl) nf.no
  subst hb0
  trivial
  refine ⟨by decide, "worth_of", 3, sp_worth_of, _, rfl, rfl, by simp, by simp, .inl ⟨"NoFilling", by decide, by decide, fun Q' X' h => ⟨w, S, ps, d, 3, rfl, hs, nf.pl, .inl ⟨nf.no, h⟩⟩, fun fin => ?_⟩⟩
  rw [xw_f]
  trivial
  rw [if_neg (by simp)]
  unfold k3_law
  trivial
  refine ⟨nf.sh, ?_⟩
  trivial
  rw [if_neg (by simp)]
  exact hN2 _ ⟨m + 1 + 4, ds5, _, _, _, rfl, hj5, by omega⟩
end K02
end LS

/-! HX10: tuple * int, any count -/
namespace HD
open PySem PySem.Spec PyProof.Rows L2
theorem tuple_mul1 (l : Addr) (items : Array Value) (n : Nat) (dd : Option Addr) (sl : Array (Option Value)) (x : Int) (u : PySem.Tok) (c0 : (decide (x < -(2 ^ 63)) || decide (x ≥ 2 ^ 63)) = false) (c1 : (items.isEmpty || x == 1) = true) :
    PySem.Meets (Builtin.«tuple.__mul__» ⟨[.ref l, .int x u], []⟩) (fun _ R s => s.heap.get? l = some { cls := .type "tuple", dict := dd, data := .seq items n, slots := sl } ∧ R (.ok (.ret (Value.ref l))) s) :=
  .of_wp fun prog w A R s h => by
    obtain ⟨hp, g, d, tk, os⟩ := s
    obtain ⟨hl, h⟩ := h
    have f1 := AutoSeq1.idx_int
    wp_walk using wpAny_loadPart' hl
    repeat (first
      | (refine wpAny_ite_false (decide_eq_false (by rw [c0]; exact Bool.false_ne_true)) ?_; wp_walk using wpAny_loadPart' hl)
      | (refine wpAny_ite_true (decide_eq_true (by rw [c1])) ?_; wp_walk using wpAny_loadPart' hl))
    exact ⟨_, rfl, h⟩
theorem tuple_mul0 (l : Addr) (items : Array Value) (n : Nat) (dd : Option Addr) (sl : Array (Option Value)) (x : Int) (u : PySem.Tok) (c0 : (decide (x < -(2 ^ 63)) || decide (x ≥ 2 ^ 63)) = false) (c1 : (items.isEmpty || x == 1) = false) (c2 : (decide (x ≤ 0) || items.isEmpty) = true) :
    PySem.Meets (Builtin.«tuple.__mul__» ⟨[.ref l, .int x u], []⟩) (fun _ R s => s.heap.get? l = some { cls := .type "tuple", dict := dd, data := .seq items n, slots := sl } ∧
      R (.ok (.ret (Value.ref s.heap.objs.size))) { s with heap := s.heap.push { cls := Value.type "tuple", data := Data.seq #[] }, toks := s.toks }) :=
  .of_wp fun prog w A R s h => by
    obtain ⟨hp, g, d, tk, os⟩ := s
    obtain ⟨hl, h⟩ := h
    have f1 := AutoSeq1.idx_int
    wp_walk using wpAny_loadPart' hl
    repeat (first
      | (refine wpAny_ite_false (decide_eq_false (by rw [c0]; exact Bool.false_ne_true)) ?_; wp_walk using wpAny_loadPart' hl)
      | (refine wpAny_ite_false (decide_eq_false (by rw [c1]; exact Bool.false_ne_true)) ?_; wp_walk using wpAny_loadPart' hl)
      | (refine wpAny_ite_true (decide_eq_true (by rw [c2])) ?_; wp_walk using wpAny_loadPart' hl))
    exact ⟨_, rfl, h⟩
/-- t * n -/
def rRepF (K : PySem.W.Frag) : R2 := fun x y H Q => ∃ l k xs, x = .ref l ∧ y = .int k ∧ SqT K H l xs ∧ 0 ≤ k ∧ k < 2 ^ 63 ∧ xs.length * k.toNat ≤ sizeLine ∧ (xs = [] ∨ k = 1 → Q (.ref l) H) ∧ (xs ≠ [] → k ≠ 1 → newT H (List.replicate k.toNat xs).flatten Q)
section
variable {X : Cx}
theorem op_repF : OpR X (binaryOp .Mult) (rRepF X.K) := by
  intro pins s σ H x y v u Q I rx ry h
  obtain ⟨l, k, xs, rfl, rfl, hT, h1, h2, hz, q1, q2⟩ := h
  cases rx
  obtain ⟨t, rfl⟩ := ry
  obtain ⟨its, r, ⟨⟨cls, dd, data, sl⟩, ho, hc, n, hd⟩, hs⟩ := I.tuple hT
  simp only at hc hd
  subst hc hd
  have hle : its.length = xs.length := r.length.symm
  have c0 : (decide (k < -(2 ^ 63)) || decide (k ≥ 2 ^ 63)) = false := by
    rw [decide_eq_false (by omega), decide_eq_false (by omega)] <;> rfl
  have hx : its.toArray.isEmpty = true ↔ xs = [] := by
    cases its with
    | nil => exact ⟨fun _ => List.eq_nil_of_length_eq_zero hle.symm, fun _ => rfl⟩
    | cons a b => exact ⟨fun z => by simp at z, fun z => by rw [z] at hle; simp at hle⟩
  refine wpAny_binaryOp_repeat_ref (T := "tuple") (U := "int") (by decide) ⟨_, ho, rfl⟩ (fun s' => typeIs_int s' k t) noFill_tuple_mul F.fills_int_mul F.slot_int_rmul repeat_tuple F.slot_int_index.lookup
    (call_meets F.slot_int_rmul (typeIs_int s k t) F.entry_int_rmul (F.args_int_rmul_2 _ _) (int_rmul_tuple k t l its.toArray n dd sl)
      ⟨ho, rfl, ⟨_, ho, rfl⟩, ?_⟩)
  by_cases c1 : (its.toArray.isEmpty || k == 1) = true
  · refine call_meets F.slot_tuple_mul ⟨_, ho, rfl⟩ F.entry_tuple_mul (F.args_tuple_mul_2 _ _) (tuple_mul1 l its.toArray n dd sl k t c0 c1) ⟨ho, ?_⟩
    refine ⟨.ref l, H, I, rfl, q1 ?_⟩
    rw [Bool.or_eq_true, hx, beq_iff_eq] at c1
    exact c1
  · have c1f : (its.toArray.isEmpty || k == 1) = false := by simpa using c1
    have hn : xs ≠ [] := fun z => c1 (by rw [Bool.or_eq_true, hx]; exact .inl z)
    have hk1 : k ≠ 1 := fun z => c1 (by rw [Bool.or_eq_true, beq_iff_eq]; exact .inr z)
    have hi : its.toArray.isEmpty = false := by
      cases e : its.toArray.isEmpty with
      | false => rfl
      | true => exact absurd (hx.1 e) hn
    have flen : (List.replicate k.toNat its).flatten.length ≤ sizeLine := by
      rw [PyProof.Rows.lm_len_rep_flat, hle, Nat.mul_comm]
      exact hz
    have flen2 : (List.replicate k.toNat xs).flatten.length ≤ sizeLine := by
      rw [PyProof.Rows.lm_len_rep_flat, Nat.mul_comm]
      exact hz
    by_cases hk0 : k = 0
    · subst hk0
      refine call_meets F.slot_tuple_mul ⟨_, ho, rfl⟩ F.entry_tuple_mul (F.args_tuple_mul_2 _ _) (tuple_mul0 l its.toArray n dd sl 0 t c0 c1f (by rw [Bool.or_eq_true]; exact .inl rfl)) ⟨ho, ?_⟩
      exact laidT (tk := s.toks) (its := []) I .nil (Nat.zero_le _) (q2 hn (by decide))
    · have c2 : (decide (k ≤ 0) || its.toArray.isEmpty) = false := by
        rw [hi, Bool.or_false]
        exact decide_eq_false (by omega)
      have hm : ((its.toArray.size : Nat) : Int) * k = ((xs.length * k.toNat : Nat) : Int) := by
        rw [List.size_toArray, hle, Int.natCast_mul, Int.toNat_of_nonneg h1]
      have hsl : ((xs.length * k.toNat : Nat) : Int) ≤ sizeLine := by omega
      have c4 : Builtin.Tuple.tupleTooMany (((its.toArray.size : Nat) : Int) * k) = false := by
        unfold Builtin.Tuple.tupleTooMany
        exact decide_eq_false (by rw [hm]; omega)
      have c3 : ¬ ((its.toArray.size : Nat) : Int) * k > (2 ^ 63 - 1) / 8 := by
        rw [hm]
        rw [sizeLine_eq] at hsl
        omega
      refine call_meets F.slot_tuple_mul ⟨_, ho, rfl⟩ F.entry_tuple_mul (F.args_tuple_mul_2 _ _) (tuple_mulW l its.toArray n dd sl k t c0 c1f c2 c3 c4 (by rw [size_rep, List.size_toArray]; exact flen)) ⟨ho, ?_⟩
      rw [size_rep]
      exact laidT (tk := s.toks) I (r.rep k.toNat) flen2 (q2 hn hk1)
end
def fMulT : D → D → (Sl → Prop) → Prop
  | .tup xs, .int k, Q => 0 ≤ k ∧ k < 2 ^ 63 ∧ xs.length * k.toNat ≤ sizeLine ∧ Q (.ext (.tup (List.replicate k.toNat xs).flatten))
  | _, _, _ => False
theorem pr_mulT {K : PySem.W.Frag} : Pr2 K (rRepF K) fMulT := fun F H v u d d' Q R fh h1 h2 hf ha => by
  unfold fMulT at hf
  split at hf
  · rename_i xs k
    obtain ⟨a, vs, rfl, e1, e2, r1⟩ := h1.tup fh
    obtain ⟨k0, k1, kz, q⟩ := hf
    refine ⟨a, k, vs, rfl, h2.int, e1, k0, k1, by rw [← r1.length]; exact kz, fun z => ?_, fun _ _ => ha.tup fh (r1.rep _) q⟩
    refine ha.ext (d := .tup _) fh ⟨a, vs, rfl, e2, ?_⟩ q
    rcases z with z | z
    · subst z
      have : xs = [] := List.eq_nil_of_length_eq_zero r1.length
      subst this
      rw [show (List.replicate k.toNat ([] : List D)).flatten = [] by simp]
      exact rfl
    · subst z
      rw [show (List.replicate (Int.toNat 1) xs).flatten = xs by simp]
      exact r1
  · exact hf.elim
theorem de_mulT {G : GG} {N : List Str} {sc : SC} {k : Nat} {a b : Expr} {ta tb : DT} {pos : Pos} (ha : DE G N sc k a ta) (hb : DE G N sc k b tb) : DE G N sc k (.BinOp a .Mult b pos) (dOp fMulT ta tb) := de_bin (r := rRepF) (fun _ => pr_mulT) (fun _ => op_repF) ha hb
def fIsB : D → D → (Sl → Prop) → Prop
  | .bl i, .bl j, Q => Q (.ext (.bl (i == j)))
  | _, _, _ => False
def fNotB : D → D → (Sl → Prop) → Prop
  | .bl i, .bl j, Q => Q (.ext (.bl (!(i == j))))
  | _, _, _ => False
theorem op_isB {X : Cx} : OpR X (compareOp .Is) (fun x y H Q => ∃ i j, x = .bl i ∧ y = .bl j ∧ Q (.bl (i == j)) H) := by
  intro pins s σ H x y v u Q I rx ry h
  obtain ⟨i, j, rfl, rfl, q⟩ := h
  cases (show v = Value.bool i from rx)
  cases (show u = Value.bool j from ry)
  by_cases e : i = j
  · subst e
    exact wpAny_is_self rfl ⟨.bl true, H, I, rfl, by simpa using q⟩
  · exact wpAny_is_other rfl (fun z => e (Value.bool.inj z)) ⟨.bl false, H, I, rfl, by rw [show (i == j) = false from beq_eq_false_iff_ne.mpr e] at q; exact q⟩
theorem op_isNotB {X : Cx} : OpR X (compareOp .IsNot) (fun x y H Q => ∃ i j, x = .bl i ∧ y = .bl j ∧ Q (.bl (!(i == j))) H) := by
  intro pins s σ H x y v u Q I rx ry h
  obtain ⟨i, j, rfl, rfl, q⟩ := h
  cases (show v = Value.bool i from rx)
  cases (show u = Value.bool j from ry)
  by_cases e : i = j
  · subst e
    exact wpAny_isNot_self rfl ⟨.bl false, H, I, rfl, by simpa using q⟩
  · exact wpAny_isNot_other rfl (fun z => e (Value.bool.inj z)) ⟨.bl true, H, I, rfl, by rw [show (i == j) = false from beq_eq_false_iff_ne.mpr e] at q; exact q⟩
theorem c_isB : CmpR .Is fIsB := ⟨fun _ => _, fun K F H v u d d' Q R fh h1 h2 hf ha => by
    unfold fIsB at hf
    split at hf
    · exact ⟨_, _, h1.bl, h2.bl, ha.bl fh hf⟩
    · exact hf.elim, fun _ _ => op_isB⟩
theorem c_isnotB : CmpR .IsNot fNotB := ⟨fun _ => _, fun K F H v u d d' Q R fh h1 h2 hf ha => by
    unfold fNotB at hf
    split at hf
    · exact ⟨_, _, h1.bl, h2.bl, ha.bl fh hf⟩
    · exact hf.elim, fun _ _ => op_isNotB⟩
end HD

/-! HX11: a statement and what follows, without the record of ends (long lists are read faster) -/
namespace HD
open PySem L2
theorem seq_setE (i : Nat) (t : DT) (u : DTS) (Ex : DX) (E : DEnds) (env : Env') : sSeq (sSetE i t) u Ex E env = t Ex env fun x env1 => frzD env1 x fun d env2 => u Ex E (env2.set i (.ext d)) := rfl
theorem seq_set (i : Nat) (t : DT) (u : DTS) (Ex : DX) (E : DEnds) (env : Env') : sSeq (sSet i t) u Ex E env = t Ex env fun x env1 => retD env1 x fun r env2 => u Ex E (env2.set i r) := rfl
theorem seq_drop (t : DT) (u : DTS) (Ex : DX) (E : DEnds) (env : Env') : sSeq (sDrop t) u Ex E env = t Ex env fun _ env1 => u Ex E env1 := rfl
theorem seq_asg (t : DT) (g : DTG) (u : DTS) (Ex : DX) (E : DEnds) (env : Env') : sSeq (sAsg t g) u Ex E env = t Ex env fun x env1 => frzD env1 x fun d env2 => g d env2 fun env3 => u Ex E env3 := rfl
theorem seq_if (c : DTT) (t v : DTS) (u : DTS) (Ex : DX) (E : DEnds) (env : Env') : sSeq (sIf c t v) u Ex E env = c Ex env fun b env1 => if b = true then t Ex { E with nx := fun env1 => u Ex E env1 } env1 else v Ex { E with nx := fun env1 => u Ex E env1 } env1 := rfl
theorem seq_for (ti : DTI) (g : DTG) (b : DTS) (u : DTS) (Ex : DX) (E : DEnds) (env : Env') : sSeq (sFor ti g b) u Ex E env = ti Ex env fun items keep env1 => forD g b keep Ex { E with nx := fun env1 => u Ex E env1 } items env1 := rfl
theorem dv0 (d : D) (r : Env') (Ex : DX) (Q : Sl → Env' → Prop) : dVar 0 Ex (.ext d :: r) Q = Q (.ext d) (.ext d :: r) := rfl
theorem dw0 (a : Addr) (ds : List D) (r : Env') (Ex : DX) (Q : Sl → Env' → Prop) : dVar 0 Ex (.lst a ds :: r) Q = Q (.al 0 a) (.lst a ds :: r) := rfl
theorem dv1 (s0 : Sl) (d : D) (r : Env') (Ex : DX) (Q : Sl → Env' → Prop) : dVar 1 Ex (s0 :: .ext d :: r) Q = Q (.ext d) (s0 :: .ext d :: r) := rfl
theorem dw1 (s0 : Sl) (a : Addr) (ds : List D) (r : Env') (Ex : DX) (Q : Sl → Env' → Prop) : dVar 1 Ex (s0 :: .lst a ds :: r) Q = Q (.al 1 a) (s0 :: .lst a ds :: r) := rfl
theorem dv2 (s0 s1 : Sl) (d : D) (r : Env') (Ex : DX) (Q : Sl → Env' → Prop) : dVar 2 Ex (s0 :: s1 :: .ext d :: r) Q = Q (.ext d) (s0 :: s1 :: .ext d :: r) := rfl
theorem dw2 (s0 s1 : Sl) (a : Addr) (ds : List D) (r : Env') (Ex : DX) (Q : Sl → Env' → Prop) : dVar 2 Ex (s0 :: s1 :: .lst a ds :: r) Q = Q (.al 2 a) (s0 :: s1 :: .lst a ds :: r) := rfl
theorem dv3 (s0 s1 s2 : Sl) (d : D) (r : Env') (Ex : DX) (Q : Sl → Env' → Prop) : dVar 3 Ex (s0 :: s1 :: s2 :: .ext d :: r) Q = Q (.ext d) (s0 :: s1 :: s2 :: .ext d :: r) := rfl
theorem dw3 (s0 s1 s2 : Sl) (a : Addr) (ds : List D) (r : Env') (Ex : DX) (Q : Sl → Env' → Prop) : dVar 3 Ex (s0 :: s1 :: s2 :: .lst a ds :: r) Q = Q (.al 3 a) (s0 :: s1 :: s2 :: .lst a ds :: r) := rfl
theorem dv4 (s0 s1 s2 s3 : Sl) (d : D) (r : Env') (Ex : DX) (Q : Sl → Env' → Prop) : dVar 4 Ex (s0 :: s1 :: s2 :: s3 :: .ext d :: r) Q = Q (.ext d) (s0 :: s1 :: s2 :: s3 :: .ext d :: r) := rfl
theorem dw4 (s0 s1 s2 s3 : Sl) (a : Addr) (ds : List D) (r : Env') (Ex : DX) (Q : Sl → Env' → Prop) : dVar 4 Ex (s0 :: s1 :: s2 :: s3 :: .lst a ds :: r) Q = Q (.al 4 a) (s0 :: s1 :: s2 :: s3 :: .lst a ds :: r) := rfl
theorem dv5 (s0 s1 s2 s3 s4 : Sl) (d : D) (r : Env') (Ex : DX) (Q : Sl → Env' → Prop) : dVar 5 Ex (s0 :: s1 :: s2 :: s3 :: s4 :: .ext d :: r) Q = Q (.ext d) (s0 :: s1 :: s2 :: s3 :: s4 :: .ext d :: r) := rfl
theorem dw5 (s0 s1 s2 s3 s4 : Sl) (a : Addr) (ds : List D) (r : Env') (Ex : DX) (Q : Sl → Env' → Prop) : dVar 5 Ex (s0 :: s1 :: s2 :: s3 :: s4 :: .lst a ds :: r) Q = Q (.al 5 a) (s0 :: s1 :: s2 :: s3 :: s4 :: .lst a ds :: r) := rfl
theorem dv6 (s0 s1 s2 s3 s4 s5 : Sl) (d : D) (r : Env') (Ex : DX) (Q : Sl → Env' → Prop) : dVar 6 Ex (s0 :: s1 :: s2 :: s3 :: s4 :: s5 :: .ext d :: r) Q = Q (.ext d) (s0 :: s1 :: s2 :: s3 :: s4 :: s5 :: .ext d :: r) := rfl
theorem dw6 (s0 s1 s2 s3 s4 s5 : Sl) (a : Addr) (ds : List D) (r : Env') (Ex : DX) (Q : Sl → Env' → Prop) : dVar 6 Ex (s0 :: s1 :: s2 :: s3 :: s4 :: s5 :: .lst a ds :: r) Q = Q (.al 6 a) (s0 :: s1 :: s2 :: s3 :: s4 :: s5 :: .lst a ds :: r) := rfl
theorem dv7 (s0 s1 s2 s3 s4 s5 s6 : Sl) (d : D) (r : Env') (Ex : DX) (Q : Sl → Env' → Prop) : dVar 7 Ex (s0 :: s1 :: s2 :: s3 :: s4 :: s5 :: s6 :: .ext d :: r) Q = Q (.ext d) (s0 :: s1 :: s2 :: s3 :: s4 :: s5 :: s6 :: .ext d :: r) := rfl
theorem dw7 (s0 s1 s2 s3 s4 s5 s6 : Sl) (a : Addr) (ds : List D) (r : Env') (Ex : DX) (Q : Sl → Env' → Prop) : dVar 7 Ex (s0 :: s1 :: s2 :: s3 :: s4 :: s5 :: s6 :: .lst a ds :: r) Q = Q (.al 7 a) (s0 :: s1 :: s2 :: s3 :: s4 :: s5 :: s6 :: .lst a ds :: r) := rfl
theorem dv8 (s0 s1 s2 s3 s4 s5 s6 s7 : Sl) (d : D) (r : Env') (Ex : DX) (Q : Sl → Env' → Prop) : dVar 8 Ex (s0 :: s1 :: s2 :: s3 :: s4 :: s5 :: s6 :: s7 :: .ext d :: r) Q = Q (.ext d) (s0 :: s1 :: s2 :: s3 :: s4 :: s5 :: s6 :: s7 :: .ext d :: r) := rfl
theorem dw8 (s0 s1 s2 s3 s4 s5 s6 s7 : Sl) (a : Addr) (ds : List D) (r : Env') (Ex : DX) (Q : Sl → Env' → Prop) : dVar 8 Ex (s0 :: s1 :: s2 :: s3 :: s4 :: s5 :: s6 :: s7 :: .lst a ds :: r) Q = Q (.al 8 a) (s0 :: s1 :: s2 :: s3 :: s4 :: s5 :: s6 :: s7 :: .lst a ds :: r) := rfl
theorem dv9 (s0 s1 s2 s3 s4 s5 s6 s7 s8 : Sl) (d : D) (r : Env') (Ex : DX) (Q : Sl → Env' → Prop) : dVar 9 Ex (s0 :: s1 :: s2 :: s3 :: s4 :: s5 :: s6 :: s7 :: s8 :: .ext d :: r) Q = Q (.ext d) (s0 :: s1 :: s2 :: s3 :: s4 :: s5 :: s6 :: s7 :: s8 :: .ext d :: r) := rfl
theorem dw9 (s0 s1 s2 s3 s4 s5 s6 s7 s8 : Sl) (a : Addr) (ds : List D) (r : Env') (Ex : DX) (Q : Sl → Env' → Prop) : dVar 9 Ex (s0 :: s1 :: s2 :: s3 :: s4 :: s5 :: s6 :: s7 :: s8 :: .lst a ds :: r) Q = Q (.al 9 a) (s0 :: s1 :: s2 :: s3 :: s4 :: s5 :: s6 :: s7 :: s8 :: .lst a ds :: r) := rfl
theorem dv10 (s0 s1 s2 s3 s4 s5 s6 s7 s8 s9 : Sl) (d : D) (r : Env') (Ex : DX) (Q : Sl → Env' → Prop) : dVar 10 Ex (s0 :: s1 :: s2 :: s3 :: s4 :: s5 :: s6 :: s7 :: s8 :: s9 :: .ext d :: r) Q = Q (.ext d) (s0 :: s1 :: s2 :: s3 :: s4 :: s5 :: s6 :: s7 :: s8 :: s9 :: .ext d :: r) := rfl
theorem dw10 (s0 s1 s2 s3 s4 s5 s6 s7 s8 s9 : Sl) (a : Addr) (ds : List D) (r : Env') (Ex : DX) (Q : Sl → Env' → Prop) : dVar 10 Ex (s0 :: s1 :: s2 :: s3 :: s4 :: s5 :: s6 :: s7 :: s8 :: s9 :: .lst a ds :: r) Q = Q (.al 10 a) (s0 :: s1 :: s2 :: s3 :: s4 :: s5 :: s6 :: s7 :: s8 :: s9 :: .lst a ds :: r) := rfl
theorem dv11 (s0 s1 s2 s3 s4 s5 s6 s7 s8 s9 s10 : Sl) (d : D) (r : Env') (Ex : DX) (Q : Sl → Env' → Prop) : dVar 11 Ex (s0 :: s1 :: s2 :: s3 :: s4 :: s5 :: s6 :: s7 :: s8 :: s9 :: s10 :: .ext d :: r) Q = Q (.ext d) (s0 :: s1 :: s2 :: s3 :: s4 :: s5 :: s6 :: s7 :: s8 :: s9 :: s10 :: .ext d :: r) := rfl
theorem dw11 (s0 s1 s2 s3 s4 s5 s6 s7 s8 s9 s10 : Sl) (a : Addr) (ds : List D) (r : Env') (Ex : DX) (Q : Sl → Env' → Prop) : dVar 11 Ex (s0 :: s1 :: s2 :: s3 :: s4 :: s5 :: s6 :: s7 :: s8 :: s9 :: s10 :: .lst a ds :: r) Q = Q (.al 11 a) (s0 :: s1 :: s2 :: s3 :: s4 :: s5 :: s6 :: s7 :: s8 :: s9 :: s10 :: .lst a ds :: r) := rfl
theorem dv12 (s0 s1 s2 s3 s4 s5 s6 s7 s8 s9 s10 s11 : Sl) (d : D) (r : Env') (Ex : DX) (Q : Sl → Env' → Prop) : dVar 12 Ex (s0 :: s1 :: s2 :: s3 :: s4 :: s5 :: s6 :: s7 :: s8 :: s9 :: s10 :: s11 :: .ext d :: r) Q = Q (.ext d) (s0 :: s1 :: s2 :: s3 :: s4 :: s5 :: s6 :: s7 :: s8 :: s9 :: s10 :: s11 :: .ext d :: r) := rfl
theorem dw12 (s0 s1 s2 s3 s4 s5 s6 s7 s8 s9 s10 s11 : Sl) (a : Addr) (ds : List D) (r : Env') (Ex : DX) (Q : Sl → Env' → Prop) : dVar 12 Ex (s0 :: s1 :: s2 :: s3 :: s4 :: s5 :: s6 :: s7 :: s8 :: s9 :: s10 :: s11 :: .lst a ds :: r) Q = Q (.al 12 a) (s0 :: s1 :: s2 :: s3 :: s4 :: s5 :: s6 :: s7 :: s8 :: s9 :: s10 :: s11 :: .lst a ds :: r) := rfl
theorem dv13 (s0 s1 s2 s3 s4 s5 s6 s7 s8 s9 s10 s11 s12 : Sl) (d : D) (r : Env') (Ex : DX) (Q : Sl → Env' → Prop) : dVar 13 Ex (s0 :: s1 :: s2 :: s3 :: s4 :: s5 :: s6 :: s7 :: s8 :: s9 :: s10 :: s11 :: s12 :: .ext d :: r) Q = Q (.ext d) (s0 :: s1 :: s2 :: s3 :: s4 :: s5 :: s6 :: s7 :: s8 :: s9 :: s10 :: s11 :: s12 :: .ext d :: r) := rfl
theorem dw13 (s0 s1 s2 s3 s4 s5 s6 s7 s8 s9 s10 s11 s12 : Sl) (a : Addr) (ds : List D) (r : Env') (Ex : DX) (Q : Sl → Env' → Prop) : dVar 13 Ex (s0 :: s1 :: s2 :: s3 :: s4 :: s5 :: s6 :: s7 :: s8 :: s9 :: s10 :: s11 :: s12 :: .lst a ds :: r) Q = Q (.al 13 a) (s0 :: s1 :: s2 :: s3 :: s4 :: s5 :: s6 :: s7 :: s8 :: s9 :: s10 :: s11 :: s12 :: .lst a ds :: r) := rfl
theorem dv14 (s0 s1 s2 s3 s4 s5 s6 s7 s8 s9 s10 s11 s12 s13 : Sl) (d : D) (r : Env') (Ex : DX) (Q : Sl → Env' → Prop) : dVar 14 Ex (s0 :: s1 :: s2 :: s3 :: s4 :: s5 :: s6 :: s7 :: s8 :: s9 :: s10 :: s11 :: s12 :: s13 :: .ext d :: r) Q = Q (.ext d) (s0 :: s1 :: s2 :: s3 :: s4 :: s5 :: s6 :: s7 :: s8 :: s9 :: s10 :: s11 :: s12 :: s13 :: .ext d :: r) := rfl
theorem dw14 (s0 s1 s2 s3 s4 s5 s6 s7 s8 s9 s10 s11 s12 s13 : Sl) (a : Addr) (ds : List D) (r : Env') (Ex : DX) (Q : Sl → Env' → Prop) : dVar 14 Ex (s0 :: s1 :: s2 :: s3 :: s4 :: s5 :: s6 :: s7 :: s8 :: s9 :: s10 :: s11 :: s12 :: s13 :: .lst a ds :: r) Q = Q (.al 14 a) (s0 :: s1 :: s2 :: s3 :: s4 :: s5 :: s6 :: s7 :: s8 :: s9 :: s10 :: s11 :: s12 :: s13 :: .lst a ds :: r) := rfl
theorem dv15 (s0 s1 s2 s3 s4 s5 s6 s7 s8 s9 s10 s11 s12 s13 s14 : Sl) (d : D) (r : Env') (Ex : DX) (Q : Sl → Env' → Prop) : dVar 15 Ex (s0 :: s1 :: s2 :: s3 :: s4 :: s5 :: s6 :: s7 :: s8 :: s9 :: s10 :: s11 :: s12 :: s13 :: s14 :: .ext d :: r) Q = Q (.ext d) (s0 :: s1 :: s2 :: s3 :: s4 :: s5 :: s6 :: s7 :: s8 :: s9 :: s10 :: s11 :: s12 :: s13 :: s14 :: .ext d :: r) := rfl
theorem dw15 (s0 s1 s2 s3 s4 s5 s6 s7 s8 s9 s10 s11 s12 s13 s14 : Sl) (a : Addr) (ds : List D) (r : Env') (Ex : DX) (Q : Sl → Env' → Prop) : dVar 15 Ex (s0 :: s1 :: s2 :: s3 :: s4 :: s5 :: s6 :: s7 :: s8 :: s9 :: s10 :: s11 :: s12 :: s13 :: s14 :: .lst a ds :: r) Q = Q (.al 15 a) (s0 :: s1 :: s2 :: s3 :: s4 :: s5 :: s6 :: s7 :: s8 :: s9 :: s10 :: s11 :: s12 :: s13 :: s14 :: .lst a ds :: r) := rfl
theorem dv16 (s0 s1 s2 s3 s4 s5 s6 s7 s8 s9 s10 s11 s12 s13 s14 s15 : Sl) (d : D) (r : Env') (Ex : DX) (Q : Sl → Env' → Prop) : dVar 16 Ex (s0 :: s1 :: s2 :: s3 :: s4 :: s5 :: s6 :: s7 :: s8 :: s9 :: s10 :: s11 :: s12 :: s13 :: s14 :: s15 :: .ext d :: r) Q = Q (.ext d) (s0 :: s1 :: s2 :: s3 :: s4 :: s5 :: s6 :: s7 :: s8 :: s9 :: s10 :: s11 :: s12 :: s13 :: s14 :: s15 :: .ext d :: r) := rfl
theorem dw16 (s0 s1 s2 s3 s4 s5 s6 s7 s8 s9 s10 s11 s12 s13 s14 s15 : Sl) (a : Addr) (ds : List D) (r : Env') (Ex : DX) (Q : Sl → Env' → Prop) : dVar 16 Ex (s0 :: s1 :: s2 :: s3 :: s4 :: s5 :: s6 :: s7 :: s8 :: s9 :: s10 :: s11 :: s12 :: s13 :: s14 :: s15 :: .lst a ds :: r) Q = Q (.al 16 a) (s0 :: s1 :: s2 :: s3 :: s4 :: s5 :: s6 :: s7 :: s8 :: s9 :: s10 :: s11 :: s12 :: s13 :: s14 :: s15 :: .lst a ds :: r) := rfl
theorem dv17 (s0 s1 s2 s3 s4 s5 s6 s7 s8 s9 s10 s11 s12 s13 s14 s15 s16 : Sl) (d : D) (r : Env') (Ex : DX) (Q : Sl → Env' → Prop) : dVar 17 Ex (s0 :: s1 :: s2 :: s3 :: s4 :: s5 :: s6 :: s7 :: s8 :: s9 :: s10 :: s11 :: s12 :: s13 :: s14 :: s15 :: s16 :: .ext d :: r) Q = Q (.ext d) (s0 :: s1 :: s2 :: s3 :: s4 :: s5 :: s6 :: s7 :: s8 :: s9 :: s10 :: s11 :: s12 :: s13 :: s14 :: s15 :: s16 :: .ext d :: r) := rfl
theorem dw17 (s0 s1 s2 s3 s4 s5 s6 s7 s8 s9 s10 s11 s12 s13 s14 s15 s16 : Sl) (a : Addr) (ds : List D) (r : Env') (Ex : DX) (Q : Sl → Env' → Prop) : dVar 17 Ex (s0 :: s1 :: s2 :: s3 :: s4 :: s5 :: s6 :: s7 :: s8 :: s9 :: s10 :: s11 :: s12 :: s13 :: s14 :: s15 :: s16 :: .lst a ds :: r) Q = Q (.al 17 a) (s0 :: s1 :: s2 :: s3 :: s4 :: s5 :: s6 :: s7 :: s8 :: s9 :: s10 :: s11 :: s12 :: s13 :: s14 :: s15 :: s16 :: .lst a ds :: r) := rfl
theorem dv18 (s0 s1 s2 s3 s4 s5 s6 s7 s8 s9 s10 s11 s12 s13 s14 s15 s16 s17 : Sl) (d : D) (r : Env') (Ex : DX) (Q : Sl → Env' → Prop) : dVar 18 Ex (s0 :: s1 :: s2 :: s3 :: s4 :: s5 :: s6 :: s7 :: s8 :: s9 :: s10 :: s11 :: s12 :: s13 :: s14 :: s15 :: s16 :: s17 :: .ext d :: r) Q = Q (.ext d) (s0 :: s1 :: s2 :: s3 :: s4 :: s5 :: s6 :: s7 :: s8 :: s9 :: s10 :: s11 :: s12 :: s13 :: s14 :: s15 :: s16 :: s17 :: .ext d :: r) := rfl
theorem dw18 (s0 s1 s2 s3 s4 s5 s6 s7 s8 s9 s10 s11 s12 s13 s14 s15 s16 s17 : Sl) (a : Addr) (ds : List D) (r : Env') (Ex : DX) (Q : Sl → Env' → Prop) : dVar 18 Ex (s0 :: s1 :: s2 :: s3 :: s4 :: s5 :: s6 :: s7 :: s8 :: s9 :: s10 :: s11 :: s12 :: s13 :: s14 :: s15 :: s16 :: s17 :: .lst a ds :: r) Q = Q (.al 18 a) (s0 :: s1 :: s2 :: s3 :: s4 :: s5 :: s6 :: s7 :: s8 :: s9 :: s10 :: s11 :: s12 :: s13 :: s14 :: s15 :: s16 :: s17 :: .lst a ds :: r) := rfl
theorem dv19 (s0 s1 s2 s3 s4 s5 s6 s7 s8 s9 s10 s11 s12 s13 s14 s15 s16 s17 s18 : Sl) (d : D) (r : Env') (Ex : DX) (Q : Sl → Env' → Prop) : dVar 19 Ex (s0 :: s1 :: s2 :: s3 :: s4 :: s5 :: s6 :: s7 :: s8 :: s9 :: s10 :: s11 :: s12 :: s13 :: s14 :: s15 :: s16 :: s17 :: s18 :: .ext d :: r) Q = Q (.ext d) (s0 :: s1 :: s2 :: s3 :: s4 :: s5 :: s6 :: s7 :: s8 :: s9 :: s10 :: s11 :: s12 :: s13 :: s14 :: s15 :: s16 :: s17 :: s18 :: .ext d :: r) := rfl
theorem dw19 (s0 s1 s2 s3 s4 s5 s6 s7 s8 s9 s10 s11 s12 s13 s14 s15 s16 s17 s18 : Sl) (a : Addr) (ds : List D) (r : Env') (Ex : DX) (Q : Sl → Env' → Prop) : dVar 19 Ex (s0 :: s1 :: s2 :: s3 :: s4 :: s5 :: s6 :: s7 :: s8 :: s9 :: s10 :: s11 :: s12 :: s13 :: s14 :: s15 :: s16 :: s17 :: s18 :: .lst a ds :: r) Q = Q (.al 19 a) (s0 :: s1 :: s2 :: s3 :: s4 :: s5 :: s6 :: s7 :: s8 :: s9 :: s10 :: s11 :: s12 :: s13 :: s14 :: s15 :: s16 :: s17 :: s18 :: .lst a ds :: r) := rfl
end HD

/-! HX12: list(zip(a, b)) -/
namespace HD
open PySem PyProof.Rows L2
section
variable {prog : Program} {w : World} {A : Around} {E : Value → Shared → Prop} {s : Shared} {z TI TO i1 i2 T : Addr} {f : Bool} {oT : Obj} {fp1 fp2 : List Addr} {n1 n2 i : Nat} {P1 P2 : Nat → Value → Prop} {St1 St2 : Nat → Heap → Prop}
theorem zipH_next {Q : Value → Shared → Prop} (S : ZipSep2 z TI TO i1 i2 fp1 fp2) (D1 : Draws prog w A i1 fp1 n1 P1 St1) (D2 : Draws prog w A i2 fp2 n2 P2 St2)
    (hz : IsZipHeld s.heap z TI TO T f) (hT : s.heap.get? T = some oT) (hTI : IsTupOf2 s.heap TI (.ref i1) (.ref i2)) (st1 : St1 i s.heap) (st2 : St2 i s.heap) (hlt1 : i < n1) (hlt2 : i < n2)
    (hQ : ∀ x1 x2 h' tk, P1 i x1 → P2 i x2 → IsZipHeld h' z TI TO T true → St1 (i + 1) h' → St2 (i + 1) h' → IsTupOf2 h' s.heap.objs.size x1 x2 → h'.objs.size = s.heap.objs.size + 1 →
      (∀ c o, c ≠ z → c ≠ i1 → c ≠ i2 → s.heap.get? c = some o → h'.get? c = some o) → Q (.ref s.heap.objs.size) { s with heap := h', toks := tk }) :
    wpAny (model prog w) A (Builtin.«zip.__next__» ⟨[.ref z], []⟩) (fun fin s' => ∃ v, fin = .done (.ret v) ∧ Q v s') E s := by
  obtain ⟨hp, g, d, tk0, os⟩ := s
  show wpAny _ _ (field (.ref z) 2 >>= _) _ _ _
  refine wpAny_bind (wpAny_field hz rfl (x := .bool false) rfl ?_)
  show wpAny _ _ (field (.ref z) 3 >>= _) _ _ _
  refine wpAny_bind (wpAny_field hz rfl (x := .ref TI) rfl ?_)
  refine wpAny_bind (wpAny_seqItems hTI rfl ?_)
  show wpAny _ _ (Builtin.SmallTypes.ownedTupleIsFree (.ref z) >>= _) _ _ _
  refine wpAny_bind (wpAny_tupleHeld_zip hz hT fun h₁ hz₁ hs₁ => ?_)
  replace hs₁ : Heap.SameBut z hp h₁ := hs₁
  simp only [Bool.false_eq_true, if_false]
  refine wpAny_bind ?_
  rw [← Array.forIn_toList]
  simp only [List.forIn_cons, List.forIn_nil]
  refine wpAny_bind (wpAny_bind (wpAny_holding ?_))
  show wpAny _ _ (Builtin.SmallTypes.nextOf (.ref i1) >>= _) _ _ ⟨h₁, g, d, tk0, os⟩
  refine wpAny_bind (D1.item i _ _ _ hlt1 (D1.over st1 hs₁ S.zf1) fun x1 h₂ tk1 hx1 sn1 hs₂ => wpAny_pure ?_)
  replace hs₂ : Heap.SameBut i1 h₁ h₂ := hs₂
  refine wpAny_pure ?_
  refine wpAny_bind (wpAny_bind (wpAny_holding ?_))
  show wpAny _ _ (Builtin.SmallTypes.nextOf (.ref i2) >>= _) _ _ ⟨h₂, g, d, tk1, os⟩
  refine wpAny_bind (D2.item i _ _ _ hlt2 (D2.over (D2.over st2 hs₁ S.zf2) hs₂ S.sep1_2) fun x2 h₃ tk2 hx2 sn2 hs₃ => wpAny_pure ?_)
  replace hs₃ : Heap.SameBut i2 h₂ h₃ := hs₃
  refine wpAny_pure (wpAny_pure ?_)
  show wpAny _ _ (newTuple [x1, x2] >>= _) _ _ _
  refine wpAny_bind (wpAny_newTuple ?_)
  have hsz : h₃.objs.size = hp.objs.size := by rw [hs₃.1, hs₂.1, hs₁.1]
  have hz₃ : IsZipHeld h₃ z TI TO T true := hs₃.extBut _ _ S.zi2 (hs₂.extBut _ _ S.zi1 hz₁)
  have hk : ∀ c o, c ≠ z → c ≠ i1 → c ≠ i2 → hp.get? c = some o → h₃.get? c = some o := fun c o c1 c2 c3 e => hs₃.extBut _ _ c3 (hs₂.extBut _ _ c2 (hs₁.extBut _ _ c1 e))
  have hj1 : St1 (i + 1) h₃ := D1.over sn1 hs₃ S.sep2_1
  refine wpAny_pure ⟨_, rfl, ?_⟩
  show Q (.ref h₃.objs.size) _
  have hpr : IsTupOf2 (h₃.push { cls := .type "tuple", data := .seq #[x1, x2] }) h₃.objs.size x1 x2 := Heap.get?_push_size _ rfl
  have hz4 : (h₃.push { cls := .type "tuple", data := .seq #[x1, x2] }).objs.size = h₃.objs.size + 1 := Heap.size_push ..
  rw [hsz] at hpr hz4 ⊢
  exact hQ x1 x2 _ tk2 hx1 hx2 (Heap.get?_push_of_some _ hz₃) (D1.frame _ _ _ hj1 fun b hb o e => Heap.get?_push_of_some _ e) (D2.frame _ _ _ sn2 fun b hb o e => Heap.get?_push_of_some _ e) hpr hz4 fun c o c1 c2 c3 e => Heap.get?_push_of_some _ (hk c o c1 c2 c3 e)
theorem zipH_end {Q : Fin → Shared → Prop} (S : ZipSep2 z TI TO i1 i2 fp1 fp2) (D1 : Draws prog w A i1 fp1 n1 P1 St1) (D2 : Draws prog w A i2 fp2 n2 P2 St2)
    (hz : IsZipHeld s.heap z TI TO T f) (hT : s.heap.get? T = some oT) (hTI : IsTupOf2 s.heap TI (.ref i1) (.ref i2)) (st1 : St1 i s.heap) (st2 : St2 i s.heap) (hle1 : i ≤ n1) (hle2 : i ≤ n2) (hend : i = n1 ∨ i = n2)
    (hE : ∀ h' tk e, (∀ c o, c ≠ z → c ≠ i1 → c ≠ i2 → s.heap.get? c = some o → h'.get? c = some o) → (∃ o, h'.get? e = some o ∧ o.cls = .type "StopIteration") → E (.ref e) { s with heap := h', toks := tk }) :
    wpAny (model prog w) A (Builtin.«zip.__next__» ⟨[.ref z], []⟩) Q E s := by
  obtain ⟨hp, g, d, tk0, os⟩ := s
  show wpAny _ _ (field (.ref z) 2 >>= _) _ _ _
  refine wpAny_bind (wpAny_field hz rfl (x := .bool false) rfl ?_)
  show wpAny _ _ (field (.ref z) 3 >>= _) _ _ _
  refine wpAny_bind (wpAny_field hz rfl (x := .ref TI) rfl ?_)
  refine wpAny_bind (wpAny_seqItems hTI rfl ?_)
  show wpAny _ _ (Builtin.SmallTypes.ownedTupleIsFree (.ref z) >>= _) _ _ _
  refine wpAny_bind (wpAny_tupleHeld_zip hz hT fun h₁ hz₁ hs₁ => ?_)
  replace hs₁ : Heap.SameBut z hp h₁ := hs₁
  simp only [Bool.false_eq_true, if_false]
  refine wpAny_bind ?_
  rw [← Array.forIn_toList]
  simp only [List.forIn_cons, List.forIn_nil]
  refine wpAny_bind (wpAny_bind (wpAny_holding ?_))
  show wpAny _ _ (Builtin.SmallTypes.nextOf (.ref i1) >>= _) _ _ ⟨h₁, g, d, tk0, os⟩
  by_cases e1 : i = n1
  · subst e1
    refine wpAny_bind (D1.done _ _ _ (D1.over st1 hs₁ S.zf1) fun h₂ e hs₂ he => ?_)
    exact hE h₂ _ e (fun c o c1 c2 _ x => hs₂ _ _ c2 (hs₁.extBut _ _ c1 x)) he
  · have e2 : i = n2 := by omega
    subst e2
    refine wpAny_bind (D1.item i _ _ _ (by omega) (D1.over st1 hs₁ S.zf1) fun x1 h₂ tk1 hx1 sn1 hs₂ => wpAny_pure ?_)
    replace hs₂ : Heap.SameBut i1 h₁ h₂ := hs₂
    refine wpAny_pure ?_
    refine wpAny_bind (wpAny_bind (wpAny_holding ?_))
    show wpAny _ _ (Builtin.SmallTypes.nextOf (.ref i2) >>= _) _ _ ⟨h₂, g, d, tk1, os⟩
    refine wpAny_bind (D2.done _ _ _ (D2.over (D2.over st2 hs₁ S.zf2) hs₂ S.sep1_2) fun h₃ e hs₃ he => ?_)
    exact hE h₃ _ e (fun c o c1 c2 c3 x => hs₃ _ _ c3 (hs₂.extBut _ _ c2 (hs₁.extBut _ _ c1 x))) he
theorem pyNext_zipH_item {Q : Option Value → Shared → Prop} (S : ZipSep2 z TI TO i1 i2 fp1 fp2) (D1 : Draws prog w A.in1 i1 fp1 n1 P1 St1) (D2 : Draws prog w A.in1 i2 fp2 n2 P2 St2)
    (hz : IsZipHeld s.heap z TI TO T f) (hT : s.heap.get? T = some oT) (hTI : IsTupOf2 s.heap TI (.ref i1) (.ref i2)) (st1 : St1 i s.heap) (st2 : St2 i s.heap) (hlt1 : i < n1) (hlt2 : i < n2)
    (hQ : ∀ x1 x2 h' tk, P1 i x1 → P2 i x2 → IsZipHeld h' z TI TO T true → St1 (i + 1) h' → St2 (i + 1) h' → IsTupOf2 h' s.heap.objs.size x1 x2 → h'.objs.size = s.heap.objs.size + 1 →
      (∀ c o, c ≠ z → c ≠ i1 → c ≠ i2 → s.heap.get? c = some o → h'.get? c = some o) → Q (some (.ref s.heap.objs.size)) { s with heap := h', toks := tk }) :
    wpAny (model prog w) A (pyNext (.ref z)) Q E s := by
  have hTy : s.TypeIs (.ref z) "zip" := ⟨_, hz, rfl⟩
  unfold pyNext
  exact wpAny_bind (wpAny_attempt (wpAny_callSpecial?_slot (name := Str.ofString "__next__") hTy F.slot_zip_next
    (wpAny_call_entry F.slot_zip_next hTy F.entry_zip_next
      (zipH_next S D1 D2 hz hT hTI st1 st2 hlt1 hlt2 fun x1 x2 h' tk y1 y2 b1 d1 d2 b5 b6 b7 => wpAny_pure (hQ x1 x2 h' tk y1 y2 b1 d1 d2 b5 b6 b7)) (F.args_zip_next_1 _))))
theorem pyNext_zipH_end {Q : Option Value → Shared → Prop} (S : ZipSep2 z TI TO i1 i2 fp1 fp2) (D1 : Draws prog w A.in1 i1 fp1 n1 P1 St1) (D2 : Draws prog w A.in1 i2 fp2 n2 P2 St2)
    (hz : IsZipHeld s.heap z TI TO T f) (hT : s.heap.get? T = some oT) (hTI : IsTupOf2 s.heap TI (.ref i1) (.ref i2)) (st1 : St1 i s.heap) (st2 : St2 i s.heap) (hle1 : i ≤ n1) (hle2 : i ≤ n2) (hend : i = n1 ∨ i = n2)
    (hQ : ∀ h' tk, (∀ c o, c ≠ z → c ≠ i1 → c ≠ i2 → s.heap.get? c = some o → h'.get? c = some o) → Q none { s with heap := h', toks := tk }) : wpAny (model prog w) A (pyNext (.ref z)) Q E s := by
  have hTy : s.TypeIs (.ref z) "zip" := ⟨_, hz, rfl⟩
  unfold pyNext
  refine wpAny_bind (wpAny_attempt (wpAny_callSpecial?_slot (name := Str.ofString "__next__") hTy F.slot_zip_next
    (wpAny_call_entry F.slot_zip_next hTy F.entry_zip_next (zipH_end S D1 D2 hz hT hTI st1 st2 hle1 hle2 hend fun h' tk e hk he => ?_) (F.args_zip_next_1 _))))
  obtain ⟨o, ho, hc⟩ := he
  refine wpAny_bind (wpAny_isInstance (T := "StopIteration") (b := true) ⟨o, ho, hc⟩ isSubtype_stop ?_)
  exact wpAny_pure (hQ _ _ hk)
/-- the zip's own record, behind the tuples as -/
def ZSt (z TI TO : Addr) (h : Heap) (as : List Addr) : Prop := (as = [] ∧ IsZip h z TI TO .none ∧ ∃ a1 a2, IsTupOf2 h TO a1 a2) ∨ ∃ (T : Addr) (f : Bool), as.head? = some T ∧ IsZipHeld h z TI TO T f
structure Made2 (P1 P2 : Nat → Value → Prop) (lo : Nat) (h : Heap) (as : List Addr) : Prop where
  rise : as.Pairwise (· < ·)
  above : ∀ a ∈ as, lo ≤ a
  pairs : ∀ (j : Nat) a, as[j]? = some a → ∃ x1 x2, P1 j x1 ∧ P2 j x2 ∧ IsTupOf2 h a x1 x2
theorem zl_next {lo : Nat} {as : List Addr} {Q : Option Value → Shared → Prop} (S : ZipSep2 z TI TO i1 i2 fp1 fp2) (D1 : Draws prog w A.in1 i1 fp1 n1 P1 St1) (D2 : Draws prog w A.in1 i2 fp2 n2 P2 St2)
    (hz : ZSt z TI TO s.heap as) (hm : Made2 P1 P2 lo s.heap as) (hTI : IsTupOf2 s.heap TI (.ref i1) (.ref i2)) (st1 : St1 i s.heap) (st2 : St2 i s.heap) (hlt1 : i < n1) (hlt2 : i < n2)
    (hQ : ∀ x1 x2 h' tk, P1 i x1 → P2 i x2 → ZSt z TI TO h' (as ++ [s.heap.objs.size]) → St1 (i + 1) h' → St2 (i + 1) h' → IsTupOf2 h' s.heap.objs.size x1 x2 → h'.objs.size = s.heap.objs.size + 1 →
      (∀ c o, c ≠ z → c ≠ TO → c ≠ i1 → c ≠ i2 → s.heap.get? c = some o → h'.get? c = some o) → Q (some (.ref s.heap.objs.size)) { s with heap := h', toks := tk }) :
    wpAny (model prog w) A (pyNext (.ref z)) Q E s := by
  rcases hz with ⟨rfl, hz, a1, a2, hTO⟩ | ⟨T, f, hhd, hz⟩
  · exact wpAny_pyNext_zipD2_item S D1 D2 hz hTI hTO st1 st2 hlt1 hlt2 fun x1 x2 h' tk y1 y2 b1 b2 d1 d2 b5 b6 b7 => hQ x1 x2 h' tk y1 y2 (.inr ⟨_, false, rfl, b1⟩) d1 d2 b5 b6 b7
  · obtain ⟨x1, x2, _, _, hTT⟩ := hm.pairs 0 T (by rw [← List.head?_eq_getElem?]; exact hhd)
    exact pyNext_zipH_item S D1 D2 hz hTT hTI st1 st2 hlt1 hlt2 fun x1 x2 h' tk y1 y2 b1 d1 d2 b5 b6 b7 => hQ x1 x2 h' tk y1 y2 (.inr ⟨T, true, by rw [List.head?_append, hhd]; rfl, b1⟩) d1 d2 b5 b6 fun c o c1 _ c2 c3 e => b7 c o c1 c2 c3 e
theorem zl_end {lo : Nat} {as : List Addr} {Q : Option Value → Shared → Prop} (S : ZipSep2 z TI TO i1 i2 fp1 fp2) (D1 : Draws prog w A.in1 i1 fp1 n1 P1 St1) (D2 : Draws prog w A.in1 i2 fp2 n2 P2 St2)
    (hz : ZSt z TI TO s.heap as) (hm : Made2 P1 P2 lo s.heap as) (hTI : IsTupOf2 s.heap TI (.ref i1) (.ref i2)) (st1 : St1 i s.heap) (st2 : St2 i s.heap) (hle1 : i ≤ n1) (hle2 : i ≤ n2) (hend : i = n1 ∨ i = n2)
    (hQ : ∀ h' tk, (∀ c o, c ≠ z → c ≠ TO → c ≠ i1 → c ≠ i2 → s.heap.get? c = some o → h'.get? c = some o) → Q none { s with heap := h', toks := tk }) : wpAny (model prog w) A (pyNext (.ref z)) Q E s := by
  rcases hz with ⟨rfl, hz, a1, a2, hTO⟩ | ⟨T, f, hhd, hz⟩
  · exact wpAny_pyNext_zipD2_end S D1 D2 hz hTI hTO st1 st2 hle1 hle2 hend hQ
  · obtain ⟨x1, x2, _, _, hTT⟩ := hm.pairs 0 T (by rw [← List.head?_eq_getElem?]; exact hhd)
    exact pyNext_zipH_end S D1 D2 hz hTT hTI st1 st2 hle1 hle2 hend fun h' tk hk => hQ h' tk fun c o c1 _ c2 c3 e => hk c o c1 c2 c3 e
end
theorem ZSt.up {z TI TO : Addr} {h h' : Heap} {as : List Addr} (x : ZSt z TI TO h as) (k : ∀ o, h.get? z = some o → h'.get? z = some o) (k2 : ∀ o, h.get? TO = some o → h'.get? TO = some o) : ZSt z TI TO h' as := by
  rcases x with ⟨e, hz, a1, a2, hTO⟩ | ⟨T, f, e, hz⟩
  · exact .inl ⟨e, k _ hz, a1, a2, k2 _ hTO⟩
  · exact .inr ⟨T, f, e, k _ hz⟩
section
variable {prog : Program} {w : World} {A : Around} {s : Shared} {R : Result → Shared → Prop} {z TI TO i1 i2 : Addr} {fp1 fp2 : List Addr} {n1 n2 : Nat} {P1 P2 : Nat → Value → Prop} {St1 St2 : Nat → Heap → Prop}
theorem zl_loop {S lo : Addr} (Sp : ZipSep2 z TI TO i1 i2 fp1 fp2) (D1 : Draws prog w A.in1.in1 i1 fp1 n1 P1 St1) (D2 : Draws prog w A.in1.in1 i2 fp2 n2 P2 St2)
    (lz : z < lo) (lTI : TI < lo) (lTO : TO < lo) (l1 : i1 < lo) (l2 : i2 < lo) (lS : S < lo) (hSz : S ≠ z) (hSTI : S ≠ TI) (hSTO : S ≠ TO) (hS1 : S ∉ fp1) (hS2 : S ∉ fp2) (hn : min n1 n2 ≤ sizeLine) (res : Value) {h₁ : Heap}
    (hR : ∀ h' tk acc c as, (∀ b o, b ≠ S → b ≠ z → b ≠ TO → b ≠ i1 → b ≠ i2 → h₁.get? b = some o → h'.get? b = some o) → h'.get? S = some { cls := .type "list", dict := none, data := .seq acc c, slots := #[] } → as.length = min n1 n2 → Made2 P1 P2 lo h' as →
      acc.toList = as.map Value.ref → R (.ok (.ret res)) { s with heap := h', toks := tk }) :
    ∀ (k i : Nat) (h : Heap) (tk c : Nat) (acc : Array Value) (as : List Addr), min n1 n2 - i = k → i ≤ min n1 n2 → ZSt z TI TO h as → IsTupOf2 h TI (.ref i1) (.ref i2) → St1 i h → St2 i h → (∀ b o, b ≠ S → b ≠ z → b ≠ TO → b ≠ i1 → b ≠ i2 → h₁.get? b = some o → h.get? b = some o) →
      h.get? S = some { cls := .type "list", dict := none, data := .seq acc c, slots := #[] } → acc.toList = as.map Value.ref → as.length = i → Made2 P1 P2 lo h as → lo ≤ h.objs.size →
      codeAny (model prog w) A (.builtin "list.extend.loop" ⟨[.ref S, .ref z, res], []⟩) R { s with heap := h, toks := tk } := by
  have hSi1 : S ≠ i1 := fun e => hS1 (by rw [e]; exact Sp.mem1)
  have hSi2 : S ≠ i2 := fun e => hS2 (by rw [e]; exact Sp.mem2)
  intro k
  induction k with
  | zero =>
    intro i h tk c acc as hk hi hst hTI st1 st2 hkeep hS hacc hal hG hIs
    refine codeAny_builtin PySem.F.entry_extend_loop ?_
    rw [Around.under_plainId PySem.F.plain_extend_loop _]
    show wpAny _ A.in1 (pyNext (.ref z) >>= _) _ _ _
    refine wpAny_bind (zl_end (s := { s with heap := h, toks := tk }) (A := A.in1) (i := i) Sp D1 D2 hst hG hTI st1 st2 (by omega) (by omega) (by omega) fun h' tk' he => ?_)
    refine wpAny_pure (hR h' tk' acc c as (fun b o h1 h2 h3 h4 h5 e => he b o h2 h3 h4 h5 (hkeep b o h1 h2 h3 h4 h5 e)) (he S _ hSz hSTO hSi1 hSi2 hS) (by omega) ⟨hG.rise, hG.above, fun j a hj => ?_⟩ hacc)
    obtain ⟨x1, x2, p1, p2, e3⟩ := hG.pairs j a hj
    have ha := hG.above a (List.mem_of_getElem? hj)
    exact ⟨x1, x2, p1, p2, he a _ (Nat.ne_of_gt (Nat.lt_of_lt_of_le lz ha)) (Nat.ne_of_gt (Nat.lt_of_lt_of_le lTO ha)) (Nat.ne_of_gt (Nat.lt_of_lt_of_le l1 ha)) (Nat.ne_of_gt (Nat.lt_of_lt_of_le l2 ha)) e3⟩
  | succ k ih =>
    intro i h tk c acc as hk hi hst hTI st1 st2 hkeep hS hacc hal hG hIs
    have hlt : i < min n1 n2 := by omega
    have hsz : acc.size = i := by rw [← Array.length_toList, hacc, List.length_map, hal]
    refine codeAny_builtin PySem.F.entry_extend_loop ?_
    rw [Around.under_plainId PySem.F.plain_extend_loop _]
    show wpAny _ A.in1 (pyNext (.ref z) >>= _) _ _ _
    refine wpAny_bind (zl_next (s := { s with heap := h, toks := tk }) (A := A.in1) (i := i) Sp D1 D2 hst hG hTI st1 st2 (by omega) (by omega) fun x1 x2 h' tk' y1 y2 hst' st1' st2' ht hz' hkp => ?_)
    dsimp only at ht hz' hkp hst' ⊢
    have hSl : S < h.objs.size := Heap.lt_size hS
    have hS' := hkp S _ hSz hSTO hSi1 hSi2 hS
    have up : ∀ b o, b ≠ S → h'.get? b = some o → (h'.update S (Obj.mapSeq (·.push (Value.ref h.objs.size)))).get? b = some o := fun b o hb e => (Heap.get?_update_other _ _ (Ne.symm hb)).trans e
    show wpAny _ A.in1 (updateSeq S (·.push (Value.ref h.objs.size)) >>= _) _ _ _
    refine wpAny_bind ?_
    refine wpAny_updateSeq hS' rfl (wpAny_pure ⟨plainId_quiet PySem.F.plain_extend_loop _, ih (i + 1) _ tk' _ (acc.push (Value.ref h.objs.size)) (as ++ [h.objs.size]) (by omega) hlt (hst'.up (fun o e => up _ o hSz.symm e) (fun o e => up _ o hSTO.symm e)) (up _ _ hSTI.symm (hkp _ _ Sp.TIz Sp.TITO Sp.TIi1 Sp.TIi2 hTI))
      (D1.frame _ _ _ st1' fun b hb o e => up b o (fun q => hS1 (q ▸ hb)) e) (D2.frame _ _ _ st2' fun b hb o e => up b o (fun q => hS2 (q ▸ hb)) e)
      (fun b o h1 h2 h3 h4 h5 e => up b o h1 (hkp b o h2 h3 h4 h5 (hkeep b o h1 h2 h3 h4 h5 e))) (Heap.get?_update_self _ hS' rfl) (by rw [Array.toList_push, hacc, List.map_append]; rfl) (by rw [List.length_append, hal]; rfl) ⟨?_, ?_, ?_⟩ ?_⟩) (by rw [hsz]; omega) (by show (acc.push (Value.ref h.objs.size)).size ≤ sizeLine + 1; rw [Array.size_push, hsz]; omega)
    · refine List.pairwise_append.mpr ⟨hG.rise, List.pairwise_singleton _ _, fun a ha b hb => ?_⟩
      rw [List.mem_singleton.mp hb]
      obtain ⟨j, hj⟩ := List.mem_iff_getElem?.1 ha
      obtain ⟨_, _, _, _, e3⟩ := hG.pairs j a hj
      exact Heap.lt_size e3
    · intro a ha
      rcases List.mem_append.mp ha with ha | ha
      · exact hG.above a ha
      · rw [List.mem_singleton.mp ha]; exact hIs
    · intro j b hj
      rcases Nat.lt_trichotomy j as.length with q1 | q1 | q1
      · rw [List.getElem?_append_left q1] at hj
        obtain ⟨u1, u2, p1, p2, e3⟩ := hG.pairs j b hj
        have hb := hG.above b (List.mem_of_getElem? hj)
        exact ⟨u1, u2, p1, p2, up b _ (Nat.ne_of_gt (Nat.lt_of_lt_of_le lS hb)) (hkp b _ (Nat.ne_of_gt (Nat.lt_of_lt_of_le lz hb)) (Nat.ne_of_gt (Nat.lt_of_lt_of_le lTO hb)) (Nat.ne_of_gt (Nat.lt_of_lt_of_le l1 hb)) (Nat.ne_of_gt (Nat.lt_of_lt_of_le l2 hb)) e3)⟩
      · subst q1
        have hb : h.objs.size = b := by simpa using hj
        subst hb
        exact ⟨x1, x2, by rw [hal]; exact y1, by rw [hal]; exact y2, up _ _ (Nat.ne_of_gt hSl) ht⟩
      · have hnone : (as ++ [h.objs.size])[j]? = none := List.getElem?_eq_none (by rw [List.length_append, List.length_singleton]; omega)
        rw [hnone] at hj; cases hj
    · have e : (h'.update S (Obj.mapSeq (·.push (Value.ref h.objs.size)))).get? h.objs.size = _ := up _ _ (Nat.ne_of_gt hSl) ht
      exact Nat.le_trans hIs (Nat.le_of_lt (Heap.lt_size e))
end
theorem zip_no_len : typeLookup (.type "zip") "__len__" = pure none := am_miss_of_fast (by decide +kernel)
theorem zip_no_hint : typeLookup (.type "zip") "__length_hint__" = pure none := am_miss_of_fast (by decide +kernel)
section
variable {prog : Program} {w : World} {A : Around} {E : Value → Shared → Prop} {s : Shared} {z TI TO i1 i2 : Addr} {fp1 fp2 : List Addr} {n1 n2 : Nat} {P1 P2 : Nat → Value → Prop} {St1 St2 : Nat → Heap → Prop}
theorem zl_hint (hT : s.TypeIs (.ref z) "zip") {Q : Bool → Shared → Prop} (h : ∀ b, Q b s) : wpAny (model prog w) A (Builtin.List.listLengthHint (.ref z)) Q E s := by
  unfold Builtin.List.listLengthHint
  refine wpAny_bind (wpAny_specialOf hT zip_no_len ?_)
  show wpAny _ _ (specialOf (Value.ref z) (Str.ofString "__length_hint__") >>= _) _ _ _
  refine wpAny_bind (wpAny_specialOf hT zip_no_hint ?_)
  exact wpAny_pure (h _)
theorem zl_extend {R : Result → Shared → Prop} (Sp : ZipSep2 z TI TO i1 i2 fp1 fp2) (D1 : Draws prog w A.in1.in1 i1 fp1 n1 P1 St1) (D2 : Draws prog w A.in1.in1 i2 fp2 n2 P2 St2) {a1 a2 : Value}
    (hz : IsZip s.heap z TI TO .none) (hTI : IsTupOf2 s.heap TI (.ref i1) (.ref i2)) (hTO : IsTupOf2 s.heap TO a1 a2) (st1 : St1 0 s.heap) (st2 : St2 0 s.heap) (hfp1 : i1 < s.heap.objs.size) (hfp2 : i2 < s.heap.objs.size)
    (S : Addr) (hSz : S ≠ z) (hSTI : S ≠ TI) (hSTO : S ≠ TO) (hS1 : S ∉ fp1) (hS2 : S ∉ fp2) (res : Value) (c₀ : Nat) (hS : s.heap.get? S = some { cls := .type "list", data := .seq #[] c₀ })
    (hR : ∀ h' tk acc c as, (∀ b o, b ≠ S → b ≠ z → b ≠ TO → b ≠ i1 → b ≠ i2 → s.heap.get? b = some o → h'.get? b = some o) → h'.get? S = some { cls := .type "list", dict := none, data := .seq acc c, slots := #[] } → as.length = min n1 n2 → Made2 P1 P2 s.heap.objs.size h' as →
      acc.toList = as.map Value.ref → R (.ok (.ret res)) { s with heap := h', toks := tk }) (hn : min n1 n2 ≤ sizeLine) :
    wpAny (model prog w) A.in1 (Builtin.List.listExtendWith (.ref S) (.ref z) res)
      (fun fin s' => match fin with | .done f => R (.ok f) s' | .again c' => c'.quiet = true ∧ codeAny (model prog w) A c' R s') (fun e s' => R (.error e) s') s := by
  have key : ∀ (h : Heap) (c₁ tk : Nat), (∀ b o, b ≠ S → s.heap.get? b = some o → h.get? b = some o) → h.objs.size = s.heap.objs.size →
      h.get? S = some { cls := .type "list", data := .seq #[] c₁ } → codeAny (model prog w) A (.builtin "list.extend.loop" ⟨[.ref S, .ref z, res], []⟩) R { s with heap := h, toks := tk } := by
    intro h c₁ tk hk hsz hS₁
    refine zl_loop (s := s) (h₁ := s.heap) (lo := s.heap.objs.size) Sp D1 D2 (Heap.lt_size hz) (Heap.lt_size hTI) (Heap.lt_size hTO) hfp1 hfp2 (Heap.lt_size hS) hSz hSTI hSTO hS1 hS2 hn res hR
      (min n1 n2) 0 h tk c₁ #[] [] (Nat.sub_zero _) (Nat.zero_le _) (.inl ⟨rfl, hk _ _ hSz.symm hz, a1, a2, hk _ _ hSTO.symm hTO⟩) (hk _ _ hSTI.symm hTI) (D1.frame _ _ _ st1 fun b hb o e => hk b o (fun q => hS1 (q ▸ hb)) e) (D2.frame _ _ _ st2 fun b hb o e => hk b o (fun q => hS2 (q ▸ hb)) e)
      (fun b o hb _ _ _ _ e => hk b o hb e) hS₁ rfl rfl ⟨List.Pairwise.nil, (fun _ ha => nomatch ha), (fun j a hj => by simp at hj)⟩ (Nat.le_of_eq hsz.symm)
  have hTy : s.TypeIs (.ref z) "zip" := ⟨_, hz, rfl⟩
  unfold Builtin.List.listExtendWith
  refine wpAny_bind (wpAny_typeOf (T := "zip") hTy ?_)
  have h1 : Builtin.List.listSameRef (.ref S) (.ref z) = false := by simp [Builtin.List.listSameRef, hSz]
  have h2 : (Value.type "zip" == Value.type "list") = false := by decide
  have h3 : (Value.type "zip" == Value.type "tuple") = false := by decide
  simp only [h1, h2, h3, Bool.or_false, Bool.false_eq_true, if_false]
  refine wpAny_bind (wpAny_pyIter_zip hz ?_)
  refine wpAny_bind (wpAny_holding (zl_hint hTy fun b => ?_))
  refine wpAny_ite_split (fun _ => ?_) (fun _ => wpAny_pure ⟨plainId_quiet PySem.F.plain_extend_loop _, key _ c₀ _ (fun b o _ e => e) rfl hS⟩)
  refine wpAny_bind (wpAny_rule ?_)
  refine wpAny_bind ?_
  show wpAny _ _ (updateSeq S (·.push .none) >>= fun _ => updateSeq S (·.pop)) _ _ _
  refine wpAny_bind (wpAny_updateSeq hS rfl ?_)
  have hS₂ := Heap.get?_update_self (Obj.mapSeq (·.push Value.none)) hS rfl
  refine wpAny_updateSeq (hz := by seq_fits) hS₂ rfl ?_
  have hS₃ := Heap.get?_update_self (Obj.mapSeq (·.pop)) hS₂ rfl
  refine wpAny_pure ⟨plainId_quiet PySem.F.plain_extend_loop _, key _ _ _ (fun b o hb e => ?_) (by rw [Heap.size_update, Heap.size_update]) hS₃⟩
  exact (Heap.get?_update_other _ _ (Ne.symm hb)).trans ((Heap.get?_update_other _ _ (Ne.symm hb)).trans e)
end
end HD

/-! HX13: list(zip(a, b)) as a value -/
namespace HD
open PySem PyProof.Rows L2
section
variable {prog : Program} {w : World} {A : Around} {E : Value → Shared → Prop} {s : Shared} {z TI TO i1 i2 : Addr} {fp1 fp2 : List Addr} {n1 n2 : Nat} {P1 P2 : Nat → Value → Prop} {St1 St2 : Nat → Heap → Prop}
theorem zl_init {R : Result → Shared → Prop} (Sp : ZipSep2 z TI TO i1 i2 fp1 fp2) (D1 : Draws prog w A.in1.in1 i1 fp1 n1 P1 St1) (D2 : Draws prog w A.in1.in1 i2 fp2 n2 P2 St2) {a1 a2 : Value}
    (hz : IsZip s.heap z TI TO .none) (hTI : IsTupOf2 s.heap TI (.ref i1) (.ref i2)) (hTO : IsTupOf2 s.heap TO a1 a2) (st1 : St1 0 s.heap) (st2 : St2 0 s.heap) (hfp1 : i1 < s.heap.objs.size) (hfp2 : i2 < s.heap.objs.size)
    (S : Addr) (hSz : S ≠ z) (hSTI : S ≠ TI) (hSTO : S ≠ TO) (hS1 : S ∉ fp1) (hS2 : S ∉ fp2) (hS : s.heap.get? S = some { cls := .type "list", data := .seq #[] })
    (hR : ∀ h' tk acc c as, (∀ b o, b ≠ S → b ≠ z → b ≠ TO → b ≠ i1 → b ≠ i2 → s.heap.get? b = some o → h'.get? b = some o) → h'.get? S = some { cls := .type "list", dict := none, data := .seq acc c, slots := #[] } → as.length = min n1 n2 → Made2 P1 P2 s.heap.objs.size h' as →
      acc.toList = as.map Value.ref → R (.ok (.ret .none)) { s with heap := h', toks := tk }) (hn : min n1 n2 ≤ sizeLine) :
    wpAny (model prog w) A.in1 (Builtin.«list.__init__» ⟨[.ref S, .ref z], []⟩)
      (fun fin s' => match fin with | .done f => R (.ok f) s' | .again c' => c'.quiet = true ∧ codeAny (model prog w) A c' R s') (fun e s' => R (.error e) s') s := by
  show wpAny _ _ (do let old ← Builtin.List.listItems (.ref S); Builtin.List.listUpdate (.ref S) (fun _ => #[]); letGo old.toList.reverse; Builtin.List.listExtendWith (.ref S) (.ref z) .none) _ _ s
  refine wpAny_bind ?_
  unfold Builtin.List.listItems
  refine wpAny_bind (wpAny_seqItems hS rfl (wpAny_pure ?_))
  show wpAny _ _ (updateSeq S (fun _ => #[]) >>= fun _ => letGo (#[] : Array Value).toList.reverse >>= fun _ => Builtin.List.listExtendWith (.ref S) (.ref z) .none) _ _ s
  refine wpAny_bind (wpAny_updateSeq hS rfl ?_)
  have hS₂ := Heap.get?_update_self (Obj.mapSeq (fun _ => (#[] : Array Value))) hS rfl
  have sz : (s.heap.update S (Obj.mapSeq (fun _ => (#[] : Array Value)))).objs.size = s.heap.objs.size := Heap.size_update _ _ _
  have oth : ∀ b o, b ≠ S → s.heap.get? b = some o → (s.heap.update S (Obj.mapSeq (fun _ => (#[] : Array Value)))).get? b = some o := fun b o hb e => (Heap.get?_update_other _ _ (Ne.symm hb)).trans e
  refine wpAny_bind (wpAny_letGo ?_)
  refine zl_extend (a1 := a1) (a2 := a2) Sp D1 D2 (oth _ _ hSz.symm hz) (oth _ _ hSTI.symm hTI) (oth _ _ hSTO.symm hTO) (D1.frame _ _ _ st1 fun b hb o e => oth b o (fun q => hS1 (q ▸ hb)) e) (D2.frame _ _ _ st2 fun b hb o e => oth b o (fun q => hS2 (q ▸ hb)) e) (by show i1 < (s.heap.update S _).objs.size; rw [sz]; exact hfp1) (by show i2 < (s.heap.update S _).objs.size; rw [sz]; exact hfp2) S hSz hSTI hSTO hS1 hS2 .none _ hS₂ (fun h' tk acc c as hk hS' hl hG hacc => ?_) hn
  have hG' : Made2 P1 P2 (s.heap.update S (Obj.mapSeq (fun _ => (#[] : Array Value)))).objs.size h' as := hG
  rw [sz] at hG'
  exact hR h' tk acc c as (fun b o hb b2 b3 b4 b5 e => hk b o hb b2 b3 b4 b5 (oth b o hb e)) hS' hl hG' hacc
theorem zl_call {Q : Value → Shared → Prop} (Sp : ZipSep2 z TI TO i1 i2 fp1 fp2) (D1 : Draws prog w A.in1.in1.in1 i1 fp1 n1 P1 St1) (D2 : Draws prog w A.in1.in1.in1 i2 fp2 n2 P2 St2) {a1 a2 : Value}
    (hz : IsZip s.heap z TI TO .none) (hTI : IsTupOf2 s.heap TI (.ref i1) (.ref i2)) (hTO : IsTupOf2 s.heap TO a1 a2) (st1 : St1 0 s.heap) (st2 : St2 0 s.heap) (hfp1 : ∀ b ∈ fp1, b < s.heap.objs.size) (hfp2 : ∀ b ∈ fp2, b < s.heap.objs.size) (hn : min n1 n2 ≤ sizeLine)
    (hQ : ∀ h' tk acc c as, (∀ b o, b ≠ z → b ≠ TO → b ≠ i1 → b ≠ i2 → s.heap.get? b = some o → h'.get? b = some o) → h'.get? s.heap.objs.size = some { cls := .type "list", dict := none, data := .seq acc c, slots := #[] } → as.length = min n1 n2 → Made2 P1 P2 (s.heap.objs.size + 1) h' as →
      acc.toList = as.map Value.ref → Q (.ref s.heap.objs.size) { s with heap := h', toks := tk }) :
    wpAny (model prog w) A (call (.type "list") [.ref z]) Q E s := by
  refine callType_codes (Q₁ := fun obj s₁ => obj = .ref s.heap.objs.size ∧ s₁ = { s with heap := s.heap.push { cls := .type "list", data := .seq #[] } }) PySem.F.called_list (PySem.F.typeCall_list_1 _) PySem.F.entry_list_init
    (code_list_new _ ⟨rfl, rfl⟩) fun obj s₁ h₁ => ?_
  obtain ⟨rfl, rfl⟩ := h₁
  have hS : (s.heap.push { cls := .type "list", data := .seq #[] }).get? s.heap.objs.size = some { cls := .type "list", data := .seq #[] } := Heap.get?_push_size _ rfl
  have up : ∀ b o, s.heap.get? b = some o → (s.heap.push { cls := .type "list", data := .seq #[] }).get? b = some o := fun b o e => Heap.get?_push_of_some _ e
  have sz : (s.heap.push { cls := .type "list", data := .seq #[] }).objs.size = s.heap.objs.size + 1 := Heap.size_push ..
  have ne : ∀ {b : Addr} {o : Obj}, s.heap.get? b = some o → s.heap.objs.size ≠ b := fun e => Nat.ne_of_gt (Heap.lt_size e)
  refine ⟨⟨_, hS, rfl⟩, PySem.F.args_list_init_2 _ _, zl_init (A := A.in1) (a1 := a1) (a2 := a2) Sp D1 D2 (up _ _ hz) (up _ _ hTI) (up _ _ hTO) (D1.frame _ _ _ st1 fun b _ o e => up b o e) (D2.frame _ _ _ st2 fun b _ o e => up b o e) (by show i1 < (s.heap.push _).objs.size; rw [sz]; exact Nat.lt_succ_of_lt (hfp1 _ Sp.mem1)) (by show i2 < (s.heap.push _).objs.size; rw [sz]; exact Nat.lt_succ_of_lt (hfp2 _ Sp.mem2)) _ (ne hz) (ne hTI) (ne hTO) (fun m => Nat.lt_irrefl _ (hfp1 _ m)) (fun m => Nat.lt_irrefl _ (hfp2 _ m)) hS (fun h' tk acc c as hk hS' hl hG hacc => ?_) hn⟩
  have hG' : Made2 P1 P2 (s.heap.push { cls := .type "list", data := .seq #[] }).objs.size h' as := hG
  rw [sz] at hG'
  exact ⟨rfl, hQ h' tk acc c as (fun b o b2 b3 b4 b5 e => hk b o (ne e).symm b2 b3 b4 b5 (up b o e)) hS' hl hG' hacc⟩
end
/-- the pairs tracked at their addresses -/
def putZ : Hp → List Addr → List (V × V) → Hp
  | H, a :: as, p :: ps => putZ (upd H a (.tup [p.1, p.2])) as ps
  | H, _, _ => H
theorem putZ_off {b : Addr} : ∀ (as : List Addr) (ps : List (V × V)) (H : Hp), b ∉ as → putZ H as ps b = H b
  | [], _, _, _ => rfl
  | _ :: _, [], _, _ => rfl
  | a :: as, p :: ps, H, h => by
    show putZ (upd H a (.tup [p.1, p.2])) as ps b = H b
    rw [putZ_off as ps _ (fun z => h (List.mem_cons_of_mem _ z)), upd_ne (fun z => h (by rw [z]; exact List.mem_cons_self))]
theorem putZ_at : ∀ (as : List Addr) (ps : List (V × V)) (H : Hp), as.length = ps.length → as.Nodup → ∀ (j : Nat) (a : Addr) (p : V × V), as[j]? = some a → ps[j]? = some p → putZ H as ps a = some (.tup [p.1, p.2])
  | [], _, _, _, _, _, _, _, e, _ => by simp at e
  | _ :: _, [], _, h, _, _, _, _, _, _ => by cases h
  | a :: as, p :: ps, H, h, hn, 0, b, q, e1, e2 => by
    have hn' := List.nodup_cons.mp hn
    cases Option.some.inj e1
    cases Option.some.inj e2
    show putZ (upd H a (.tup [p.1, p.2])) as ps a = _
    rw [putZ_off as ps _ hn'.1, upd_same]
  | a :: as, p :: ps, H, h, hn, j + 1, b, q, e1, e2 => putZ_at as ps _ (Nat.succ.inj h) (List.nodup_cons.mp hn).2 j b q e1 e2
def rListZip (K : PySem.W.Frag) : List V → Hp → VK → Prop := fun vs H Q => ∃ b1 b2 a b xs ys, vs = [.ref a, .ref b] ∧ SqX b1 K H a xs ∧ SqX b2 K H b ys ∧
  ∀ (H' : Hp) (p : Addr) (ts : List Addr), (∀ b o, H b = some o → H' b = some o) → H p = none → (∀ t ∈ ts, H t = none) → p ∉ ts → H' p = some (.lst (ts.map V.ref)) → ts.length = (xs.zip ys).length → (∀ (j : Nat) t q, ts[j]? = some t → (xs.zip ys)[j]? = some q → H' t = some (.tup [q.1, q.2])) → Q (.ref p) H'
def tListZip (K : PySem.W.Frag) (ta : TA) : TE := fun σ H Q => ta σ H fun vs H1 => rListZip K vs H1 Q
theorem laidZ {X : Cx} {pins : List (Addr × Obj)} {σ : L2.St} {H : Hp} {s : Shared} {h' : Heap} {tk : Nat} {p : Addr} {ps : List (V × V)} {us : List (Value × Value)} {acc : Array Value} {c : Nat} {as : List Addr} (I : Inv X pins σ H s) (hz : ps.length ≤ sizeLine)
    (hk : ∀ b o, s.heap.get? b = some o → h'.get? b = some o) (hp : s.heap.objs.size ≤ p) (hS : h'.get? p = some { cls := .type "list", dict := none, data := .seq acc c, slots := #[] }) (hl : as.length = ps.length) (nd : as.Nodup) (hpa : p ∉ as) (hlo : ∀ a ∈ as, s.heap.objs.size ≤ a)
    (hat : ∀ (j : Nat) a q, as[j]? = some a → ps[j]? = some q → ∃ u v, RelV q.1 u ∧ RelV q.2 v ∧ IsTupOf2 h' a u v) (hacc : acc.toList = as.map Value.ref) :
    (∀ b o, H b = some o → putZ (upd H p (.lst (as.map V.ref))) as ps b = some o) ∧ H p = none ∧ (∀ t ∈ as, H t = none) ∧ putZ (upd H p (.lst (as.map V.ref))) as ps p = some (.lst (as.map V.ref)) ∧ Inv X pins σ (putZ (upd H p (.lst (as.map V.ref))) as ps) { s with heap := h', toks := tk } := by
  have new : ∀ t ∈ as, H t = none := fun t ht => I.hok.fresh (hlo t ht)
  have newS : H p = none := I.hok.fresh hp
  have off : ∀ b, b ∉ as → b ≠ p → putZ (upd H p (.lst (as.map V.ref))) as ps b = H b := fun b q1 q2 => by rw [putZ_off as ps _ q1, upd_ne q2]
  have low : ∀ b o, s.heap.get? b = some o → b ∉ as ∧ b ≠ p := fun b o e => ⟨fun z => absurd (Heap.lt_size e) (Nat.not_lt.mpr (hlo b z)), Nat.ne_of_lt (Nat.lt_of_lt_of_le (Heap.lt_size e) hp)⟩
  have kp : ∀ b u, H b = some u → (putZ (upd H p (.lst (as.map V.ref))) as ps) b = some u := fun b u e => by
    rw [off b (fun z => by rw [new b z] at e; cases e) (fun z => by rw [z, newS] at e; cases e)]
    exact e
  have eS : putZ (upd H p (.lst (as.map V.ref))) as ps p = some (.lst (as.map V.ref)) := by rw [putZ_off as ps _ hpa, upd_same]
  refine ⟨kp, newS, new, eS, ?_⟩
  refine I.call' (ch := []) rfl ⟨fun b o q _ _ _ => hk b o q, fun b o q _ _ _ => ⟨o.slots, hk b o q⟩, fun b o q n _ => ?_, fun b o q _ => ⟨o, hk b o q⟩, fun b xs q => kp b _ q, fun b o u q => kp b _ q, fun b ps' q => ⟨#[], by rw [kp b _ q]; simp⟩⟩ (fun b u q => ?_) I.bare fun b z => by simp at z
  · obtain ⟨z1, z2⟩ := low b o q
    rw [off b z1 z2]
    exact n
  · by_cases hb : b ∈ as
    · obtain ⟨j, hj⟩ := List.mem_iff_getElem?.1 hb
      have hjl : j < ps.length := by rw [← hl]; exact (List.getElem?_eq_some_iff.1 hj).1
      have e3 := putZ_at as ps (upd H p (.lst (as.map V.ref))) hl nd j b ps[j] hj (List.getElem?_eq_getElem hjl)
      rw [e3] at q
      cases q
      obtain ⟨u', v', r1, r2, f3⟩ := hat j b ps[j] hj (List.getElem?_eq_getElem hjl)
      exact ⟨by show 2 ≤ sizeLine; decide, [u', v'], .cons r1 (.cons r2 .nil), ⟨_, f3, rfl, _, rfl⟩⟩
    · by_cases hb2 : b = p
      · rw [hb2] at q ⊢
        rw [eS] at q
        cases q
        refine ⟨by rw [List.length_map]; omega, acc.toList, c, by rw [hacc]; exact LiI.vals_refs as, ?_⟩
        rw [Array.toArray_toList]
        exact hS
      · rw [off b hb hb2] at q
        exact (I.hok b u q).stay (fun d v _ y => hk d v y) (fun d y => kp d _ y) fun d xs y => kp d _ y
section
variable {X : Cx}
theorem pe_listZip {e e2 : Expr} {ta : TA} {p p2 pos pos2 : Pos} (hc : X.calm = true) (hg : Gl X "list") (hm : X.mg "list" = none) (hg2 : Gl X "zip") (hm2 : X.mg "zip" = none) (ha : PA X [e, e2] ta)
    (hs : starEach [e, e2] X.env = (false, eval e X.env) :: starEach [e2] X.env) (hpl : (backTo pos2 (starEach [e2] X.env)).any (·.1) = false)
    (n2 : starEach [.Call (.Name "zip" p2) [e, e2] [] pos2] X.env = (false, eval (.Call (.Name "zip" p2) [e, e2] [] pos2) X.env) :: starEach [] X.env) :
    PE X (.Call (.Name "list" p) [.Call (.Name "zip" p2) [e, e2] [] pos2] [] pos) (tListZip X.K ta) := by
  refine ⟨fun pins s σ H Q I h => ?_⟩
  refine Call_ (ld_blt I hg hm boot_list (PyProof.Rows.callWith_type1 (args_cons ?_ n2) n2))
  refine PyProof.Rows.Call_ (ld_blt I hg2 hm2 PyProof.Rows.boot_zip (PyProof.Rows.callWith_type1 (thn (ha.run pos2 pins s σ H _ I h) fun us s1 ⟨vs, H1, I1, r1, q1⟩ => ?_) hs hpl))
  obtain ⟨b1, b2, a, b, xs, ys, ex, hqx, hqy, q⟩ := q1
  subst ex
  obtain ⟨u1, u2, rfl, ru1, ru2⟩ := vals2 r1
  cases ru1
  cases ru2
  obtain ⟨its, rv, q1⟩ := Inv.seqX I1 hqx
  obtain ⟨its2, rv2, q2⟩ := Inv.seqX I1 hqy
  have hh := I1.ok.hd hc
  refine zip_begins2 (begins_X b1 a its.toArray) (begins_X b2 b its2.toArray) q1 q2 fun h' hz hTI hTO g1 g2 hsz hk => args_nil ?_
  have la := q1.lt
  have lb := q2.lt
  have Sp := zip_sep2 (N := s1.heap.objs.size) (fp1 := [a]) (fp2 := [b]) (fun c hc => by rw [List.mem_singleton.mp hc]; exact la) (fun c hc => by rw [List.mem_singleton.mp hc]; exact lb)
  have k1 : IsX b1 h' a its.toArray := by
    cases b1 with
    | true => obtain ⟨o, e, r⟩ := (q1 : s1.heap.IsTuple a _); exact ⟨o, hk _ _ e, r⟩
    | false => obtain ⟨o, e, r⟩ := (q1 : s1.heap.IsList a _); exact ⟨o, hk _ _ e, r⟩
  have k2 : IsX b2 h' b its2.toArray := by
    cases b2 with
    | true => obtain ⟨o, e, r⟩ := (q2 : s1.heap.IsTuple b _); exact ⟨o, hk _ _ e, r⟩
    | false => obtain ⟨o, e, r⟩ := (q2 : s1.heap.IsList b _); exact ⟨o, hk _ _ e, r⟩
  have lmin : min its.toArray.size its2.toArray.size = (xs.zip ys).length := by
    rw [List.size_toArray, List.size_toArray, ← rv.length, ← rv2.length, List.length_zip]
  have hzl : (xs.zip ys).length ≤ sizeLine := by
    have h1 : xs.length ≤ sizeLine := by
      cases b1 with
      | true => exact (I1.tuple hqx).choose_spec.2.2
      | false => exact (I1.list hqx).choose_spec.2.2
    rw [List.length_zip]
    omega
  refine zl_call (s := { s1 with heap := h' }) (a1 := .none) (a2 := .none) Sp (draws_X (prog := X.prog) (w := X.w) (A := X.A.in1.in1.in1) b1 hh s1.heap.objs.size a (Nat.ne_of_lt la) its.toArray) (draws_X (prog := X.prog) (w := X.w) (A := X.A.in1.in1.in1) b2 hh (s1.heap.objs.size + 1) b (Nat.ne_of_lt (Nat.lt_succ_of_lt lb)) its2.toArray)
    hz hTI hTO ⟨itX_new g1, k1⟩ ⟨itX_new g2, k2⟩ (fun c hc => ?_) (fun c hc => ?_) (by rw [lmin]; exact hzl) fun h2 tk acc c as hk2 hS hl hG hacc => ?_
  · show c < h'.objs.size
    rw [hsz]
    rcases List.mem_cons.1 hc with rfl | hc
    · exact Nat.lt_add_of_pos_right (by decide)
    · rw [List.mem_singleton.1 hc]; exact Nat.lt_add_right _ la
  · show c < h'.objs.size
    rw [hsz]
    rcases List.mem_cons.1 hc with rfl | hc
    · exact Nat.add_lt_add_left (by decide) _
    · rw [List.mem_singleton.1 hc]; exact Nat.lt_add_right _ lb
  · have hG' : Made2 (fun i v => its.toArray[i]? = some v) (fun i v => its2.toArray[i]? = some v) (h'.objs.size + 1) h2 as := hG
    have hS' : h2.get? h'.objs.size = some { cls := .type "list", dict := none, data := .seq acc c, slots := #[] } := hS
    have hk' : ∀ b o, s1.heap.get? b = some o → h2.get? b = some o := fun b o e => by
      have lt : b < s1.heap.objs.size := Heap.lt_size e
      exact hk2 b o (Nat.ne_of_lt (Nat.lt_add_right _ lt)) (Nat.ne_of_lt (Nat.lt_add_right _ lt)) (Nat.ne_of_lt lt) (Nat.ne_of_lt (Nat.lt_add_right _ lt)) (hk b o e)
    have nd : as.Nodup := List.Pairwise.imp (fun h => Nat.ne_of_lt h) hG'.rise
    have hpa : h'.objs.size ∉ as := fun m => Nat.lt_irrefl _ (hG'.above _ m)
    have hat : ∀ (j : Nat) t (pq : V × V), as[j]? = some t → (xs.zip ys)[j]? = some pq → ∃ u v, RelV pq.1 u ∧ RelV pq.2 v ∧ IsTupOf2 h2 t u v := fun j t pq hj hp => by
      obtain ⟨x1, x2, p1, p2, e3⟩ := hG'.pairs j t hj
      obtain ⟨e1, e2⟩ := List.getElem?_zip_eq_some.mp hp
      obtain ⟨u, hu, ru⟩ := rv.get e1
      obtain ⟨u2, hu2, ru2⟩ := rv2.get e2
      rw [List.getElem?_toArray, hu] at p1
      rw [List.getElem?_toArray, hu2] at p2
      cases p1
      cases p2
      exact ⟨_, _, ru, ru2, e3⟩
    obtain ⟨m1, m2, m3, m4, J⟩ := laidZ (tk := tk) (p := h'.objs.size) (ps := xs.zip ys) (us := []) I1 hzl hk' (by rw [hsz]; exact Nat.le_add_right _ _) hS' (by rw [← lmin]; exact hl) nd hpa (fun t ht => Nat.le_trans (by rw [hsz]; exact Nat.le_add_right _ 6) (hG'.above t ht)) hat hacc
    exact ⟨.ref h'.objs.size, _, J, rfl, q _ _ as m1 m2 m3 hpa m4 (by rw [← lmin]; exact hl) fun j t pq hj hp => putZ_at as _ _ (by rw [← lmin]; exact hl) nd j t pq hj hp⟩
end
section
variable {G : GG} {N : List Str} {sc : SC} {k : Nat} {a b : Expr} {ta tb : DT} {p p2 pos pos2 : Pos}
def dListZip (ta tb : DT) : DT := fun Ex env Q => ta Ex env fun x env1 => tb Ex env1 fun y env2 => seqD env2 x fun xs _ => seqD env2 y fun ys _ => ∀ a, Q (.lst a ((xs.zip ys).map fun p => D.tk [p.1, p.2])) env2
theorem de_listzip (ha : DE G N sc k a ta) (hb : DE G N sc k b tb) (hm : G.mg "list" = none) (hm2 : G.mg "zip" = none) (hg : GlS sc "list" := by rfl) (hg2 : GlS sc "zip" := by rfl) (hs : NoStar a [b] := by intro _; rfl) (hs2 : NoStar b [] := by intro _; rfl) (hpl : ∀ env, (backTo pos2 (starEach [b] env)).any (·.1) = false := by intro _; rfl)
    (n2 : NoStar (.Call (.Name "zip" p2) [a, b] [] pos2) [] := by intro _; rfl) : DE G N sc k (.Call (.Name "list" p) [.Call (.Name "zip" p2) [a, b] [] pos2] [] pos) (dListZip ta tb) := ⟨fun W => by
  obtain ⟨te, p1, i1⟩ := ha.ex W
  obtain ⟨tf, q1, i2⟩ := hb.ex W
  refine ⟨tListZip G.K (tCons te (tCons tf tNil)), fun X S => ?_, fun e Ex hl env T F σ H Q R hh ht hR => ?_⟩
  · rw [← S.K]
    exact pe_listZip S.calm (S.gl hg) (by rw [S.mg]; exact hm) (S.gl hg2) (by rw [S.mg]; exact hm2) (pa_cons (p1 X S) (pa_cons (q1 X S) pa_nil (hs2 _)) (hs _)) (hs _) (hpl _) (n2 _)
  · refine i1 e Ex hl env T F σ H _ _ hh ht fun v H1 F1 env1 x hh1 q1 => ?_
    refine i2 e Ex hl env1 _ F1 σ H1 _ _ hh1 q1 fun u H2 F2 env2 y hh2 q2 => ?_
    obtain ⟨b1, a1, xs, k1, F3, rfl, q3, sm3, hh3, st1, kk1⟩ := (hh2.perm (List.Perm.swap _ _ _)).seqD q2
    obtain ⟨b2, a2, ys, k2, F4, rfl, q4, sm4, hh4, st2, kk2⟩ := hh3.seqD q3
    obtain ⟨vs, s1, r1⟩ := st1.mono sm4 e env2 T F4 σ H2 hh4 (Same.refl _) kk1
    obtain ⟨us, s2, r2⟩ := st2 e env2 T F4 σ H2 hh4 (Same.refl _) kk2
    refine ⟨b1, b2, a1, a2, vs, us, rfl, s1, s2, fun H' p ts hk hp hts hpt hS hl2 hat => ?_⟩
    have aft := hh4.done hR
    have sm : Same F4 (fun c => if c ∈ ts then H' c else F4 c) := fun c o qc => by
      have nc : c ∉ ts := fun m => by rw [hh4.fh.free (hts c m)] at qc; cases qc
      show (if c ∈ ts then H' c else F4 c) = _
      rw [if_neg nc]
      exact qc
    refine aft (.ref p) (fun c => if c ∈ ts then H' c else F4 c) H' (.lst p ((xs.zip ys).map fun p => D.tk [p.1, p.2])) ⟨sm, hk, fun c o qc => ?_, fun c z => ?_⟩ ⟨rfl, ?_, ts.map V.ref, hS, ?_⟩ (fun c hc => ?_) (q4 p)
    · have qc' : (if c ∈ ts then H' c else F4 c) = some o := qc
      split at qc'
      · exact qc'
      · exact hk _ _ (hh4.fh _ _ qc')
    · by_cases m : c ∈ ts
      · exact .inr (hts c m)
      · have z' : (if c ∈ ts then H' c else F4 c) ≠ none := z
        rw [if_neg m] at z'
        exact .inl z'
    · show (if p ∈ ts then H' p else F4 p) = none
      rw [if_neg hpt]
      exact hh4.fh.free hp
    · refine Reps.of_get (by rw [List.length_map, List.length_map, hl2, List.length_zip, List.length_zip, r1.length, r2.length]) fun j d w hd hw => ?_
      rw [List.getElem?_map] at hd hw
      cases hq : (xs.zip ys)[j]? with
      | none => rw [hq] at hd; cases hd
      | some pq =>
        rw [hq] at hd
        cases ht : ts[j]? with
        | none => rw [ht] at hw; cases hw
        | some t =>
          rw [ht] at hw
          cases Option.some.inj hd
          cases Option.some.inj hw
          obtain ⟨e1, e2⟩ := List.getElem?_zip_eq_some.mp hq
          obtain ⟨v1, hv1, rv1⟩ := r1.get e1
          obtain ⟨v2, hv2, rv2⟩ := r2.get e2
          have h3 := hat j t (v1, v2) ht (List.getElem?_zip_eq_some.mpr ⟨hv1, hv2⟩)
          have mt : t ∈ ts := List.mem_of_getElem? ht
          refine ⟨t, [v1, v2], rfl, SqT.of ?_, ⟨v1, [v2], rfl, Rep.same sm rv1, v2, [], rfl, Rep.same sm rv2, rfl⟩⟩
          show (if t ∈ ts then H' t else F4 t) = _
          rw [if_pos mt]
          exact h3
    · rw [List.mem_singleton.1 hc]
      exact hp⟩
end
end HD

/-! HX14: a list of lists that are changed: [[] for x in t], x[i].append(e), the seal -/
namespace HD
open PySem PyProof.Rows L2
theorem retD_reg (env : Env') (a : Addr) (cs : List (Addr × OC)) (q : Sl → Env' → Prop) : retD env (.reg a cs) q = q (.reg a cs) env := rfl
/-- a list of lists, each its own -/
def nestC (a : Addr) (xs : List (Addr × List D)) : List (Addr × OC) := (a, .lst (xs.map fun p => .val (.ref p.1))) :: xs.map fun p => (p.1, .lst p.2)
abbrev nestS (a : Addr) (xs : List (Addr × List D)) : Sl := .reg a (nestC a xs)
theorem nest_own (a : Addr) (xs : List (Addr × List D)) : (nestS a xs).owned = a :: xs.map (·.1) := by
  show (nestC a xs).map (·.1) = _
  unfold nestC
  rw [List.map_cons, List.map_map]
  rfl
theorem refs_rep {K : PySem.W.Frag} {F : Hp} : ∀ (xs : List (Addr × List D)) {vs : List V}, Reps K F (xs.map fun p => D.val (.ref p.1)) vs → vs = xs.map fun p => V.ref p.1
  | [], _, h => h
  | p :: xs, _, h => by
    obtain ⟨v, r, rfl, h1, h2⟩ := h
    have e : v = .ref p.1 := h1
    rw [e, refs_rep xs h2]
    rfl
theorem rep_refs {K : PySem.W.Frag} {F : Hp} : ∀ (xs : List (Addr × List D)), Reps K F (xs.map fun p => D.val (.ref p.1)) (xs.map fun p => V.ref p.1)
  | [] => rfl
  | p :: xs => ⟨_, _, rfl, rfl, rep_refs xs⟩
theorem nodup_ix {α : Type} {l : List α} {x : α} (nd : l.Nodup) {i j : Nat} (h1 : l[i]? = some x) (h2 : l[j]? = some x) : i = j := by
  obtain ⟨l1, f1⟩ := List.getElem?_eq_some_iff.mp h1
  obtain ⟨l2, f2⟩ := List.getElem?_eq_some_iff.mp h2
  have p := List.pairwise_iff_getElem.mp nd
  rcases Nat.lt_trichotomy i j with h | h | h
  · exact absurd (f1.trans f2.symm) (p i j l1 l2 h)
  · exact h
  · exact absurd (f2.trans f1.symm) (p j i l2 l1 h)
section
variable {K : PySem.W.Frag} {e : Ent} {env : Env'} {T : Tmp} {F : Hp} {σ : L2.St} {H : Hp}
/-- what a nested list is -/
theorem nest_ok {v : V} {a : Addr} {xs : List (Addr × List D)} : SlOk K F H v (nestS a xs) ↔ v = .ref a ∧ (a :: xs.map (·.1)).Nodup ∧ F a = none ∧ H a = some (.lst (xs.map fun p => V.ref p.1)) ∧ ∀ p ∈ xs, F p.1 = none ∧ ∃ vs, H p.1 = some (.lst vs) ∧ Reps K F p.2 vs := by
  constructor
  · rintro ⟨h1, h2, h3⟩
    obtain ⟨n, o, ho, vs, rfl, hr⟩ := h3 (a, .lst (xs.map fun p => .val (.ref p.1))) List.mem_cons_self
    refine ⟨h1, by rw [← nest_own]; exact h2, n, by rw [← refs_rep xs hr]; exact ho, fun p hp => ?_⟩
    obtain ⟨n, o, ho, vs, rfl, hr⟩ := h3 (p.1, .lst p.2) (List.mem_cons_of_mem _ (List.mem_map.mpr ⟨p, hp, rfl⟩))
    exact ⟨n, vs, ho, hr⟩
  · rintro ⟨h1, h2, h3, h4, h5⟩
    refine ⟨h1, by rw [show (nestC a xs).map (·.1) = a :: xs.map (·.1) from nest_own a xs]; exact h2, fun p hp => ?_⟩
    rcases List.mem_cons.mp hp with rfl | hp
    · exact ⟨h3, _, h4, _, rfl, rep_refs xs⟩
    · obtain ⟨q, hq, rfl⟩ := List.mem_map.mp hp
      obtain ⟨n, vs, hv, hr⟩ := h5 q hq
      exact ⟨n, _, hv, vs, rfl, hr⟩
/-- an owned object is written, the slot follows -/
theorem Holds.writeR {i : Nat} {sl sl' : Sl} {b : Addr} {o : HO} (h : Holds K e env T F σ H) (hi : env[i]? = some sl) (hb : b ∈ sl.owned) (own : sl'.owned = sl.owned) (ok : ∀ v, SlOk K F H v sl → SlOk K F (upd H b o) v sl') (hu : sl ≠ .un) : Holds K e (env.set i sl') T F σ (upd H b o) := by
  obtain ⟨A, B, e1, e2⟩ := splitE hi
  have own' : ownedE (env.set i sl') = ownedE env := by rw [e1, e2, own]
  have mb : b ∈ ownedE env := mem_ownedE hi hb
  have mm : b ∈ ownedE env ++ ownedT T := List.mem_append_left _ mb
  obtain ⟨Fn, _⟩ := h.ownedH b mm
  refine ⟨fun c o' q => ?_, by rw [List.length_set]; exact h.len, fun j s q => ?_, fun p hp => (h.temps p hp).write fun m => ?_, by rw [own']; exact h.nd, h.s1, fun c o' q n => ?_, by rw [own']; exact h.s3⟩
  · have nb : c ≠ b := fun z => by
      rw [z, Fn] at q
      cases q
    rw [upd_ne nb]
    exact h.fh c o' q
  · rw [List.getElem?_set] at q
    split at q
    · rename_i ij
      subst ij
      split at q
      · cases q
        right
        rcases h.slots i _ hi with z | ⟨v, hv, q1⟩
        · exact absurd z hu
        · exact ⟨v, hv, ok v q1⟩
      · cases q
    · rename_i ij
      rcases h.slots j s q with z | ⟨v, hv, ok'⟩
      · exact .inl z
      · exact .inr ⟨v, hv, ok'.write fun m => ij (owned_two h.nd hi q hb m)⟩
  · exact (List.nodup_append.mp h.nd).2.2 b mb b (List.mem_flatMap.mpr ⟨p, hp, m⟩) rfl
  · have nb : c ≠ b := fun z => by
      subst z
      rcases h.s3 c mm with y | y
      · exact n y
      · rw [q] at y
        cases y
    rw [upd_ne nb]
    exact h.s2 c o' q n
/-- an inner list is changed -/
theorem Holds.nestW {i : Nat} {a b : Addr} {xs : List (Addr × List D)} {j : Nat} {ds ds' : List D} {us' : List V} (h : Holds K e env T F σ H) (hi : env[i]? = some (nestS a xs)) (hj : xs[j]? = some (b, ds)) (hr : Reps K F ds' us') : Holds K e (env.set i (nestS a (xs.set j (b, ds')))) T F σ (upd H b (.lst us')) := by
  obtain ⟨hjl, ej⟩ := List.getElem?_eq_some_iff.mp hj
  have mb : b ∈ xs.map (·.1) := List.mem_map.mpr ⟨(b, ds), List.mem_of_getElem? hj, rfl⟩
  have firsts : (xs.set j (b, ds')).map (·.1) = xs.map (·.1) := by
    rw [List.map_set]
    have : (xs.map (·.1))[j]? = some b := by rw [List.getElem?_map, hj]; rfl
    obtain ⟨hl, e2⟩ := List.getElem?_eq_some_iff.mp this
    rw [← e2]
    exact List.set_getElem_self hl
  have refs : (xs.set j (b, ds')).map (fun p => V.ref p.1) = xs.map fun p => V.ref p.1 := by
    have := congrArg (List.map V.ref) firsts
    rw [List.map_map, List.map_map] at this
    exact this
  refine h.writeR hi (by rw [nest_own]; exact List.mem_cons_of_mem _ mb) (by rw [nest_own, nest_own, firsts]) (fun v ok => ?_) (fun z => by cases z)
  obtain ⟨h1, h2, h3, h4, h5⟩ := nest_ok.1 ok
  have nab : a ≠ b := fun z => (List.nodup_cons.mp h2).1 (z ▸ mb)
  refine nest_ok.2 ⟨h1, by rw [firsts]; exact h2, h3, by rw [upd_ne nab, refs]; exact h4, fun p hp => ?_⟩
  obtain ⟨k, hk⟩ := List.mem_iff_getElem?.mp hp
  rw [List.getElem?_set] at hk
  split at hk
  · cases hk
    obtain ⟨n, _⟩ := h5 (b, ds) (List.mem_of_getElem? hj)
    exact ⟨n, us', upd_same, hr⟩
  · rename_i jk
    obtain ⟨n, vs, hv, hr'⟩ := h5 p (List.mem_of_getElem? hk)
    have npb : p.1 ≠ b := fun z => by
      have nd := (List.nodup_cons.mp h2).2
      have e1 : (xs.map (·.1))[k]? = some b := by rw [List.getElem?_map, hk, ← z]; rfl
      have e2 : (xs.map (·.1))[j]? = some b := by rw [List.getElem?_map, hj]; rfl
      exact jk (nodup_ix nd e2 e1)
    exact ⟨n, vs, by rw [upd_ne npb]; exact hv, hr'⟩
end
section
variable {G : GG} {N : List Str} {sc : SC} {k : Nat} {a b : Expr} {ta tb : DT} {apos cpos spos py pos : Pos} {x : Str}
/-- x[i].append(e), x a list of lists -/
def dNApp (i : Nat) (tI te : DT) : DT := fun Ex env Q => (∃ a0 xs0, env[i]? = some (nestS a0 xs0)) ∧ tI Ex env fun z env1 => match z with
  | .ext (.int n) => ∃ a1 xs b ds, env1[i]? = some (nestS a1 xs) ∧ atI xs n = some (b, ds) ∧ te Ex env1 fun y env2 => frzD env2 y fun d env3 =>
      ∃ a2 xs' j ds', env3[i]? = some (nestS a2 xs') ∧ xs'[j]? = some (b, ds') ∧ ds'.length < sizeLine ∧ Q (.ext .non) (env3.set i (nestS a2 (xs'.set j (b, ds' ++ [d]))))
  | _ => False
theorem atI_map {α β : Type} (f : α → β) {xs : List α} {n : Int} {y : α} (h : atI xs n = some y) : atI (xs.map f) n = some (f y) := by
  unfold atI at h ⊢
  rw [List.length_map]
  cases e : ixN xs.length n with
  | none => rw [e] at h; cases h
  | some j =>
    rw [e] at h
    show (xs.map f)[j]? = _
    have h' : xs[j]? = some y := h
    rw [List.getElem?_map, h']
    rfl
theorem de_napp (i : Nat) (hI : DE G N sc k a ta) (hb : DE G N sc k b tb) (hw : FewArgs (.Subscript (.Name x py) a spos) "append" b [] cpos := by intro _; exact ⟨rfl, rfl, rfl, rfl⟩) (hs : PlainIx a := by intro _ _; rfl) (hv : VisV N sc i x := by exact ⟨rfl, by first | exact Or.inl rfl | exact Or.inr (Or.inl rfl) | exact Or.inr (Or.inr rfl), by decide, by decide⟩) (hline : (apos.endLine == cpos.line) = true := by rfl) :
    DE G N sc k (.Call (.Attribute (.Subscript (.Name x py) a spos) "append" apos) [b] [] cpos) (dNApp i ta tb) := ⟨fun W => by
  obtain ⟨tf, p1, i1⟩ := hI.ex W
  obtain ⟨tg, p2, i2⟩ := hb.ex W
  refine ⟨tBM G.K "list" rAppend (tOp (rIx G.K) (tVar i) tf) (tCons tg tNil), fun X S => ?_, fun e Ex hl env T F σ H Q R hh ht hR => ?_⟩
  · obtain ⟨hbase, hfew, hst, hplain⟩ := hw X.env
    rw [← S.K]
    exact pe_bm PySem.F.plainAttrs_list PySem.F.slot_list_append PySem.F.type_list_append mt_append (pe_ix ix_seq (pe_var (by rw [S.nms]; exact hv.1) (S.vis hv.2.1) hv.2.2.1 hv.2.2.2) (p1 X S) hs) (pa_cons (p2 X S) pa_nil hst) hbase hfew hline hst hplain
  · obtain ⟨⟨a0, xs0, h0⟩, ht⟩ := ht
    rcases hh.slots i _ h0 with z | ⟨v0, hv0, ok0⟩
    · cases z
    obtain ⟨e0, _⟩ := nest_ok.1 ok0
    subst e0
    refine ⟨_, hv0, ?_⟩
    refine i1 e Ex hl env T F σ H _ _ hh ht fun u H1 F1 env1 z hh1 q1 => ?_
    cases z with
    | ext dz =>
      cases dz with
      | int n =>
        have eu : u = .int n := hh1.temps (u, .ext (.int n)) List.mem_cons_self
        obtain ⟨a1, xs, bb, ds, hi1, hat, q2⟩ := q1
        rcases hh1.slots i _ hi1 with z | ⟨v1, hv1, ok1⟩
        · cases z
        rw [hv0] at hv1
        cases hv1
        obtain ⟨e1, nd1, F1n, H1a, cells1⟩ := nest_ok.1 ok1
        have e1 : a0 = a1 := V.ref.inj e1
        subst e1
        have hmem : (bb, ds) ∈ xs := by
          unfold atI at hat
          cases ej : ixN xs.length n with
          | none => rw [ej] at hat; cases hat
          | some j => rw [ej] at hat; exact List.mem_of_getElem? hat
        obtain ⟨_, us, hus, _⟩ := cells1 (bb, ds) hmem
        refine pr_ix F1 H1 (.ref a0) u (.lst (xs.map fun p => D.val (.ref p.1))) (.int n) (fun sl => sl = .ext (.val (.ref bb))) _ hh1.fh (.inr ⟨a0, _, _, rfl, rfl, H1a, rep_refs xs⟩) (.inl eu) ⟨_, atI_map (fun p : Addr × List D => D.val (.ref p.1)) hat, rfl⟩ ?_
        intro w F2 H2 sl gr oks own esl
        subst esl
        have ew : w = .ref bb := oks
        subst ew
        have hh2 : Holds G.K e env1 T F2 σ H2 := hh1.pop.grow gr
        refine ⟨.inl ⟨rfl, us, SqL.of (gr.hh _ _ hus)⟩, ?_⟩
        refine i2 e Ex hl env1 T F2 σ H2 _ _ hh2 q2 fun y H3 F3 env3 sy hh3 q3 => ?_
        obtain ⟨d, F4, env4, _, hh4, rd, a2, xs', j, ds', hi4, hj4, hz, q4⟩ := hh3.frz1 q3
        rcases hh4.slots i _ hi4 with z | ⟨v4, hv4, ok4⟩
        · cases z
        obtain ⟨_, _, _, _, cells4⟩ := nest_ok.1 ok4
        obtain ⟨_, vs4, hvs4, r4⟩ := cells4 (bb, ds') (List.mem_of_getElem? hj4)
        show rAppend (.ref bb) [y] H3 R
        exact ⟨bb, vs4, y, rfl, rfl, hvs4, by rw [← r4.length]; exact hz, hR .non _ F4 _ (.ext .non) ((hh4.nestW hi4 hj4 (r4.append (.one rd))).pushE rfl) q4⟩
      | _ => exact q1.elim
    | _ => exact q1.elim⟩
end
section
variable {K : PySem.W.Frag} {e : Ent} {env : Env'} {T : Tmp} {F : Hp} {σ : L2.St} {H H' : Hp}
theorem SlOk.eqOn {v : V} {sl : Sl} (h : ∀ c ∈ sl.owned, H' c = H c) (ok : SlOk K F H v sl) : SlOk K F H' v sl := by
  cases sl with
  | un => trivial
  | ext d => exact ok
  | al i a => exact ok
  | lst a ds =>
    obtain ⟨h1, h2, vs, h3, h4⟩ := ok
    exact ⟨h1, h2, vs, by rw [h a (List.mem_singleton.mpr rfl)]; exact h3, h4⟩
  | reg a cs =>
    obtain ⟨h1, h2, h3⟩ := ok
    refine ⟨h1, h2, fun p hp => ?_⟩
    obtain ⟨n, o, ho, okc⟩ := h3 p hp
    exact ⟨n, o, by rw [h p.1 (List.mem_map.mpr ⟨p, hp, rfl⟩)]; exact ho, okc⟩
/-- the top temp is another one: it may have grown -/
theorem Holds.retop {v : V} {sl sl' : Sl} (h : Holds K e env ((v, sl) :: T) F σ H) (hH : ∀ c, c ∉ sl'.owned → H' c = H c) (new : ∀ c ∈ sl'.owned, c ∈ sl.owned ∨ H c = none) (ok : SlOk K F H' v sl') : Holds K e env ((v, sl') :: T) F σ H' := by
  have old := h.ownedH
  have nd := h.nd
  have nd1 : (ownedE env ++ (sl.owned ++ ownedT T)).Nodup := nd
  obtain ⟨n1, n2, n3⟩ := List.nodup_append.mp nd1
  obtain ⟨n4, n5, n6⟩ := List.nodup_append.mp n2
  have outE : ∀ c ∈ ownedE env, c ∉ sl'.owned := fun c hc m => by
    rcases new c m with z | z
    · exact n3 c hc c (List.mem_append_left _ z) rfl
    · obtain ⟨_, o, q⟩ := old c (List.mem_append_left _ hc)
      rw [z] at q
      cases q
  have outT : ∀ c ∈ ownedT T, c ∉ sl'.owned := fun c hc m => by
    rcases new c m with z | z
    · exact n6 c z c hc rfl
    · obtain ⟨_, o, q⟩ := old c (List.mem_append_right _ (List.mem_append_right _ hc))
      rw [z] at q
      cases q
  have hA : ∀ c o, e.H0 c = some o → c ∉ e.A0 → c ∉ sl'.owned := fun c o q n m => by
    rcases new c m with z | z
    · rcases h.s3 c (List.mem_append_right _ (List.mem_append_left _ z)) with y | y
      · exact n y
      · rw [q] at y
        cases y
    · rw [(h.s2 c o q n).1] at z
      cases z
  refine ⟨fun c o q => ?_, h.len, fun j s q => ?_, fun p hp => ?_, ?_, h.s1, fun c o q n => ?_, fun c hc => ?_⟩
  · have nc : c ∉ sl'.owned := fun m => by
      rcases new c m with z | z
      · rw [(old c (List.mem_append_right _ (List.mem_append_left _ z))).1] at q
        cases q
      · rw [h.fh _ _ q] at z
        cases z
    rw [hH c nc]
    exact h.fh c o q
  · rcases h.slots j s q with z | ⟨w, hw, okj⟩
    · exact .inl z
    · exact .inr ⟨w, hw, okj.eqOn fun c hc => hH c (outE c (mem_ownedE q hc))⟩
  · rcases List.mem_cons.mp hp with rfl | hp
    · exact ok
    · exact (h.temps p (List.mem_cons_of_mem _ hp)).eqOn fun c hc => hH c (outT c (List.mem_flatMap.mpr ⟨p, hp, hc⟩))
  · show (ownedE env ++ (sl'.owned ++ ownedT T)).Nodup
    refine List.nodup_append.mpr ⟨n1, List.nodup_append.mpr ⟨ok.ndo, n5, fun c hc d hd z => outT d hd (z ▸ hc)⟩, fun c hc d hd z => ?_⟩
    rcases List.mem_append.mp hd with hd | hd
    · exact outE c hc (z ▸ hd)
    · exact n3 c hc d (List.mem_append_right _ hd) z
  · obtain ⟨q1, q2⟩ := h.s2 c o q n
    exact ⟨by rw [hH c (hA c o q n)]; exact q1, q2⟩
  · have hc' : c ∈ ownedE env ++ (sl'.owned ++ ownedT T) := hc
    rcases List.mem_append.mp hc' with hc | hc
    · exact h.s3 c (List.mem_append_left _ hc)
    · rcases List.mem_append.mp hc with hc | hc
      · rcases new c hc with z | z
        · exact h.s3 c (List.mem_append_right _ (List.mem_append_left _ z))
        · cases q : e.H0 c with
          | none => exact .inr rfl
          | some o =>
            by_cases hA' : c ∈ e.A0
            · exact .inl hA'
            · exact absurd hc (hA c o q hA')
      · exact h.s3 c (List.mem_append_right _ (List.mem_append_right _ hc))
/-- one more inner list, new and empty -/
theorem Holds.nestAdd {D' p : Addr} {xs : List (Addr × List D)} (h : Holds K e env ((V.ref D', nestS D' xs) :: T) F σ H) (hp : H p = none) : Holds K e env ((V.ref D', nestS D' (xs ++ [(p, [])])) :: T) F σ (upd (upd H p (.lst [])) D' (.lst ((xs.map fun q => V.ref q.1) ++ [V.ref p]))) := by
  obtain ⟨_, nd, h3, h4, h5⟩ := nest_ok.1 (h.temps (V.ref D', nestS D' xs) List.mem_cons_self)
  have np : p ∉ D' :: xs.map (·.1) := fun m => by
    obtain ⟨_, o, q⟩ := h.ownedH p (List.mem_append_right _ (List.mem_append_left _ (show p ∈ (nestS D' xs).owned by rw [nest_own]; exact m)))
    rw [hp] at q
    cases q
  have nDp : D' ≠ p := fun z => np (by rw [z]; exact List.mem_cons_self)
  have own : (nestS D' (xs ++ [(p, [])])).owned = D' :: (xs.map (·.1) ++ [p]) := by rw [nest_own, List.map_append]; rfl
  refine h.retop (fun c hc => ?_) (fun c hc => ?_) (nest_ok.2 ⟨rfl, ?_, h3, ?_, fun q hq => ?_⟩)
  · rw [own] at hc
    rw [upd_ne (fun z => hc (by rw [z]; exact List.mem_cons_self)), upd_ne (fun z => hc (by rw [z]; simp))]
  · rw [own] at hc
    rw [nest_own]
    rcases List.mem_cons.mp hc with rfl | hc
    · exact .inl List.mem_cons_self
    · rcases List.mem_append.mp hc with hc | hc
      · exact .inl (List.mem_cons_of_mem _ hc)
      · rw [List.mem_singleton.mp hc]; exact .inr hp
  · rw [List.map_append]
    obtain ⟨m1, m2⟩ := List.nodup_cons.mp nd
    refine List.nodup_cons.mpr ⟨fun m => ?_, List.nodup_append.mpr ⟨m2, List.pairwise_singleton _ _, fun c hc d hd z => ?_⟩⟩
    · rcases List.mem_append.mp m with m | m
      · exact m1 m
      · exact nDp (List.mem_singleton.mp m)
    · have z' : c = p := z.trans (List.mem_singleton.mp hd)
      rw [z'] at hc
      exact np (List.mem_cons_of_mem _ hc)
  · rw [upd_same, List.map_append]
    rfl
  · rcases List.mem_append.mp hq with hq | hq
    · obtain ⟨n, vs, hv, hr⟩ := h5 q hq
      have mq : q.1 ∈ xs.map (·.1) := List.mem_map.mpr ⟨q, hq, rfl⟩
      have n1 : q.1 ≠ D' := fun z => (List.nodup_cons.mp nd).1 (z ▸ mq)
      have n2 : q.1 ≠ p := fun z => np (List.mem_cons_of_mem _ (z ▸ mq))
      exact ⟨n, vs, by rw [upd_ne n1, upd_ne n2]; exact hv, hr⟩
    · rw [List.mem_singleton.mp hq]
      exact ⟨h.fh.free hp, [], by rw [upd_ne nDp.symm, upd_same], rfl⟩
/-- the seal: the list of lists as frozen data -/
theorem Holds.sealN {i : Nat} {a : Addr} {xs : List (Addr × List D)} (h : Holds K e env T F σ H) (hi : env[i]? = some (nestS a xs)) : ∃ F1, Same F F1 ∧ Holds K e (env.set i (.ext (.lst (xs.map fun p => .lst p.2)))) T F1 σ H := by
  rcases h.slots i _ hi with z | ⟨v, hv, ok⟩
  · cases z
  obtain ⟨ev, nd, h3, h4, h5⟩ := nest_ok.1 ok
  have own := nest_own a xs
  have inE : ∀ c ∈ a :: xs.map (·.1), c ∈ ownedE env := fun c hc => mem_ownedE hi (by rw [own]; exact hc)
  have none : ∀ c ∈ a :: xs.map (·.1), F c = none := fun c hc => (h.ownedH c (List.mem_append_left _ (inE c hc))).1
  let F1 : Hp := fun c => if c ∈ a :: xs.map (·.1) then H c else F c
  have f1in : ∀ c ∈ a :: xs.map (·.1), F1 c = H c := fun c hc => if_pos hc
  have f1out : ∀ c, c ∉ a :: xs.map (·.1) → F1 c = F c := fun c hc => if_neg hc
  have sm : Same F F1 := fun c o q => by
    rw [f1out c (fun m => by rw [none c m] at q; cases q)]
    exact q
  have fz : ∀ {w : V} {sl : Sl}, (∀ c ∈ sl.owned, c ∉ a :: xs.map (·.1)) → SlOk K F H w sl → SlOk K F1 H w sl := fun {w sl} n okj => by
    cases sl with
    | un => trivial
    | ext d => exact Rep.same sm okj
    | al j b => exact okj
    | lst b ds =>
      obtain ⟨q1, q2, vs, q3, q4⟩ := okj
      exact ⟨q1, by rw [f1out b (n b (List.mem_singleton.mpr rfl))]; exact q2, vs, q3, q4.same sm⟩
    | reg b cs =>
      obtain ⟨q1, q2, q3⟩ := okj
      refine ⟨q1, q2, fun p hp => ?_⟩
      obtain ⟨m1, o, m2, m3⟩ := q3 p hp
      exact ⟨by rw [f1out p.1 (n p.1 (List.mem_map.mpr ⟨p, hp, rfl⟩))]; exact m1, o, m2, m3.same sm⟩
  obtain ⟨A, B, e1, e2⟩ := splitE hi
  have sub : (ownedE (env.set i (.ext (.lst (xs.map fun p => .lst p.2)))) ++ ownedT T).Sublist (ownedE env ++ ownedT T) := by
    rw [e2, e1]
    exact ((List.Sublist.refl _).append (List.sublist_append_right _ _)).append (List.Sublist.refl _)
  refine ⟨F1, sm, fun c o q => ?_, by rw [List.length_set]; exact h.len, fun j s q => ?_, fun p hp => fz (fun c hc m => ?_) (h.temps p hp), h.nd.sublist sub, h.s1.trans sm, fun c o q n => ?_, fun c hc => h.s3 c (sub.subset hc)⟩
  · by_cases m : c ∈ a :: xs.map (·.1)
    · rw [f1in c m] at q
      exact q
    · rw [f1out c m] at q
      exact h.fh c o q
  · rw [List.getElem?_set] at q
    split at q
    · rename_i ij
      subst ij
      split at q
      · cases q
        refine .inr ⟨v, hv, a, xs.map (fun p => V.ref p.1), ev, by rw [f1in a List.mem_cons_self]; exact h4, ?_⟩
        refine Reps.of_get (by rw [List.length_map, List.length_map]) fun j d w hd hw => ?_
        rw [List.getElem?_map] at hd hw
        cases hx : xs[j]? with
        | none => rw [hx] at hd; cases hd
        | some p =>
          rw [hx] at hd hw
          cases Option.some.inj hd
          cases Option.some.inj hw
          obtain ⟨_, vs, hvs, hr⟩ := h5 p (List.mem_of_getElem? hx)
          exact ⟨p.1, vs, rfl, by rw [f1in p.1 (List.mem_cons_of_mem _ (List.mem_map.mpr ⟨p, List.mem_of_getElem? hx, rfl⟩))]; exact hvs, hr.same sm⟩
      · cases q
    · rename_i ij
      rcases h.slots j s q with z | ⟨w, hw, okj⟩
      · exact .inl z
      · exact .inr ⟨w, hw, fz (fun c hc m => ij (owned_two h.nd hi q (by rw [own]; exact m) hc)) okj⟩
  · exact (List.nodup_append.mp h.nd).2.2 c (inE c m) c (List.mem_flatMap.mpr ⟨p, hp, hc⟩) rfl
  · obtain ⟨q1, q2⟩ := h.s2 c o q n
    refine ⟨q1, fun z => ?_⟩
    have nc : c ∉ a :: xs.map (·.1) := fun m => by
      rcases h.s3 c (List.mem_append_left _ (inE c m)) with y | y
      · exact n y
      · rw [q] at y
        cases y
    rw [f1out c nc]
    exact q2 z
end
/-- ahead of a statement a list of lists is sealed -/
def sSeal (i : Nat) (t : DTS) : DTS := fun Ex E env => ∃ a xs, env[i]? = some (nestS a xs) ∧ t Ex E (env.set i (.ext (.lst (xs.map fun p => .lst p.2))))
theorem ds_seal {G : GG} {N : List Str} {sc : SC} {k : Nat} {st : Stmt} {t : DTS} (i : Nat) (h : DS G N sc k st t) : DS G N sc k st (sSeal i t) := ⟨fun W => by
  obtain ⟨ts, p1, i1⟩ := h.ex W
  refine ⟨ts, p1, fun e Ex hl env F σ H E Dn hh ht ok => ?_⟩
  obtain ⟨a, xs, hi, ht⟩ := ht
  obtain ⟨F1, _, hh1⟩ := hh.sealN hi
  exact i1 e Ex hl _ F1 σ H E Dn hh1 ht ok⟩
/-- as many empty lists -/
def emp (bs : List Addr) : List (Addr × List D) := bs.map fun b => (b, [])
/-- [[] for x in t], x a name -/
def dNest (ti : DTI) (i : Nat) : DT := fun Ex env Q => ti Ex env fun items keep env1 => keep (env1.set i .un) ∧ items.length ≤ sizeLine ∧ ∀ a (bs : List Addr), bs.length = items.length → Q (nestS a (emp bs)) (env1.set i .un)
theorem im_nest {K : PySem.W.Frag} {W : WX} {wi : TI} {gg : TG} {ti : DTI} {i : Nat} (i1 : ImI K W wi ti) (i2 : ImG K [i] gg (gSet i)) : Im K W (tLc wi gg tYes (tLst tNil) [i]) (dNest ti i) := fun e Ex hl env T F σ H Q R hh ht hR => by
  refine i1 e Ex hl env T F σ H _ _ hh ht fun J H1 F1 env1 items keep hh1 src q1 => fun D' hD => ?_
  obtain ⟨kp, hz, q1⟩ := q1
  have h0 : Holds K e env1 ((V.ref D', nestS D' []) :: T) F1 σ (upd H1 D' (.lst [])) := hh1.push (Grow.loose hh1.fh hD) (nest_ok.2 ⟨rfl, List.pairwise_singleton _ _, hh1.fh.free hD, upd_same, fun p hp => nomatch hp⟩) fun a ha => by
    rw [nest_own] at ha
    rw [List.mem_singleton.mp ha]
    exact hD
  refine ⟨fun j m H' => ∃ (F' : Hp) (bs : List Addr), Holds K (e.at F1) (env1.set i .un) ((V.ref D', nestS D' (emp bs)) :: T) F' (wipe σ [i]) H' ∧ j + m = items.length ∧ bs.length = j,
    ⟨items.length, F1, [], (hh1.on h0 (Same.refl _)).wipe [i], by omega, rfl⟩, ?_⟩
  rintro j m H2 ⟨F2, bs, hh2, em, hbl⟩
  obtain ⟨s1, s2⟩ := src (e.at F1) (env1.set i .un) _ F2 _ H2 j hh2 hh2.s1 kp
  cases hd : items[j]? with
  | none =>
    have hj : items.length ≤ j := List.getElem?_eq_none_iff.mp hd
    exact .inl ⟨s1 (by omega), hR _ H2 F2 _ _ (hh1.off hh2.unwipe) (q1 D' bs (by omega))⟩
  | some d =>
    obtain ⟨hj, ed⟩ := List.getElem?_eq_some_iff.mp hd
    obtain ⟨go, yl⟩ := s2 d hd
    refine .inr ⟨go, fun H' => ∃ (F' : Hp) (bs : List Addr), Holds K (e.at F1) (env1.set i .un) ((V.ref D', nestS D' (emp bs)) :: T) F' (wipe σ [i]) H' ∧ bs.length = j + 1, fun H' ⟨F', bs', a1, a2⟩ => ⟨m - 1, by omega, F', bs', a1, by omega, a2⟩, fun x H3 hy => ?_⟩
    obtain ⟨F3, gr, rd⟩ := yl x H3 hy
    refine i2 (e.at F1) (env1.set i .un) _ F3 _ H3 x d (fun env' => env' = (env1.set i .un).set i (.ext d)) _ (hh2.grow gr) rd rfl fun env4 σ4 hh4 on4 q4 => ⟨wipe_only on4, ?_⟩
    subst q4
    have hyes : ∀ k : Bool → Hp → Prop, k true H3 → tYes σ4 H3 k := fun k h => h
    refine hyes _ ?_
    rw [if_pos rfl]
    refine ⟨Nat.zero_le _, fun p hp => ?_⟩
    obtain ⟨_, _, _, hDa, _⟩ := nest_ok.1 (hh4.temps (V.ref D', nestS D' (emp bs)) List.mem_cons_self)
    have nDp : D' ≠ p := fun z => by rw [← z, hDa] at hp; cases hp
    refine ⟨_, by rw [upd_ne nDp]; exact hDa, by rw [List.length_map, show (emp bs).length = bs.length from List.length_map _, hbl]; exact Nat.lt_of_lt_of_le hj hz, ?_⟩
    have z := (hh4.nestAdd hp).wipe [i]
    rw [wipe_only on4] at z
    have ee : wipeE ((env1.set i .un).set i (.ext d)) [i] = env1.set i .un := by
      show ((env1.set i .un).set i (.ext d)).set i .un = _
      rw [List.set_set, List.set_set]
    rw [ee] at z
    refine ⟨F3, bs ++ [p], ?_, by rw [List.length_append, hbl]; rfl⟩
    rw [show emp (bs ++ [p]) = emp bs ++ [(p, [])] from List.map_append]
    exact z
section
variable {G : GG} {N : List Str} {sc : SC} {k : Nat} {iter : Expr} {scope : Scope} {pos lpos : Pos} {ti : DTI} {tg : Expr}
/-- y = [[] for x in t] -/
theorem de_nest {x : Str} (i : Nat) (hi : DI G N sc k tg iter ti) (ok : blkC N sc.sc scope [(x, i)] = true) (hg : DG G N (lcS scope sc) tg [i] (gSet i)) (hs : ∀ env x, foldedSetIterable iter env x = pure x := by intro _ _; rfl) :
    DE G N sc k (.ListComp (.List [] lpos) [⟨tg, iter, [], 0⟩] scope pos) (dNest ti i) := ⟨fun W => by
  obtain ⟨wi, p1, i1⟩ := hi.ex W
  obtain ⟨gg, p2, i2⟩ := hg.ex
  refine ⟨tLc wi gg tYes (tLst tNil) [i], fun X S => ?_, im_nest i1 i2⟩
  exact pe_lc S.calm (by rw [S.nms]; exact S.nd) (p1 X S) (by rw [S.nms, S.scp]; exact blkOk_by ok) (fun s H C cl fp => p2 _ _ _ (S.blk s H scope C cl fp)) (fun s H C cl fp => pts_nil) (fun s H C cl fp => pe_lst pa_nil) (hs _)⟩
/-- the same as a statement, y a local -/
theorem ds_setNest {x y : Str} {py spos : Pos} (i j : Nat) (hi : DI G N sc k tg iter ti) (ok : blkC N sc.sc scope [(x, j)] = true) (hg : DG G N (lcS scope sc) tg [j] (gSet j)) (hy : N[i]? = some y := by rfl) (hyl : sc.sc.names.lookup y = some .local := by rfl)
    (hk : sc.sc.kind = .function := by rfl) (hl : (py.line == pos.line) = true := by rfl) (ha : (scope.names.any fun (n, k) => n == y && (k == .local || k == .cell)) = false := by decide +kernel) (hs : ∀ env x, foldedSetIterable iter env x = pure x := by intro _ _; rfl) :
    DS G N sc k (.Assign [.Name y py] (.ListComp (.List [] lpos) [⟨tg, iter, [], 0⟩] scope pos) spos) (sSet i (dNest ti j)) := ⟨fun W => by
  obtain ⟨wi, p1, i1⟩ := hi.ex W
  obtain ⟨gg, p2, i2⟩ := hg.ex
  refine ⟨tAsg (tLc wi gg tYes (tLst tNil) [j]) (gName i), fun X S => ?_, imS_set i (im_nest i1 i2)⟩
  have hyX : X.env.scope.names.lookup y = some .local := by
    rw [S.scp]
    exact hyl
  exact ps_setLc S.calm (by rw [S.nms]; exact S.nd) (by rw [S.nms]; exact hy) hyX (sw_true (by rw [S.scp]; exact hk) hyX hl ha) (p1 X S) (by rw [S.nms, S.scp]; exact blkOk_by ok) (fun s H C cl fp => p2 _ _ _ (S.blk s H scope C cl fp)) (fun s H C cl fp => pts_nil) (fun s H C cl fp => pe_lst pa_nil) (hs _)⟩
end
end HD

/-! KR: wholes and rests of sheets -/
namespace LS
open PySem L2 HD PM
local macro_rules | `(tactic| trivial) => `(tactic| try simp -dsimp only [↓sIf, ↓sRet, ↓retD_ext, ↓retD_lst, ↓retD_al, ↓sSet, ↓sSetE, ↓sAsg, ↓sDrop, ↓sNext, ↓sFor, ↓sRetN, ↓sCont, ↓sBreak, ↓dTest, ↓dOp, ↓dVar_w, ↓dC, ↓dCons, ↓dNil, ↓dTup, ↓dLst, ↓frzDs, ↓frzD_ext, ↓frzD_lst, ↓frzD_al, ↓wd_ext, ↓wd_lst, ↓wd_al, ↓wds, ↓AtS_ext, ↓AtS_lst, ↓AtL, ↓fAdd, ↓fSub, ↓fMul, ↓fDiv, ↓fMod, ↓fPow, ↓fCmp, ↓fIn, ↓fEq_ii, ↓fEq_ss, ↓fEq_bb, ↓fEq_tt, ↓fEq_ll, ↓fNe_ii, ↓fNe_ss, ↓fNe_bb, ↓fNe_tt, ↓fNe_ll, ↓fIx_l, ↓fIx_t, ↓fIx_k, ↓fIx_f, ↓GetS_some, ↓NatS_some, ↓fSl, ↓fIsN, ↓fNotN, ↓D.knN, ↓dNot, ↓dAnd, ↓dOr, ↓dAndV_w, ↓dOrV_w, ↓dNotV, ↓dIf, ↓dNeg, ↓dChain_w, ↓BlS_bl, ↓dCall_w, ↓dCallJ_w, ↓anyAl, ↓frozs, ↓froz, ↓gSet, ↓gTupD, ↓gsCons, ↓gsNil, ↓dSeq, ↓seqD_tup, ↓seqD_elst, ↓seqD_lst, ↓seqD_al, ↓dRange1, ↓dRange2, ↓dZip, ↓dCB, ↓dLc, ↓dYes, ↓dNoPart, ↓dPart, ↓dSl, ↓fLen, ↓fMin, ↓fMax, ↓fSum, ↓fAll, ↓fAny, ↓fSorted, ↓fTuple, ↓fList, ↓dRg1, ↓dRg2, ↓dLstRg, ↓dTupRg, ↓dIndex, ↓fIdx, ↓dAppend_w, ↓dExtend_w, ↓extD_lst, ↓dPopAt_w, ↓popD_int, ↓dPop_w, ↓mutD_w, ↓sSetItem_w, ↓setD_int, ↓dSortSet, ↓dTable_w, ↓wipeE, finals1, finals2, finals3, finals4, finals5, finals6, fin1_ext, fin1_lst, List.getElem?_cons_zero, List.getElem?_cons_succ, List.getElem?_nil, List.set_cons_zero, List.set_cons_succ, List.cons_append, List.nil_append, List.append_nil, List.replicate_succ, List.replicate_zero, List.map_cons, List.map_nil, List.length_cons, List.length_nil, true_and, and_true, ite_true, ite_false, if_true, if_false, Bool.false_eq_true, decide_eq_true_eq, Sl.plain, D.isSq, eq_self_iff_true, forall_const, reduceIte, true_or, or_true, atI_0, atI_1, atI_2, atI_3, ixN_0, ixN_1, ixN_2, AtS_ext, AtS_lst, FzS_lst, FzS_ext, GetS_some, NatS_some, ↓fIsi1, ↓fIsi2, BoolS_some, HD.kb_non_tuple, HD.kb_non_list, HD.kb_non_bool, HD.kb_non_int, HD.kb_non_str, HD.kb_bl_tuple, HD.kb_bl_list, HD.kb_bl_bool, HD.kb_bl_int, HD.kb_bl_str, HD.kb_int_tuple, HD.kb_int_list, HD.kb_int_bool, HD.kb_int_int, HD.kb_int_str, HD.kb_str_tuple, HD.kb_str_list, HD.kb_str_bool, HD.kb_str_int, HD.kb_str_str, HD.kb_lst_tuple, HD.kb_lst_list, HD.kb_lst_bool, HD.kb_lst_int, HD.kb_lst_str, HD.kb_tup_tuple, HD.kb_tup_list, HD.kb_tup_bool, HD.kb_tup_int, HD.kb_tup_str, ↓sFz_w, ↓FzS_lst, ↓FzS_ext, ↓dSortSetL, ↓fAbs, ↓fInt, ↓fRepr, ↓fLtT, ↓sRaise, ↓sTryKeep, ↓dCallV_w, ↓dMeth, ↓fCount, ↓fSplit, ↓seq_setE, ↓seq_set, ↓seq_drop, ↓seq_asg, ↓seq_if, ↓seq_for, ↓dStep, ↓fStep, ↓fMulT, ↓fIsB, ↓fNotB, ↓sPar, ↓dEnum, ↓dListZip, ↓dNest, ↓sSeal, ↓dNApp, ↓retD_reg])
local macro_rules | `(tactic| and_intros) => `(tactic| try simp -dsimp only [↓sIf, ↓sRet, ↓retD_ext, ↓retD_lst, ↓retD_al, ↓sSet, ↓sSetE, ↓sAsg, ↓sDrop, ↓sNext, ↓sFor, ↓sRetN, ↓sCont, ↓sBreak, ↓dTest, ↓dOp, ↓dC, ↓dCons, ↓dNil, ↓dTup, ↓dLst, ↓frzDs, ↓frzD_ext, ↓frzD_lst, ↓frzD_al, ↓wd_ext, ↓wd_lst, ↓wd_al, ↓wds, ↓AtS_ext, ↓AtS_lst, ↓AtL, ↓fAdd, ↓fSub, ↓fMul, ↓fDiv, ↓fMod, ↓fPow, ↓fCmp, ↓fIn, ↓fEq_ii, ↓fEq_ss, ↓fEq_bb, ↓fEq_tt, ↓fEq_ll, ↓fNe_ii, ↓fNe_ss, ↓fNe_bb, ↓fNe_tt, ↓fNe_ll, ↓fIx_l, ↓fIx_t, ↓fIx_k, ↓fIx_f, ↓GetS_some, ↓NatS_some, ↓fSl, ↓fIsN, ↓fNotN, ↓D.knN, ↓dNot, ↓dAnd, ↓dOr, ↓dAndV_w, ↓dOrV_w, ↓dNotV, ↓dIf, ↓dNeg, ↓dChain_w, ↓BlS_bl, ↓dCall_w, ↓dCallJ_w, ↓anyAl, ↓frozs, ↓froz, ↓gSet, ↓gTupD, ↓gsCons, ↓gsNil, ↓dSeq, ↓seqD_tup, ↓seqD_elst, ↓seqD_lst, ↓seqD_al, ↓dRange1, ↓dRange2, ↓dZip, ↓dCB, ↓dLc, ↓dYes, ↓dNoPart, ↓dPart, ↓dSl, ↓fLen, ↓fMin, ↓fMax, ↓fSum, ↓fAll, ↓fAny, ↓fSorted, ↓fTuple, ↓fList, ↓dRg1, ↓dRg2, ↓dLstRg, ↓dTupRg, ↓dIndex, ↓fIdx, ↓dAppend_w, ↓dExtend_w, ↓extD_lst, ↓dPopAt_w, ↓popD_int, ↓dPop_w, ↓mutD_w, ↓sSetItem_w, ↓setD_int, ↓dSortSet, ↓dTable_w, ↓wipeE, finals1, finals2, finals3, finals4, finals5, finals6, fin1_ext, fin1_lst, List.getElem?_cons_zero, List.getElem?_cons_succ, List.getElem?_nil, List.set_cons_zero, List.set_cons_succ, List.cons_append, List.nil_append, List.append_nil, List.replicate_succ, List.replicate_zero, List.map_cons, List.map_nil, List.length_cons, List.length_nil, true_and, and_true, ite_true, ite_false, if_true, if_false, Bool.false_eq_true, decide_eq_true_eq, Sl.plain, D.isSq, eq_self_iff_true, forall_const, reduceIte, true_or, or_true, atI_0, atI_1, atI_2, atI_3, ixN_0, ixN_1, ixN_2, AtS_ext, AtS_lst, FzS_lst, FzS_ext, GetS_some, NatS_some, ↓fIsi1, ↓fIsi2, BoolS_some, HD.kb_non_tuple, HD.kb_non_list, HD.kb_non_bool, HD.kb_non_int, HD.kb_non_str, HD.kb_bl_tuple, HD.kb_bl_list, HD.kb_bl_bool, HD.kb_bl_int, HD.kb_bl_str, HD.kb_int_tuple, HD.kb_int_list, HD.kb_int_bool, HD.kb_int_int, HD.kb_int_str, HD.kb_str_tuple, HD.kb_str_list, HD.kb_str_bool, HD.kb_str_int, HD.kb_str_str, HD.kb_lst_tuple, HD.kb_lst_list, HD.kb_lst_bool, HD.kb_lst_int, HD.kb_lst_str, HD.kb_tup_tuple, HD.kb_tup_list, HD.kb_tup_bool, HD.kb_tup_int, HD.kb_tup_str, ↓sFz_w, ↓FzS_lst, ↓FzS_ext, ↓dSortSetL, ↓fAbs, ↓fInt, ↓fRepr, ↓fLtT, ↓sRaise, ↓sTryKeep, ↓dCallV_w, ↓dMeth, ↓fCount, ↓fSplit, ↓seq_setE, ↓seq_set, ↓seq_drop, ↓seq_asg, ↓seq_if, ↓seq_for, ↓dStep, ↓fStep, ↓fMulT, ↓fIsB, ↓fNotB, ↓sPar, ↓dEnum, ↓dListZip, ↓dNest, ↓sSeal, ↓dNApp, ↓retD_reg, ↓dv0, ↓dw0, ↓dv1, ↓dw1, ↓dv2, ↓dw2, ↓dv3, ↓dw3, ↓dv4, ↓dw4, ↓dv5, ↓dw5, ↓dv6, ↓dw6, ↓dv7, ↓dw7, ↓dv8, ↓dw8, ↓dv9, ↓dw9, ↓dv10, ↓dw10, ↓dv11, ↓dw11, ↓dv12, ↓dw12, ↓dv13, ↓dw13, ↓dv14, ↓dw14, ↓dv15, ↓dw15, ↓dv16, ↓dw16, ↓dv17, ↓dw17, ↓dv18, ↓dw18, ↓dv19, ↓dw19])
/-- a filling's worth -/
def fw (w : Wd) (S : List Nat) (ps : List Part) (f : List Nat) : Int := jAll w S ps fun n => f.getD n 0
def sp_whole : DSpec := fun args Q _ => ∃ (w : Wd) (S : List Nat) (ps : List Part), args = [dW w, .ext (dSh S ps)] ∧ ShOk S ps ∧ ∀ fin, Q (dI (gt w ((allF S).map (fw w S ps)))) fin
def e1_whole : DT :=
    (dCall sp_joined_at (dCons (dVar 0) (dCons (dVar 1) (dCons (dVar 2) dNil))))
def t_whole : DTS :=
    (sRet (dCall sp_gather (dCons (dVar 0) (dCons (dLc (dSeq (dCall sp_all_fillings (dCons (dVar 1) dNil))) (gSet 2) dYes e1_whole [2]) dNil))))
theorem allF_ne {S : List Nat} (hS : SzOk S) : allF S ≠ [] := fun e => by
  have h : (allF S).length = prodN S := by unfold allF; rw [len_fills, psz_all]
  rw [e] at h
  have := prodN_pos hS.pos
  simp at h
  omega
theorem m_whole : Meets t_whole 2 1 sp_whole := by
  rintro args Qd Xd ⟨w, S, ps, rfl, hs, hQ⟩
  show t_whole _ _ [_, _, .un]
  unfold t_whole
  and_intros
  refine ⟨S, ps, rfl, hs, fun fin => ?_⟩
  trivial
  rw [show fD (allF S) = (allF S).map (fun f => D.tup (nD f)) from rfl]
  refine lc_map (fun f : List Nat => D.tup (nD f)) (fun f => .int (fw w S ps f)) True.intro (allF S) (Nat.le_trans (allF_len hs.sz) (by decide)) (fun f hf R hR => ?_) fun b => ?_
  · unfold e1_whole
    trivial
    refine ⟨w, S, ps, f, rfl, hs, allF_fit hf, fun fin => ?_⟩
    trivial
    exact hR
  trivial
  refine ⟨w, (allF S).map (fw w S ps), by rw [iD, List.map_map]; rfl, by simpa using allF_ne hs.sz, fun fin => ?_⟩
  trivial
  exact hQ _
/-- what a filling has at some names -/
def at' (ns f : List Nat) : List Nat := ns.map fun n => f.getD n 0
/-- the worths of those that have g there -/
def bkt (w : Wd) (S : List Nat) (ps : List Part) (ns g : List Nat) (fs : List (List Nat)) : List Int := (fs.filter fun f => at' ns f == g).map (fw w S ps)
def restP (w : Wd) (S : List Nat) (ps : List Part) (ns : List Nat) : Part := ⟨ns, (fills S ns).map fun g => gt w (bkt w S ps ns g (allF S))⟩
def kpt (w : Wd) (S : List Nat) (ps : List Part) (ns : List Nat) (bs : List Addr) (fs : List (List Nat)) : List (Addr × List D) := (bs.zip (fills S ns)).map fun q => (q.1, iD (bkt w S ps ns q.2 fs))
theorem kpt_nil {w : Wd} {S : List Nat} {ps : List Part} {ns : List Nat} {bs : List Addr} (h : bs.length = (fills S ns).length) : emp bs = kpt w S ps ns bs [] := by
  unfold emp kpt
  have : (bs.zip (fills S ns)).map (fun q => (q.1, iD (bkt w S ps ns q.2 []))) = ((bs.zip (fills S ns)).map Prod.fst).map fun b => (b, ([] : List D)) := by
    rw [List.map_map]
    rfl
  rw [this, List.map_fst_zip (by omega)]
theorem kpt_step {w : Wd} {S : List Nat} {ps : List Part} {ns : List Nat} {bs : List Addr} {fs : List (List Nat)} {f : List Nat} (h : bs.length = (fills S ns).length) (hg : Good S ns (at' ns f)) :
    ∃ b, (kpt w S ps ns bs fs)[pl S 0 ns (at' ns f)]? = some (b, iD (bkt w S ps ns (at' ns f) fs)) ∧ (kpt w S ps ns bs fs).set (pl S 0 ns (at' ns f)) (b, iD (bkt w S ps ns (at' ns f) fs) ++ [.int (fw w S ps f)]) = kpt w S ps ns bs (fs ++ [f]) := by
  have hj := fills_get hg
  obtain ⟨hjl, ej⟩ := List.getElem?_eq_some_iff.1 hj
  have hb : bs[pl S 0 ns (at' ns f)]? = some bs[pl S 0 ns (at' ns f)] := List.getElem?_eq_getElem (by omega)
  have hz : (bs.zip (fills S ns))[pl S 0 ns (at' ns f)]? = some (bs[pl S 0 ns (at' ns f)], at' ns f) := List.getElem?_zip_eq_some.2 ⟨hb, hj⟩
  refine ⟨bs[pl S 0 ns (at' ns f)], by unfold kpt; rw [List.getElem?_map, hz]; rfl, ?_⟩
  refine List.ext_getElem? fun j => ?_
  rw [List.getElem?_set]
  have new : ∀ g, bkt w S ps ns g (fs ++ [f]) = if at' ns f = g then bkt w S ps ns g fs ++ [fw w S ps f] else bkt w S ps ns g fs := fun g => by
    unfold bkt
    rw [List.filter_append, List.map_append]
    by_cases e : at' ns f = g
    · rw [if_pos e]; simp [e]
    · rw [if_neg e]; simp [e]
  by_cases e : pl S 0 ns (at' ns f) = j
  · subst e
    have hlen : pl S 0 ns (at' ns f) < (kpt w S ps ns bs fs).length := by unfold kpt; rw [List.length_map, List.length_zip]; omega
    rw [if_pos rfl, if_pos hlen]
    unfold kpt
    rw [List.getElem?_map, hz]
    show some _ = some (bs[pl S 0 ns (at' ns f)], iD (bkt w S ps ns (at' ns f) (fs ++ [f])))
    rw [new, if_pos rfl, iD_app]
    rfl
  · rw [if_neg e]
    unfold kpt
    rw [List.getElem?_map, List.getElem?_map]
    cases hq : (bs.zip (fills S ns))[j]? with
    | none => rfl
    | some q =>
      have hq2 := (List.getElem?_zip_eq_some.1 hq).2
      have ne : at' ns f ≠ q.2 := fun z => e (by rw [z]; exact fills_at hq2)
      show some (q.1, iD (bkt w S ps ns q.2 fs)) = some (q.1, iD (bkt w S ps ns q.2 (fs ++ [f])))
      rw [new, if_neg ne]
theorem at_good {S ns f : List Nat} (hf : FitF S f) (hl : ∀ n ∈ ns, n < S.length) : Good S ns (at' ns f) := good_map fun n hn => hf.2 n (hl n hn)
/-- some filling has these worths -/
theorem bkt_ne {w : Wd} {S : List Nat} {ps : List Part} {ns g : List Nat} (hS : SzOk S) (hr : Rising ns) (hl : ∀ n ∈ ns, n < S.length) (hg : Good S ns g) : bkt w S ps ns g (allF S) ≠ [] := by
  have hfit : Good S (List.range S.length) ((List.range S.length).map fun m => if m ∈ ns then ats ns g m else 0) := good_map (g := fun m => if m ∈ ns then ats ns g m else 0) fun m hm => by
    show (if m ∈ ns then ats ns g m else 0) < sz S m
    split
    · rename_i h; exact ats_lt hg h
    · exact hS.pos _ (sz_mem (List.mem_range.1 hm))
  have hm : ((List.range S.length).map fun m => if m ∈ ns then ats ns g m else 0) ∈ allF S := mem_fills.2 hfit
  have hat : at' ns ((List.range S.length).map fun m => if m ∈ ns then ats ns g m else 0) = g := by
    refine List.ext_getElem? fun j => ?_
    unfold at'
    rw [List.getElem?_map]
    cases hj : ns[j]? with
    | none =>
      have : ns.length ≤ j := List.getElem?_eq_none_iff.1 hj
      rw [List.getElem?_eq_none (by rw [hg.len]; exact this)]
      rfl
    | some n =>
      have hn : n ∈ ns := List.mem_of_getElem? hj
      obtain ⟨hjl, ej⟩ := List.getElem?_eq_some_iff.1 hj
      have e1 : ((List.range S.length).map fun m => if m ∈ ns then ats ns g m else 0).getD n 0 = ats ns g n := by
        rw [List.getD_eq_getElem?_getD, List.getElem?_map, List.getElem?_range (hl n hn)]
        simp [hn]
      show some (((List.range S.length).map fun m => if m ∈ ns then ats ns g m else 0).getD n 0) = _
      rw [e1]
      unfold ats
      have hix : ns.idxOf n = j := by rw [← ej]; exact (List.Nodup.idxOf_getElem hr.nd j hjl)
      rw [hix, List.getD_eq_getElem?_getD, List.getElem?_eq_getElem (by rw [hg.len]; exact hjl)]
      rfl
  intro e
  have : fw w S ps ((List.range S.length).map fun m => if m ∈ ns then ats ns g m else 0) ∈ bkt w S ps ns g (allF S) := List.mem_map.2 ⟨_, List.mem_filter.2 ⟨hm, by rw [hat]; simp⟩, rfl⟩
  rw [e] at this
  simp at this
def sp_rest : DSpec := fun args Q X => ∃ (w : Wd) (S : List Nat) (ps : List Part) (d : D) (k : Nat), args = [dW w, .ext (dSh S ps), .ext d] ∧ ShOk S ps ∧ D.pl k d = true ∧
  ((¬ NamesD (S.length : Nat) d ∧ ∀ fin, X "NoName" fin) ∨ ∃ ns : List Nat, d = .tup (nD ns) ∧ Rising ns ∧ (∀ n ∈ ns, n < S.length) ∧ ∀ fin, Q (.ext (dP (restP w S ps ns))) fin)
def e1_rest : DT :=
    (dOp fIx (dVar 6) (dVar 8))
def b2_rest : DTS :=
    (sSeq (sSetE 7 (dCall sp_place_of (dCons (dVar 3) (dCons (dVar 2) (dCons (dLc (dSeq (dVar 2)) (gSet 8) dYes e1_rest [8]) dNil)))))
    (sDrop (dNApp 4 (dVar 7) (dCall sp_joined_at (dCons (dVar 0) (dCons (dVar 1) (dCons (dVar 6) dNil)))))))
def e3_rest : DT :=
    (dCall sp_gather (dCons (dVar 0) (dCons (dVar 9) dNil)))
def k4_rest : DTS :=
    (sSeal 4 (sRet (dTup (dCons (dVar 2) (dCons (dCB fTuple (dCons (dLc (dSeq (dVar 4)) (gSet 9) dYes e3_rest [9]) dNil)) dNil)))))
def t_rest : DTS :=
    (sSeq (sSetE 3 (dOp fIx (dVar 1) (dC (.int 0))))
    (sSeq (sDrop (dCall sp_need_names (dCons (dCB fLen (dCons (dVar 3) dNil)) (dCons (dVar 2) dNil))))
    (sSeq (sSet 4 (dNest (dSeq (dCall sp_fillings_of (dCons (dVar 3) (dCons (dVar 2) dNil)))) 5))
    (sSeq (sFor (dSeq (dCall sp_all_fillings (dCons (dVar 1) dNil))) (gSet 6) b2_rest)
    k4_rest))))
theorem m_rest : Meets t_rest 3 7 sp_rest := by
  rintro args Qd Xd ⟨w, S, ps, d, k, rfl, hs, hp, h⟩
  show t_rest _ _ [_, _, _, .un, .un, .un, .un, .un, .un, .un]
  unfold t_rest
  and_intros
  rw [nD_len]
  have h24 := hs.sz.few
  rcases h with ⟨hno, hX⟩ | ⟨ns, rfl, hr, hl, hQ⟩
  · exact ⟨_, d, k, rfl, hp, fun z => absurd z hno, fun _ fin => hX _⟩
  refine ⟨_, _, k, rfl, hp, fun _ fin => ?_, fun z => absurd ⟨ns, rfl, hr, fun n hn => by have := hl n hn; omega⟩ z⟩
  trivial
  have hboth : ∀ n ∈ ns, n < S.length ∧ 0 < sz S n := fun n hn => ⟨hl n hn, hs.sz.pos _ (sz_mem (hl n hn))⟩
  have hz : psz S ns ≤ 4096 := Nat.le_trans (psz_le hs.sz.pos hr hl) hs.sz.prod
  have hns := rising_len hr hl
  refine ⟨S, ns, fArgs_tt, hboth, hz, by omega, fun fin => ?_⟩
  trivial
  refine ⟨Nat.le_trans (by rw [show (fD (fills S ns)).length = (fills S ns).length from List.length_map _, len_fills]; omega : _ ≤ 5000) (by decide), fun a bs hbs => ?_⟩
  replace hbs : bs.length = (fills S ns).length := hbs.trans (List.length_map _)
  trivial
  refine ⟨S, ps, rfl, hs, fun fin => ?_⟩
  trivial
  have hal := allF_len hs.sz
  refine for_ind (fun f : List Nat => D.tup (nD f)) (fun fs env => ∃ (pre : List (List Nat)) (u6 u7 : Sl), env = [dW w, .ext (dSh S ps), .ext (.tup (nD ns)), .ext (.tup (nD S)), nestS a (kpt w S ps ns bs pre), .un, u6, u7, .un, .un] ∧ allF S = pre ++ fs) ?_ ?_ (allF S) _ ⟨[], _, _, by rw [← kpt_nil hbs], rfl⟩
  rotate_left
  · rintro f fs env N ⟨pre, u6, u7, rfl, he⟩ hN
    have hf : FitF S f := allF_fit (by rw [he]; simp)
    have hgd := at_good hf hl
    obtain ⟨b, hb1, hb2⟩ := kpt_step (w := w) (ps := ps) (fs := pre) hbs hgd
    refine ⟨True.intro, ?_⟩
    unfold b2_rest
    and_intros
    rw [show nD ns = ns.map (fun n : Nat => D.int (n : Nat)) from rfl]
    refine lc_map (fun n : Nat => D.int (n : Nat)) (fun n => .int (f.getD n 0 : Nat)) True.intro ns (Nat.le_trans (by omega : _ ≤ 100) (by decide)) (fun n hn R hR => ?_) fun b8 => ?_
    · unfold e1_rest
      trivial
      refine ⟨_, atN (getD_at (by rw [hf.1]; exact hl n hn)), ?_⟩
      trivial
      exact hR
    trivial
    refine ⟨S, ns, at' ns f, _, rfl, .inl (by unfold at'; rw [nD, List.map_map]; rfl), hboth, hgd, hz, fun fin => ?_⟩
    trivial
    refine ⟨⟨a, _, rfl⟩, a, _, b, _, rfl, atN hb1, ?_⟩
    trivial
    refine ⟨w, S, ps, f, rfl, hs, hf, fun fin => ?_⟩
    trivial
    have hbl : (bkt w S ps ns (at' ns f) pre).length ≤ 4096 := by
      unfold bkt
      rw [List.length_map]
      have h1 := List.length_filter_le (fun g => at' ns g == at' ns f) pre
      have h2 := congrArg List.length he
      rw [List.length_append, List.length_cons] at h2
      omega
    refine ⟨a, _, _, _, rfl, hb1, by rw [iD_len]; exact Nat.lt_of_le_of_lt hbl (by decide), ?_⟩
    trivial
    rw [show (D.int (jAll w S ps fun n => f.getD n 0)) = D.int (fw w S ps f) from rfl, hb2]
    exact hN _ ⟨pre ++ [f], _, _, rfl, by rw [he]; simp⟩
  rintro env ⟨pre, u6, u7, rfl, he⟩
  refine ⟨True.intro, ?_⟩
  rw [List.append_nil] at he
  subst he
  unfold k4_rest
  and_intros
  refine ⟨a, _, rfl, ?_⟩
  trivial
  rw [show (kpt w S ps ns bs (allF S)).map (fun p => D.lst p.2) = ((bs.zip (fills S ns)).map Prod.snd).map fun g => D.lst (iD (bkt w S ps ns g (allF S))) by unfold kpt; rw [List.map_map, List.map_map]; rfl, List.map_snd_zip (by omega)]
  have hfl : (fills S ns).length ≤ 4096 := by rw [len_fills]; exact hz
  refine lc_map (fun g : List Nat => D.lst (iD (bkt w S ps ns g (allF S)))) (fun g => .int (gt w (bkt w S ps ns g (allF S)))) True.intro (fills S ns) (Nat.le_trans hfl (by decide)) (fun g hg R hR => ?_) fun b => ?_
  · unfold e3_rest
    trivial
    refine ⟨w, _, rfl, bkt_ne hs.sz hr hl (mem_fills.1 hg), fun fin => ?_⟩
    trivial
    exact hR
  trivial
  refine ⟨by decide, ?_⟩
  have := hQ [dW w, .ext (dSh S ps), .ext (.tup (nD ns))]
  unfold restP dP iD at this
  rw [List.map_map] at this
  exact this
end LS

/-! HX15: len(set(t)), t a tuple of ints -/
namespace HD
open PySem PyProof.Rows L2
theorem nodup_le {α : Type} [DecidableEq α] : ∀ {l m : List α}, l.Nodup → (∀ x ∈ l, x ∈ m) → l.length ≤ m.length
  | [], _, _, _ => Nat.zero_le _
  | x :: l, m, nd, h => by
    obtain ⟨n1, n2⟩ := List.nodup_cons.mp nd
    have hx := h x List.mem_cons_self
    have ih := nodup_le (m := m.erase x) n2 fun y hy => by
      have ne : y ≠ x := fun e => n1 (e ▸ hy)
      exact (List.mem_erase_of_ne ne).mpr (h y (List.mem_cons_of_mem _ hy))
    rw [List.length_erase_of_mem hx] at ih
    have : 0 < m.length := List.length_pos_of_mem hx
    rw [List.length_cons]
    omega
theorem nodup_of_len {α : Type} [DecidableEq α] : ∀ {m l : List α}, l.Nodup → (∀ x, x ∈ l ↔ x ∈ m) → l.length = m.length → m.Nodup
  | [], _, _, _, _ => List.nodup_nil
  | x :: m, l, nd, h, hl => by
    have hx : x ∈ l := (h x).mpr List.mem_cons_self
    have hne : x ∉ m := fun hm => by
      have := nodup_le (m := m) nd fun y hy => by
        rcases List.mem_cons.mp ((h y).mp hy) with rfl | hy
        · exact hm
        · exact hy
      rw [List.length_cons] at hl
      omega
    refine List.nodup_cons.mpr ⟨hne, nodup_of_len (l := l.erase x) (nd.erase x) (fun y => ?_) ?_⟩
    · rw [nd.mem_erase_iff, h y, List.mem_cons]
      constructor
      · rintro ⟨h1, h2 | h2⟩
        · exact absurd h2 h1
        · exact h2
      · intro h1
        exact ⟨fun e => hne (e ▸ h1), .inr h1⟩
    · rw [List.length_erase_of_mem hx, hl]
      rfl
def rLenSet (w : World) : List V → Hp → VK → Prop := fun vs H Q => ∃ (a : Addr) (S : Int → Bool) (n : Nat), vs = [V.ref a] ∧ H a = some (SetO w a S n) ∧ n < 4000 ∧ ∀ l : List Int, l.Nodup → l.length = n → (∀ k : Int, k ∈ l ↔ S k = true) → Q (.int (n : Nat)) H
theorem cr_lenSet {X : Cx} : CallR X (.builtin "len") (rLenSet X.w) := by
  intro pins s σ H vs us Q I r h
  obtain ⟨a, S, n, rfl, ha, hn4, q⟩ := h
  have R := setO_get I ha
  rw [Vals.ref1 r]
  obtain ⟨o, es, ep, t, ho, hex, hd, g, nd, hm, hb, hf, hn, hr, hl⟩ := R
  refine call_len_set ho hex hd hf (by omega) ⟨.int (n : Nat), H, I.tok _, ⟨_, by rw [← hn]⟩, q _ nd (by rw [List.length_map, Array.length_toList]; exact hn) fun k => (hm k).symm⟩
section
variable {G : GG} {N : List Str} {sc : SC} {k : Nat} {a : Expr} {ta : DT} {p p2 pos pos2 : Pos}
def dLenSet (t : DT) : DT := fun Ex env Q => t Ex env fun x env1 => wd env1 x fun d => match d with
  | .tup ds => ∃ ns : List Int, ds = ns.map D.int ∧ ns.length < 3000 ∧ ∀ m : Nat, (m = ns.length ↔ ns.Nodup) → Q (.ext (.int (m : Nat))) env1
  | _ => False
theorem de_lenset (ha : DE G N sc k a ta) (hm : G.mg "len" = none) (hm2 : G.mg "set" = none) (hg : GlS sc "len" := by rfl) (hg2 : GlS sc "set" := by rfl) (n1 : NoStar a [] := by intro _; rfl) (n2 : NoStar (.Call (.Name "set" p2) [a] [] pos2) [] := by intro _; rfl) (hp1 : ∀ env, (backTo pos (starEach [] env)).any (·.1) = false := by intro _; rfl) (hp2 : ∀ env, (backTo pos2 (starEach [] env)).any (·.1) = false := by intro _; rfl) :
    DE G N sc k (.Call (.Name "len" p) [.Call (.Name "set" p2) [a] [] pos2] [] pos) (dLenSet ta) := ⟨fun W => by
  obtain ⟨te, p1, i1⟩ := ha.ex W
  refine ⟨tCB (rLenSet G.w) (tCons (tCB (rSetT G.K G.w) (tCons te tNil)) tNil), fun X S => ?_, fun e Ex hl env T F σ H Q R hh ht hR => ?_⟩
  · have c1 := cr_lenSet (X := X)
    have c2 := cr_setT (X := X) S.calm
    rw [S.w] at c1
    rw [S.w, S.K] at c2
    exact pe_callB c1 (S.gl hg) (by rw [S.mg]; exact hm) (by decide +kernel) (pa_cons (pe_callTy c2 (S.gl hg2) (by rw [S.mg]; exact hm2) (by decide +kernel) (pa_cons (p1 X S) pa_nil (n1 _)) (by decide) (by decide) (n1 _) (hp2 _)) pa_nil (n2 _)) (by decide) (by decide) (n2 _) (hp1 _)
  · refine i1 e Ex hl env T F σ H _ _ hh ht fun v H1 F1 env1 x hh1 q1 => ?_
    obtain ⟨d, rd, q2⟩ := hh1.wd (v := v) (sl := x) List.mem_cons_self q1
    cases d with
    | tup ds =>
      obtain ⟨ns, rfl, hl64, q⟩ := q2
      obtain ⟨c, vs, rfl, e1, _, r1⟩ := rd.tup hh1.fh
      have z := r1.ints
      subst z
      refine ⟨c, ns, rfl, e1, Nat.lt_of_lt_of_le (Nat.add_lt_add_right hl64 1) (by decide), fun p' cn hn hc => ?_⟩
      refine ⟨p', _, cn, rfl, upd_same, by omega, fun l nd hlen hmem => ?_⟩
      have aft := (hh1.pop.done hR).more (o := SetO G.w p' (fun j => decide (j ∈ ns)) cn) hh1.fh hn
      have hmem' : ∀ x, x ∈ l ↔ x ∈ ns := fun x => (hmem x).trans decide_eq_true_iff
      refine aft.int (Grow.loose hh1.fh hn).fh (q cn ⟨fun e => nodup_of_len nd hmem' (by rw [hlen, e]), fun h => ?_⟩)
      rw [← hlen]
      exact Nat.le_antisymm (nodup_le nd fun x hx => (hmem' x).1 hx) (nodup_le h fun x hx => (hmem' x).2 hx)
    | _ => exact q2.elim⟩
end
end HD

/-! HX16: sum(t), t a tuple of ints -/
namespace HD
open PySem PyProof.Rows L2
def rSumT (K : PySem.W.Frag) : List V → Hp → VK → Prop := fun vs H Q => ∃ (a : Addr) (ns : List Int), vs = [V.ref a] ∧ SqT K H a (ns.map V.int) ∧ Q (.int ns.sum) H
theorem cr_sumT {X : Cx} (hc : X.calm = true) : CallR X (.builtin "sum") (rSumT X.K) := by
  intro pins s σ H vs us Q I r h
  obtain ⟨a, ns, rfl, hs, q⟩ := h
  obtain ⟨its, rv, hl, _⟩ := I.tuple hs
  rw [Vals.ref1 r]
  have hi := rv.ints
  obtain ⟨xs, e⟩ := hi.allInts.items
  have hn : numsOf (intItems xs).toList = ns := by rw [← e]; exact hi.numsOf
  rw [nums_intItems] at hn
  have hl' : s.heap.IsTuple a its.toArray := hl
  rw [e] at hl'
  refine PySem.W.ktm_sumG (I.ok.hd hc) hl' fun h' tk t' hk => ?_
  refine ⟨.int _, H, I.kept hk, ⟨_, rfl⟩, ?_⟩
  rw [preSum_eq, List.take_of_length_le (by simp), hn]
  exact q
def fSum2 : List D → (Sl → Prop) → Prop
  | [.lst ds], Q => ∃ ns : List Int, ds = ns.map D.int ∧ Q (.ext (.int ns.sum))
  | [.tup ds], Q => ∃ ns : List Int, ds = ns.map D.int ∧ Q (.ext (.int ns.sum))
  | _, _ => False
theorem b_sum2 : BR "sum" fSum2 := ⟨fun _ _ K xs H Q => rSum K xs H Q ∨ rSumT K xs H Q, fun _ _ K F H vs ds Q R fh hr hf ha => by
    unfold fSum2 at hf
    split at hf
    · obtain ⟨v, rfl, r⟩ := hr.one
      obtain ⟨ns, rfl, q⟩ := hf
      obtain ⟨a, vs, rfl, e1, r1⟩ := r.lst fh
      have z := r1.ints
      subst z
      exact .inl ⟨a, ns, rfl, SqL.of e1, ha.int fh q⟩
    · obtain ⟨v, rfl, r⟩ := hr.one
      obtain ⟨ns, rfl, q⟩ := hf
      obtain ⟨a, vs, rfl, e1, _, r1⟩ := r.tup fh
      have z := r1.ints
      subst z
      exact .inr ⟨a, ns, rfl, e1, ha.int fh q⟩
    · exact hf.elim, fun X hc _ => (cr_sum hc).or (cr_sumT hc)⟩
end HD

/-! K86: numbers of fillings, by what the program tells -/
namespace LS
namespace K86
open PySem L2 HD PM
open K02 (sp_worth_of)
open K85 (sp_share_of sp_law_glow lowP mineW wsum_bd wsum_le)
local macro_rules | `(tactic| trivial) => `(tactic| try simp -dsimp only [↓sIf, ↓sRet, ↓retD_ext, ↓retD_lst, ↓retD_al, ↓sSet, ↓sSetE, ↓sAsg, ↓sDrop, ↓sNext, ↓sFor, ↓sRetN, ↓sCont, ↓sBreak, ↓dTest, ↓dOp, ↓dVar_w, ↓dC, ↓dCons, ↓dNil, ↓dTup, ↓dLst, ↓frzDs, ↓frzD_ext, ↓frzD_lst, ↓frzD_al, ↓wd_ext, ↓wd_lst, ↓wd_al, ↓wds, ↓AtS_ext, ↓AtS_lst, ↓AtL, ↓fAdd, ↓fSub, ↓fMul, ↓fDiv, ↓fMod, ↓fPow, ↓fCmp, ↓fIn, ↓fEq_ii, ↓fEq_ss, ↓fEq_bb, ↓fEq_tt, ↓fEq_ll, ↓fNe_ii, ↓fNe_ss, ↓fNe_bb, ↓fNe_tt, ↓fNe_ll, ↓fIx_l, ↓fIx_t, ↓fIx_k, ↓fIx_f, ↓GetS_some, ↓NatS_some, ↓fSl, ↓fIsN, ↓fNotN, ↓D.knN, ↓dNot, ↓dAnd, ↓dOr, ↓dAndV_w, ↓dOrV_w, ↓dNotV, ↓dIf, ↓dNeg, ↓dChain_w, ↓BlS_bl, ↓dCall_w, ↓dCallJ_w, ↓anyAl, ↓frozs, ↓froz, ↓gSet, ↓gTupD, ↓gsCons, ↓gsNil, ↓dSeq, ↓seqD_tup, ↓seqD_elst, ↓seqD_lst, ↓seqD_al, ↓dRange1, ↓dRange2, ↓dZip, ↓dCB, ↓dLc, ↓dYes, ↓dNoPart, ↓dPart, ↓dSl, ↓fLen, ↓fMin, ↓fMax, ↓fSum, ↓fAll, ↓fAny, ↓fSorted, ↓fTuple, ↓fList, ↓dRg1, ↓dRg2, ↓dLstRg, ↓dTupRg, ↓dIndex, ↓fIdx, ↓dAppend_w, ↓dExtend_w, ↓extD_lst, ↓dPopAt_w, ↓popD_int, ↓dPop_w, ↓mutD_w, ↓sSetItem_w, ↓setD_int, ↓dSortSet, ↓dTable_w, ↓wipeE, finals1, finals2, finals3, finals4, finals5, finals6, fin1_ext, fin1_lst, List.getElem?_cons_zero, List.getElem?_cons_succ, List.getElem?_nil, List.set_cons_zero, List.set_cons_succ, List.cons_append, List.nil_append, List.append_nil, List.replicate_succ, List.replicate_zero, List.map_cons, List.map_nil, List.length_cons, List.length_nil, true_and, and_true, ite_true, ite_false, if_true, if_false, Bool.false_eq_true, decide_eq_true_eq, Sl.plain, D.isSq, eq_self_iff_true, forall_const, reduceIte, true_or, or_true, atI_0, atI_1, atI_2, atI_3, ixN_0, ixN_1, ixN_2, AtS_ext, AtS_lst, FzS_lst, FzS_ext, GetS_some, NatS_some, ↓fIsi1, ↓fIsi2, BoolS_some, HD.kb_non_tuple, HD.kb_non_list, HD.kb_non_bool, HD.kb_non_int, HD.kb_non_str, HD.kb_bl_tuple, HD.kb_bl_list, HD.kb_bl_bool, HD.kb_bl_int, HD.kb_bl_str, HD.kb_int_tuple, HD.kb_int_list, HD.kb_int_bool, HD.kb_int_int, HD.kb_int_str, HD.kb_str_tuple, HD.kb_str_list, HD.kb_str_bool, HD.kb_str_int, HD.kb_str_str, HD.kb_lst_tuple, HD.kb_lst_list, HD.kb_lst_bool, HD.kb_lst_int, HD.kb_lst_str, HD.kb_tup_tuple, HD.kb_tup_list, HD.kb_tup_bool, HD.kb_tup_int, HD.kb_tup_str, ↓sFz_w, ↓FzS_lst, ↓FzS_ext, ↓dSortSetL, ↓fAbs, ↓fInt, ↓fRepr, ↓fLtT, ↓sRaise, ↓sTryKeep, ↓dCallV_w, ↓dMeth, ↓fCount, ↓fSplit, ↓seq_setE, ↓seq_set, ↓seq_drop, ↓seq_asg, ↓seq_if, ↓seq_for, ↓dStep, ↓fStep, ↓fMulT, ↓fIsB, ↓fNotB, ↓sPar, ↓dEnum, ↓dListZip, ↓dNest, ↓sSeal, ↓dNApp, ↓retD_reg, ↓dLenSet, ↓fSum2])
local macro_rules | `(tactic| and_intros) => `(tactic| try simp -dsimp only [↓sIf, ↓sRet, ↓retD_ext, ↓retD_lst, ↓retD_al, ↓sSet, ↓sSetE, ↓sAsg, ↓sDrop, ↓sNext, ↓sFor, ↓sRetN, ↓sCont, ↓sBreak, ↓dTest, ↓dOp, ↓dC, ↓dCons, ↓dNil, ↓dTup, ↓dLst, ↓frzDs, ↓frzD_ext, ↓frzD_lst, ↓frzD_al, ↓wd_ext, ↓wd_lst, ↓wd_al, ↓wds, ↓AtS_ext, ↓AtS_lst, ↓AtL, ↓fAdd, ↓fSub, ↓fMul, ↓fDiv, ↓fMod, ↓fPow, ↓fCmp, ↓fIn, ↓fEq_ii, ↓fEq_ss, ↓fEq_bb, ↓fEq_tt, ↓fEq_ll, ↓fNe_ii, ↓fNe_ss, ↓fNe_bb, ↓fNe_tt, ↓fNe_ll, ↓fIx_l, ↓fIx_t, ↓fIx_k, ↓fIx_f, ↓GetS_some, ↓NatS_some, ↓fSl, ↓fIsN, ↓fNotN, ↓D.knN, ↓dNot, ↓dAnd, ↓dOr, ↓dAndV_w, ↓dOrV_w, ↓dNotV, ↓dIf, ↓dNeg, ↓dChain_w, ↓BlS_bl, ↓dCall_w, ↓dCallJ_w, ↓anyAl, ↓frozs, ↓froz, ↓gSet, ↓gTupD, ↓gsCons, ↓gsNil, ↓dSeq, ↓seqD_tup, ↓seqD_elst, ↓seqD_lst, ↓seqD_al, ↓dRange1, ↓dRange2, ↓dZip, ↓dCB, ↓dLc, ↓dYes, ↓dNoPart, ↓dPart, ↓dSl, ↓fLen, ↓fMin, ↓fMax, ↓fSum, ↓fAll, ↓fAny, ↓fSorted, ↓fTuple, ↓fList, ↓dRg1, ↓dRg2, ↓dLstRg, ↓dTupRg, ↓dIndex, ↓fIdx, ↓dAppend_w, ↓dExtend_w, ↓extD_lst, ↓dPopAt_w, ↓popD_int, ↓dPop_w, ↓mutD_w, ↓sSetItem_w, ↓setD_int, ↓dSortSet, ↓dTable_w, ↓wipeE, finals1, finals2, finals3, finals4, finals5, finals6, fin1_ext, fin1_lst, List.getElem?_cons_zero, List.getElem?_cons_succ, List.getElem?_nil, List.set_cons_zero, List.set_cons_succ, List.cons_append, List.nil_append, List.append_nil, List.replicate_succ, List.replicate_zero, List.map_cons, List.map_nil, List.length_cons, List.length_nil, true_and, and_true, ite_true, ite_false, if_true, if_false, Bool.false_eq_true, decide_eq_true_eq, Sl.plain, D.isSq, eq_self_iff_true, forall_const, reduceIte, true_or, or_true, atI_0, atI_1, atI_2, atI_3, ixN_0, ixN_1, ixN_2, AtS_ext, AtS_lst, FzS_lst, FzS_ext, GetS_some, NatS_some, ↓fIsi1, ↓fIsi2, BoolS_some, HD.kb_non_tuple, HD.kb_non_list, HD.kb_non_bool, HD.kb_non_int, HD.kb_non_str, HD.kb_bl_tuple, HD.kb_bl_list, HD.kb_bl_bool, HD.kb_bl_int, HD.kb_bl_str, HD.kb_int_tuple, HD.kb_int_list, HD.kb_int_bool, HD.kb_int_int, HD.kb_int_str, HD.kb_str_tuple, HD.kb_str_list, HD.kb_str_bool, HD.kb_str_int, HD.kb_str_str, HD.kb_lst_tuple, HD.kb_lst_list, HD.kb_lst_bool, HD.kb_lst_int, HD.kb_lst_str, HD.kb_tup_tuple, HD.kb_tup_list, HD.kb_tup_bool, HD.kb_tup_int, HD.kb_tup_str, ↓sFz_w, ↓FzS_lst, ↓FzS_ext, ↓dSortSetL, ↓fAbs, ↓fInt, ↓fRepr, ↓fLtT, ↓sRaise, ↓sTryKeep, ↓dCallV_w, ↓dMeth, ↓fCount, ↓fSplit, ↓seq_setE, ↓seq_set, ↓seq_drop, ↓seq_asg, ↓seq_if, ↓seq_for, ↓dStep, ↓fStep, ↓fMulT, ↓fIsB, ↓fNotB, ↓sPar, ↓dEnum, ↓dListZip, ↓dNest, ↓sSeal, ↓dNApp, ↓retD_reg, ↓dLenSet, ↓fSum2, ↓dv0, ↓dw0, ↓dv1, ↓dw1, ↓dv2, ↓dw2, ↓dv3, ↓dw3, ↓dv4, ↓dw4, ↓dv5, ↓dw5, ↓dv6, ↓dw6, ↓dv7, ↓dw7, ↓dv8, ↓dw8, ↓dv9, ↓dw9, ↓dv10, ↓dw10, ↓dv11, ↓dw11, ↓dv12, ↓dw12, ↓dv13, ↓dw13, ↓dv14, ↓dw14, ↓dv15, ↓dw15, ↓dv16, ↓dw16, ↓dv17, ↓dw17, ↓dv18, ↓dw18, ↓dv19, ↓dw19])
def b1_law : DTS :=
    (sSetE 5 (dCall sp_joined (dCons (dC (.str (Str.ofString "sum"))) (dCons (dVar 3) (dCons (dVar 5) (dCons (dVar 6) dNil))))))
def k2_law : DTS :=
    (sSetE 4 (dTup (dCons (dVar 5) dNil)))
def i3_law : DTS :=
    (sSeq (sSetE 5 (dOp fIx (dVar 4) (dC (.int 0))))
    (sSeq (sFor (dSeq (dSl (dVar 4) (dPart (dC (.int 1))) dNoPart)) (gSet 6) b1_law)
    k2_law))
def b4_law : DTS :=
    (sIf (dTest (dOp fNe (dCall sp_filling_at (dCons (dVar 7) (dCons (dVar 12) dNil))) (dVar 10))) (sRet (dC (.bl false))) sNext)
def k5_law : DTS :=
    (sSetE 9 (dOp fAdd (dVar 9) (dVar 11)))
def k6_law : DTS :=
    (sSeq (sFor (dSeq (dSl (dLst (dCons (dVar 9) (dCons (dOp fSub (dOp fAdd (dVar 9) (dVar 11)) (dC (.int 1))) dNil))) dNoPart (dPart (dOp fMul (dC (.int 2)) (dCB fInt (dCons (dOp (fCmp fun i j => decide (j < i)) (dVar 11) (dC (.int 0))) dNil)))))) (gSet 12) b4_law)
    k5_law)
def b7_law : DTS :=
    (sSeq (sSetE 11 (dCall sp_worth_of (dCons (dC (.str (Str.ofString "sum"))) (dCons (dVar 7) (dCons (dVar 10) dNil)))))
    (sSeq (sIf (dTest (dOp fNe (dCall sp_number_of (dCons (dVar 7) (dCons (dVar 10) dNil))) (dVar 9))) (sRet (dC (.bl false))) sNext)
    k6_law))
def b8_law : DTS :=
    (sSeq (sSetE 12 (dCallJ sp_law_gdraw 1 (dCons (dVar 8) dNil)))
    (sSeq (sSetE 10 (dCall sp_filling_at (dCons (dVar 7) (dCons (dVar 12) dNil))))
    (sIf (dNot (dTest (dChain (fCmp fun i j => decide (i ≤ j)) (fCmp fun i j => decide (i < j)) (dC (.int 0)) (dOp fSub (dVar 12) (dCall sp_number_of (dCons (dVar 7) (dCons (dVar 10) dNil)))) (dCall sp_worth_of (dCons (dC (.str (Str.ofString "sum"))) (dCons (dVar 7) (dCons (dVar 10) dNil))))))) (sRet (dC (.bl false))) sNext)))
def e9_law : DT :=
    (dCall sp_share_of (dCons (dVar 7) (dCons (dVar 14) (dCons (dVar 17) dNil))))
def e10_law : DT :=
    (dCall sp_law_glow (dCons (dVar 5) (dCons (dVar 8) dNil)))
def b11_law : DTS :=
    (sSeq (sSetE 15 (dOp fIx (dCall sp_rest (dCons (dC (.str (Str.ofString "sum"))) (dCons (dVar 7) (dCons (dTup (dCons (dVar 14) dNil)) dNil)))) (dC (.int 1))))
    (sSeq (sSetE 16 (dLc (dRange1 (dCons (dOp fIx (dVar 3) (dVar 14)) dNil)) (gSet 17) dYes e9_law [17]))
    (sIf (dOr (dTest (dOp fNe (dCB fSum2 (dCons (dVar 15) dNil)) (dVar 8))) (dTest (dOp fNe (dVar 16) (dLc (dSeq (dVar 15)) (gSet 5) dYes e10_law [5])))) (sRet (dC (.bl false))) sNext)))
def k12_law : DTS :=
    (sFor (dRange1 (dCons (dOp fMul (dCB fLen (dCons (dVar 3) dNil)) (dCB fInt (dCons (dOp (fCmp fun i j => decide (j < i)) (dVar 8) (dC (.int 0))) dNil))) dNil)) (gSet 14) b11_law)
def k13_law : DTS :=
    (sSeq (sFor (dRange1 (dCons (dOp fMul (dC (.int 3)) (dCB fInt (dCons (dOp (fCmp fun i j => decide (j < i)) (dVar 8) (dC (.int 0))) dNil))) dNil)) (gSet 13) b8_law)
    k12_law)
def k14_law : DTS :=
    (sSeq (sIf (dTest (dOp fNe (dVar 9) (dVar 8))) (sRet (dC (.bl false))) sNext)
    k13_law)
def k15_law : DTS :=
    (sSeq (sSetE 7 (dTup (dCons (dVar 3) (dCons (dVar 4) dNil))))
    (sSeq (sSetE 8 (dCall sp_whole (dCons (dC (.str (Str.ofString "sum"))) (dCons (dVar 7) dNil))))
    (sSeq (sSetE 9 (dC (.int 0)))
    (sSeq (sFor (dSeq (dCall sp_law_gfillings (dCons (dVar 3) (dCons (dLstRg (dRg1 (dCB fLen (dCons (dVar 3) dNil)))) dNil)))) (gSet 10) b7_law)
    k14_law))))
def b16_law : DTS :=
    (sSeq (sAsg (dCallJ sp_law_gheavy 1 (dCons (dC (.int 4)) (dCons (dC (.int 12)) dNil))) (gTupD 2 (gsCons (gSet 3) (gsCons (gSet 4) gsNil))))
    (sSeq (sIf (dAnd (dTest (dOp (fCmp fun i j => decide (j < i)) (dCB fLen (dCons (dVar 4) dNil)) (dC (.int 1)))) (dTest (dOp fEq (dCallJ sp_law_gdraw 1 (dCons (dC (.int 3)) dNil)) (dC (.int 0))))) i3_law sNext)
    k15_law))
def k17_law : DTS :=
    (sRet (dC (.bl true)))
def t_law : DTS :=
    (sSeq (sSet 1 (dLst (dCons (dCB fList (dCons (dSl (dVar 0) dNoPart (dPart (dC (.int 63)))) dNil)) (dCons (dC (.int 0)) (dCons (dC (.int 0)) dNil)))))
    (sSeq (sFor (dRange1 (dCons (dC (.int 3)) dNil)) (gSet 2) b16_law)
    k17_law))
theorem wsum_gt {S : List Nat} {ps : List Part} : gt .sum ((allF S).map (fw .sum S ps)) = wsum (wts S ps) := by
  rw [gt_sum]
  unfold wsum wts
  rw [List.map_map]
  rfl
theorem bkt_mine {S : List Nat} {ps : List Part} {n v : Nat} : gt .sum (bkt .sum S ps [n] [v] (allF S)) = mineW S ps n v := by
  rw [gt_sum]
  unfold bkt mineW wsum wts
  rw [List.filter_map, List.map_map]
  have : (fun f : List Nat => at' [n] f == [v]) = ((fun q : List Nat × Int => q.1.getD n 0 == v) ∘ fun f => (f, jAll .sum S ps fun n => f.getD n 0)) := by
    funext f
    simp [at', Bool.eq_iff_iff]
  rw [this]
  rfl
theorem fills_one {S : List Nat} {n : Nat} : fills S [n] = (List.range (sz S n)).map fun v => [v] := by
  simp only [fills, List.map_cons, List.map_nil]
  generalize List.range (sz S n) = l
  induction l with
  | nil => rfl
  | cons x l ih => rw [List.flatMap_cons, ih]; rfl
theorem sum_add (f g : Nat → Int) (l : List Nat) : (l.map fun v => f v + g v).sum = (l.map f).sum + (l.map g).sum := by
  induction l with
  | nil => rfl
  | cons x l ih => simp only [List.map_cons, List.sum_cons, ih]; omega
theorem sum_pick (x : Int) (k m : Nat) : ((List.range m).map fun v => if k = v then x else 0).sum = if k < m then x else 0 := by
  induction m with
  | zero => simp
  | succ m ih =>
    rw [List.range_succ, List.map_append, List.sum_append, ih]
    simp only [List.map_cons, List.map_nil, List.sum_cons, List.sum_nil]
    by_cases h : k = m
    · subst h; simp
    · rw [if_neg h]; split <;> split <;> omega
theorem sum_mine (n m : Nat) (l : List (List Nat × Int)) (h : ∀ q ∈ l, q.1.getD n 0 < m) : ((List.range m).map fun v => wsum (l.filter fun q => q.1.getD n 0 == v)).sum = wsum l := by
  induction l with
  | nil =>
    have := sum_pick 0 m m
    simp [wsum]
    clear this
    induction m with
    | zero => rfl
    | succ m ih => rw [List.range_succ, List.map_append, List.sum_append, ih (by simp)]; rfl
  | cons q l ih =>
    have e : ∀ v, wsum ((q :: l).filter fun q => q.1.getD n 0 == v) = (if q.1.getD n 0 = v then q.2 else 0) + wsum (l.filter fun q => q.1.getD n 0 == v) := fun v => by
      by_cases hv : q.1.getD n 0 = v
      · rw [List.filter_cons_of_pos (by simpa using hv), if_pos hv]; rfl
      · rw [List.filter_cons_of_neg (by simpa using hv), if_neg hv]; omega
    simp only [e]
    rw [sum_add, sum_pick, if_pos (h q List.mem_cons_self), ih fun r hr => h r (List.mem_cons_of_mem _ hr)]
    rfl
theorem jAll_one {S : List Nat} {p : Part} {g : Nat → Nat} : jAll .sum S [p] g = val S p g := by
  unfold jAll
  show 1 * _ = _
  rw [Int.one_mul]
abbrev wt (S : List Nat) (ps : List Part) (f : List Nat) : List Nat × Int := (f, jAll .sum S ps fun n => f.getD n 0)
theorem fpl {S : List Nat} {f : List Nat} (hS : SzOk S) (hf : FitF S f) : D.pl 2 (.tup (nD f)) = true := by
  have hfl : f.length ≤ 100000 := by
    have := hf.1
    have := hS.few
    omega
  simp only [D.pl, pl_nats, nD_len, hfl]
  rfl
theorem cmp_fl {f : List Nat} : D.cmp (.tup (nD f)) := pi_cmp (k := 1) (by decide) (by rw [D.pi]; exact pi_nats _ _)
theorem hit (x W : Int) : ∀ d ∈ cutD [D.int x, D.int (x + W - 1)] none (some (2 * if 0 < W then 1 else 0)), ∃ i, d = .int i ∧ x ≤ i ∧ i < x + W := by
  by_cases h : 0 < W
  · rw [if_pos h]
    intro d hd
    simp [cutD, HT.sIx] at hd
    rcases hd with rfl | rfl
    · exact ⟨_, rfl, by omega, by omega⟩
    · exact ⟨_, rfl, by omega, by omega⟩
  · rw [if_neg h]
    intro d hd
    simp [cutD, HT.sIx] at hd
theorem split_w {l : List (List Nat × Int)} : ∀ {r : Int}, (∀ q ∈ l, 0 ≤ q.2) → 0 ≤ r → r < wsum l → ∃ pre q post, l = pre ++ q :: post ∧ wsum pre ≤ r ∧ r < wsum pre + q.2 := by
  induction l with
  | nil => intro r _ h0 h1; have : wsum [] = 0 := rfl; omega
  | cons q l ih =>
    intro r h h0 h1
    have e : wsum (q :: l) = q.2 + wsum l := rfl
    by_cases h2 : r < q.2
    · exact ⟨[], q, l, rfl, h0, by show r < 0 + q.2; omega⟩
    · obtain ⟨pre, p, post, e1, e2, e3⟩ := ih (r := r - q.2) (fun p hp => h p (List.mem_cons_of_mem _ hp)) (by omega) (by omega)
      have e' : wsum (q :: pre) = q.2 + wsum pre := rfl
      exact ⟨q :: pre, p, post, by rw [e1]; rfl, by omega, by omega⟩
theorem wsum_1000 {S : List Nat} {ps : List Part} (hs : ShOk S ps) (h20 : ps.length ≤ 20) (h0 : 0 ≤ wsum (wts S ps)) : (wsum (wts S ps)).natAbs < 2 ^ 1000 := by
  have h1 : ∀ q ∈ wts S ps, q.2 ≤ ((2 ^ 900 : Nat) : Int) := fun q hq => by
    rcases wts_bd hs hq with h | h
    · generalize 2 ^ 900 = B at h ⊢
      omega
    · omega
  have h2 := wsum_le h1
  have h3 := wts_len (ps := ps) hs.sz
  have h4 : (wts S ps).length * 2 ^ 900 ≤ 4096 * 2 ^ 900 := Nat.mul_le_mul_right _ h3
  have h5 : 4096 * 2 ^ 900 < 2 ^ 1000 := by
    rw [show 4096 = 2 ^ 12 from rfl, ← Nat.pow_add]
    exact Nat.pow_lt_pow_right (by decide) (by decide)
  have h6 : wsum (wts S ps) ≤ (((wts S ps).length * 2 ^ 900 : Nat) : Int) := by rw [Int.natCast_mul]; exact h2
  generalize (wts S ps).length * 2 ^ 900 = A at h4 h6
  generalize 4096 * 2 ^ 900 = B at h4 h5
  generalize 2 ^ 1000 = C at h5 ⊢
  omega
theorem q15 {Ex : DX} {E : DEnds} {S : List Nat} {ps : List Part} {n : Nat} {a : Addr} {ds : List D} {u0 u2 u5 u6 u7 u8 u9 u10 u11 u12 u13 u14 u15 u16 u17 : Sl} (hs : ShOk S ps) (h20 : ps.length ≤ 20) (hnw : ∀ q ∈ wts S ps, 0 ≤ q.2) (hj : JarOk n ds) (hn : n + 100 < 4294967296)
    (hN : ∀ ds' u5 u6 u7 u8 u9 u10 u11 u12 u13 u14 u15 u16 u17, JarOk (n + 3) ds' → E.nx [u0, .lst a ds', u2, dSz S, .ext (dPs ps), u5, u6, u7, u8, u9, u10, u11, u12, u13, u14, u15, u16, u17]) :
    k15_law Ex E [u0, .lst a ds, u2, dSz S, .ext (dPs ps), u5, u6, u7, u8, u9, u10, u11, u12, u13, u14, u15, u16, u17] := by
  unfold k15_law
  and_intros
  refine ⟨by decide, .sum, S, ps, rfl, hs, fun fin => ?_⟩
  rw [wsum_gt]
  and_intros
  have h24 := hs.sz.few
  have h1 := hs.one
  rw [nD_len]
  refine ⟨⟨by decide, by omega, by omega⟩, fun a' => ?_⟩
  rw [rgD_nat]
  refine ⟨S, List.range S.length, fArgs_tl, rng_both hs.sz, by rw [psz_all]; exact hs.sz.prod, by simp; omega, fun fin => ?_⟩
  trivial
  rw [show fD (fills S (List.range S.length)) = (allF S).map (fun f => D.tup (nD f)) from rfl]
  refine for_ind (fun f : List Nat => D.tup (nD f)) (fun fs env => ∃ (pre : List (List Nat × Int)) (u10 u11 u12 : Sl), env = [u0, .lst a ds, u2, dSz S, .ext (dPs ps), u5, u6, .ext (dSh S ps), dI (wsum (wts S ps)), dI (wsum pre), u10, u11, u12, u13, u14, u15, u16, u17] ∧ wts S ps = pre ++ fs.map (wt S ps)) ?_ ?_ (allF S) _
    ⟨[], _, _, _, rfl, rfl⟩
  rotate_left
  · rintro f fs env N ⟨pre, v10, v11, v12, rfl, he⟩ hN1
    have hq : wt S ps f ∈ wts S ps := by rw [he]; simp
    have hq0 := hnw _ hq
    have hf : FitF S f := wts_fit hq
    refine ⟨True.intro, ?_⟩
    unfold b7_law
    and_intros
    refine ⟨.sum, S, ps, _, 2, rfl, hs, fpl hs.sz hf, .inr ⟨f, rfl, hf, fun fin => ?_⟩⟩
    trivial
    refine ⟨S, ps, _, 2, rfl, hs, fpl hs.sz hf, .inr (.inr ⟨hnw, pre, wt S ps f, fs.map (wt S ps), he, rfl, fun fin => ?_⟩)⟩
    trivial
    rw [if_neg (by simp)]
    unfold k6_law
    and_intros
    refine ⟨by decide, cmul64 (by decide) (by decide) (by split <;> decide) (by split <;> decide), ?_⟩
    refine for_indD (fun T env => ∃ u12, env = [u0, .lst a ds, u2, dSz S, .ext (dPs ps), u5, u6, .ext (dSh S ps), dI (wsum (wts S ps)), dI (wsum pre), .ext (.tup (nD f)), dI (wt S ps f).2, u12, u13, u14, u15, u16, u17] ∧ ∀ d ∈ T, ∃ i, d = .int i ∧ wsum pre ≤ i ∧ i < wsum pre + (wt S ps f).2) ?_ ?_ _ _ ⟨_, rfl, hit _ _⟩
    · rintro env ⟨u12, rfl, _⟩
      refine ⟨True.intro, ?_⟩
      unfold k5_law
      and_intros
      rw [show wsum pre + (wt S ps f).2 = wsum (pre ++ [wt S ps f]) by rw [wsum_app]; simp [wsum]]
      exact hN1 _ ⟨pre ++ [wt S ps f], _, _, _, rfl, by rw [he]; simp⟩
    · rintro d T env N' ⟨u12, rfl, hT⟩ hN'
      obtain ⟨i, rfl, hi1, hi2⟩ := hT d List.mem_cons_self
      refine ⟨True.intro, ?_⟩
      unfold b4_law
      and_intros
      refine ⟨S, ps, .int i, 0, rfl, hs, rfl, .inr (.inr ⟨hnw, pre, wt S ps f, fs.map (wt S ps), i, he, rfl, hi1, hi2, fun fin => ?_⟩)⟩
      trivial
      refine ⟨cmp_fl, cmp_fl, ?_⟩
      rw [if_neg (by rw [eqv_refl cmp_fl]; decide)]
      exact hN' _ ⟨_, rfl, fun e he => hT e (List.mem_cons_of_mem _ he)⟩
  rintro env ⟨pre, v10, v11, v12, rfl, he⟩
  rw [List.map_nil, List.append_nil] at he
  subst he
  refine ⟨True.intro, ?_⟩
  unfold k14_law
  and_intros
  rw [if_neg (by simp)]
  unfold k13_law
  and_intros
  have hw0 := wsum_nn hnw
  refine ⟨cmul64 (by decide) (by decide) (by split <;> decide) (by split <;> decide), by unfold small62; split <;> decide, ?_⟩
  have hk12 : ∀ ds' v10 v11 v12 v13, JarOk (n + 3) ds' → k12_law Ex E [u0, .lst a ds', u2, dSz S, .ext (dPs ps), u5, u6, .ext (dSh S ps), dI (wsum (wts S ps)), dI (wsum (wts S ps)), v10, v11, v12, v13, u14, u15, u16, u17] := by
    intro ds' v10 v11 v12 v13 hj'
    unfold k12_law
    and_intros
    rw [nD_len]
    refine ⟨cmul64 (by omega) (by omega) (by split <;> decide) (by split <;> decide), by unfold small62; split <;> omega, ?_⟩
    by_cases hw : 0 < wsum (wts S ps)
    · rw [if_pos hw, Int.mul_one, rgD_nat]
      refine for_ind (fun k : Nat => D.int (k : Int)) (fun xs env => ∃ (v5 v14 v15 v16 v17 : Sl), env = [u0, .lst a ds', u2, dSz S, .ext (dPs ps), v5, u6, .ext (dSh S ps), dI (wsum (wts S ps)), dI (wsum (wts S ps)), v10, v11, v12, v13, v14, v15, v16, v17] ∧ ∀ x ∈ xs, x < S.length) ?_ ?_ (List.range S.length) _
        ⟨_, _, _, _, _, rfl, fun x hx => List.mem_range.1 hx⟩
      · rintro env ⟨v5, v14, v15, v16, v17, rfl, _⟩
        exact ⟨True.intro, hN _ _ _ _ _ _ _ _ _ _ _ _ _ _ hj'⟩
      · rintro x xs env N ⟨v5, v14, v15, v16, v17, rfl, hx⟩ hN1
        have hx1 := hx x List.mem_cons_self
        refine ⟨True.intro, ?_⟩
        unfold b11_law
        and_intros
        refine ⟨by decide, .sum, S, ps, _, 2, rfl, hs, rfl, .inr ⟨[x], rfl, List.pairwise_singleton _ _, by simpa using hx1, fun fin => ?_⟩⟩
        have ews : (restP .sum S ps [x]).ws = (List.range (sz S x)).map fun v => mineW S ps x v := by
          show (fills S [x]).map (fun g => gt .sum (bkt .sum S ps [x] g (allF S))) = _
          rw [fills_one, List.map_map]
          refine List.map_congr_left fun v hv => bkt_mine
        trivial
        rw [ews]
        have hz := hs.sz.pos _ (sz_mem hx1)
        have hz4 := hs.sz.small _ (sz_mem hx1)
        refine ⟨_, atN (sz_at hx1), ?_⟩
        trivial
        refine ⟨⟨by omega, by omega⟩, ?_⟩
        rw [rgD_nat]
        have hm0 : ∀ v, 0 ≤ mineW S ps x v := fun v => wsum_nn fun q hq => hnw q (List.mem_filter.1 hq).1
        have hsum : ((List.range (sz S x)).map fun v => mineW S ps x v).sum = wsum (wts S ps) := sum_mine x (sz S x) (wts S ps) fun q hq => (wts_fit hq).2 x hx1
        refine lc_map (fun v : Nat => D.int (v : Int)) (fun v : Nat => lowP (mineW S ps x v).toNat (wsum (wts S ps)).toNat) True.intro (List.range (sz S x)) (Nat.le_trans (by simp; omega : _ ≤ 100) (by decide)) (fun v hv R hR => ?_) fun b => ?_
        · unfold e9_law
          trivial
          refine ⟨S, ps, _, _, 1, rfl, hs, rfl, rfl, .inr ⟨x, hx1, rfl, .inr ⟨v, List.mem_range.1 hv, rfl, .inr ⟨hnw, hw, fun fin => ?_⟩⟩⟩⟩
          trivial
          exact hR
        trivial
        refine ⟨_, rfl, ?_⟩
        rw [hsum, if_neg (by simp)]
        rw [show iD ((List.range (sz S x)).map fun v => mineW S ps x v) = (List.range (sz S x)).map (fun v => D.int (mineW S ps x v)) by rw [iD, List.map_map]; rfl]
        refine lc_map (fun v : Nat => D.int (mineW S ps x v)) (fun v : Nat => lowP (mineW S ps x v).toNat (wsum (wts S ps)).toNat) True.intro (List.range (sz S x)) (Nat.le_trans (by simp; omega : _ ≤ 100) (by decide)) (fun v hv R hR => ?_) fun b => ?_
        · unfold e10_law
          trivial
          refine ⟨(mineW S ps x v).toNat, (wsum (wts S ps)).toNat, by rw [Int.toNat_of_nonneg (hm0 v), Int.toNat_of_nonneg hw0], by omega, wsum_bd hs, fun fin => ?_⟩
          trivial
          exact hR
        have hc : D.cmp (.lst ((List.range (sz S x)).map fun v => lowP (mineW S ps x v).toNat (wsum (wts S ps)).toNat)) := pi_cmp (k := 2) (by decide) (by
          rw [D.pi, List.all_eq_true]
          intro d hd
          obtain ⟨v, _, rfl⟩ := List.mem_map.1 hd
          rfl)
        trivial
        refine ⟨hc, hc, ?_⟩
        rw [if_neg (by rw [eqv_refl hc]; decide)]
        exact hN1 _ ⟨_, _, _, _, _, rfl, fun y hy => hx y (List.mem_cons_of_mem _ hy)⟩
    · rw [if_neg hw, Int.mul_zero]
      exact ⟨True.intro, hN _ _ _ _ _ _ _ _ _ _ _ _ _ _ hj'⟩
  by_cases hw : 0 < wsum (wts S ps)
  · rw [if_pos hw]
    rw [show rgD 0 (3 * 1) = nD (List.range 3) from rgD_nat 3]
    refine for_ind (fun k : Nat => D.int (k : Int)) (fun xs env => ∃ (m : Nat) (ds : List D) (v10 v11 v12 v13 : Sl), env = [u0, .lst a ds, u2, dSz S, .ext (dPs ps), u5, u6, .ext (dSh S ps), dI (wsum (wts S ps)), dI (wsum (wts S ps)), v10, v11, v12, v13, u14, u15, u16, u17] ∧ JarOk m ds ∧ m + xs.length = n + 3) ?_ ?_ (List.range 3) _
      ⟨n, ds, _, _, _, _, rfl, hj, rfl⟩
    · rintro env ⟨m, ds, v10, v11, v12, v13, rfl, hj1, hm⟩
      rw [List.length_nil] at hm
      exact ⟨True.intro, hk12 _ _ _ _ _ (hj1.up (by omega))⟩
    · rintro k xs env N ⟨m, ds, v10, v11, v12, v13, rfl, hj1, hm⟩ hN1
      rw [List.length_cons] at hm
      refine ⟨True.intro, ?_⟩
      unfold b8_law
      and_intros
      refine ⟨m, a, ds, _, rfl, hj1, by omega, ⟨hw, ?_⟩, fun r ds1 fin r0 r1 hj2 => ?_⟩
      · exact wsum_1000 hs h20 hw0
      trivial
      obtain ⟨pre, q, post, he, e1, e2⟩ := split_w hnw r0 r1
      have hqf : FitF S q.1 := wts_fit (by rw [he]; simp)
      have hqe : (jAll .sum S ps fun n => q.1.getD n 0) = q.2 := by
        obtain ⟨f, hf, e⟩ := List.mem_map.1 (show q ∈ wts S ps by rw [he]; simp)
        rw [← e]
      refine ⟨S, ps, _, 0, rfl, hs, rfl, .inr (.inr ⟨hnw, pre, q, post, r, he, rfl, e1, e2, fun fin => ?_⟩)⟩
      trivial
      refine ⟨S, ps, _, 2, rfl, hs, fpl hs.sz hqf, .inr (.inr ⟨hnw, pre, q, post, he, rfl, fun fin => ?_⟩)⟩
      trivial
      rw [if_pos (by omega)]
      refine ⟨.sum, S, ps, _, 2, rfl, hs, fpl hs.sz hqf, .inr ⟨q.1, rfl, hqf, fun fin => ?_⟩⟩
      rw [hqe]
      trivial
      rw [if_neg (by simp; omega)]
      exact hN1 _ ⟨m + 1, ds1, _, _, _, _, rfl, hj2, by omega⟩
  · rw [if_neg hw]
    exact ⟨True.intro, hk12 _ _ _ _ _ (hj.up (by omega))⟩
theorem m_law : Meets t_law 1 17 (lawSpec 63) := by
  rintro args Qd Xd ⟨ns, rfl, hl, hQ⟩
  show t_law _ _ [_, .un, .un, .un, .un, .un, .un, .un, .un, .un, .un, .un, .un, .un, .un, .un, .un, .un]
  unfold t_law
  trivial
  refine ⟨by decide, fun a => ⟨⟨by decide, by decide⟩, ?_⟩⟩
  rw [show rgD 0 3 = nD (List.range 3) from rgD_nat 3, cut_iD]
  refine for_ind (fun k : Nat => D.int (k : Int)) (fun xs env => ∃ (n : Nat) (ds : List D) (u2 u3 u4 u5 u6 u7 u8 u9 u10 u11 u12 u13 u14 u15 u16 u17 : Sl), env = [.ext (.fz (ns.map D.int)), .lst a ds, u2, u3, u4, u5, u6, u7, u8, u9, u10, u11, u12, u13, u14, u15, u16, u17] ∧ JarOk n ds ∧ n + xs.length * 1000000 < 4294967296) ?_ ?_ (List.range 3) _
    ⟨0, _, _, _, _, _, _, _, _, _, _, _, _, _, _, _, _, _, rfl, ⟨_, 0, 0, rfl, by decide, by decide⟩, by decide⟩
  · rintro env ⟨n, ds, u2, u3, u4, u5, u6, u7, u8, u9, u10, u11, u12, u13, u14, u15, u16, u17, rfl, _⟩
    refine ⟨True.intro, ?_⟩
    unfold k17_law
    trivial
    exact hQ _
  rintro k xs env N ⟨n, ds, u2, u3, u4, u5, u6, u7, u8, u9, u10, u11, u12, u13, u14, u15, u16, u17, rfl, hj, hn⟩ hN
  rw [List.length_cons] at hn
  refine ⟨True.intro, ?_⟩
  unfold b16_law
  trivial
  refine ⟨n, a, ds, 4, 12, rfl, hj, by omega, by decide, by decide, by decide, by decide, fun S ps ds1 fin hs hS2 hS3 h6 hnn hj1 => ?_⟩
  trivial
  have hnw : ∀ q ∈ wts S ps, 0 ≤ q.2 := fun q hq => by
    obtain ⟨f, hf, rfl⟩ := List.mem_map.1 hq
    exact hnn f (allF_fit hf)
  have hend : ∀ (m : Nat) (ds2 : List D) (qs : List Part) (v5 v6 : Sl), ShOk S qs → qs.length ≤ 20 → (∀ q ∈ wts S qs, 0 ≤ q.2) → JarOk m ds2 → m ≤ n + 900001 → k15_law (exOf [.ext (.fz (ns.map D.int))] Xd) { nx := N, rt := fun r env => Qd r [.ext (.fz (ns.map D.int))], bk := fun env1 => k17_law (exOf [.ext (.fz (ns.map D.int))] Xd) (endsOf [.ext (.fz (ns.map D.int))] Qd) env1, ct := N } [.ext (.fz (ns.map D.int)), .lst a ds2, .ext (.int (k : Nat)), dSz S, .ext (dPs qs), v5, v6, u7, u8, u9, u10, u11, u12, u13, u14, u15, u16, u17] := by
    intro m ds2 qs v5 v6 hqs h20 hqn hj2 hm
    exact q15 hqs h20 hqn hj2 (by omega) fun ds' w5 w6 w7 w8 w9 w10 w11 w12 w13 w14 w15 w16 w17 hj3 => hN _ ⟨m + 3, ds', _, _, _, _, _, _, _, _, _, _, _, _, _, _, _, _, rfl, hj3, by omega⟩
  rw [List.length_map]
  by_cases hp1 : 1 < ps.length
  · rw [if_pos (by omega)]
    refine ⟨n + 900000, a, ds1, 3, rfl, hj1, by omega, gdok (by decide) (by decide), fun r ds2 fin r0 r1 hj2 => ?_⟩
    trivial
    by_cases hr : r = 0
    · rw [if_pos (by simpa using hr)]
      unfold i3_law
      trivial
      obtain ⟨p, ps', rfl⟩ : ∃ p ps', ps = p :: ps' := by
        cases ps with
        | nil => simp at hp1
        | cons p ps' => exact ⟨p, ps', rfl⟩
      trivial
      have hct : cutD (dP p :: ps'.map dP) (some 1) none = ps'.map dP := by
        have := cut_drop (dP p :: ps'.map dP) 1 (by simp)
        exact this
      rw [hct]
      rw [List.length_cons] at h6 hp1
      refine for_ind dP (fun qs env => ∃ (one : Part) (b : Nat) (v6 : Sl), env = [.ext (.fz (ns.map D.int)), .lst a ds2, .ext (.int (k : Nat)), dSz S, .ext (dPs (p :: ps')), .ext (dP one), v6, u7, u8, u9, u10, u11, u12, u13, u14, u15, u16, u17] ∧ one.Ok S ∧ Bd b one ∧ 0 < b ∧ b + 40 * qs.length ≤ 240 ∧ (∀ q ∈ qs, q.Ok S ∧ Bd 40 q) ∧
        ∀ f, FitF S f → qs.foldl (fun acc q => jn .sum acc (val S q fun n => f.getD n 0)) (val S one fun n => f.getD n 0) = jAll .sum S (p :: ps') fun n => f.getD n 0) ?_ ?_ ps' _
        ⟨p, 40, _, rfl, hs.ok p List.mem_cons_self, hs.b4 p List.mem_cons_self, by decide, by omega, fun q hq => ⟨hs.ok q (List.mem_cons_of_mem _ hq), hs.b4 q (List.mem_cons_of_mem _ hq)⟩, fun f hf => ?_⟩
      · rintro env ⟨one, b, v6, rfl, ok, hb, hb0, hbl, _, hv⟩
        rw [List.length_nil] at hbl
        refine ⟨True.intro, ?_⟩
        unfold k2_law
        trivial
        refine ⟨by decide, ?_⟩
        have hs1 : ShOk S [one] := ⟨hs.sz, hs.one, by simpa using ok, ⟨b, hb0, by simp; omega, by simpa using hb⟩, by simp⟩
        refine hend (n + 900000 + 1) ds2 [one] _ _ hs1 (by simp) (fun q hq => ?_) hj2 (by omega)
        obtain ⟨f, hf, rfl⟩ := List.mem_map.1 hq
        show 0 ≤ jAll .sum S [one] fun n => f.getD n 0
        rw [jAll_one]
        have := hv f (allF_fit hf)
        rw [List.foldl_nil] at this
        rw [this]
        exact hnn f (allF_fit hf)
      · rintro q qs env N1 ⟨one, b, v6, rfl, ok, hb, hb0, hbl, hq, hv⟩ hN1
        rw [List.length_cons] at hbl
        obtain ⟨q1, q2⟩ := hq q List.mem_cons_self
        refine ⟨True.intro, ?_⟩
        unfold b1_law
        trivial
        refine ⟨.sum, S, one, q, rfl, hs.sz, ok, q1, hb.mul q2 (by omega), fun U fin hU => ?_⟩
        trivial
        have ok' := joinP_ok (jn := jn .sum) hU ok q1
        refine hN1 _ ⟨_, b + 40, _, rfl, ok', Bd.join hb0 (by decide) ok q1 hb q2 hU, by omega, by omega, fun r hr => hq r (List.mem_cons_of_mem _ hr), fun f hf => ?_⟩
        rw [val_joinP hU (hf.fit ok')]
        exact hv f hf
      · have e : jAll .sum S (p :: ps') (fun n => f.getD n 0) = ps'.foldl (fun acc q => jn .sum acc (val S q fun n => f.getD n 0)) (jn .sum 1 (val S p fun n => f.getD n 0)) := rfl
        rw [e]
        congr 1
        show _ = 1 * _
        rw [Int.one_mul]
    · rw [if_neg (by simpa using hr)]
      exact hend (n + 900000 + 1) ds2 ps _ _ hs (by omega) hnw hj2 (by omega)
  · rw [if_neg (by omega)]
    exact hend (n + 900000) ds1 ps _ _ hs (by omega) hnw hj1 (by omega)
end K86
end LS

/-! HDE: a def of the program keeps its specification; the law's end. -/
namespace HD
open PySem L2
abbrev FnD (K : PySem.W.Frag) (x : Str) (st : Stmt) (f : Addr) (fd : FuncData) : Prop := FunD K x x (defArgs st) (defBody st) (defScope st) [] [] f fd
theorem Def.of {G : GG} {x : Str} {st : Stmt} {f : Addr} {fd : FuncData} {N ps : List Str} {k n m : Nat} {t : DTS} {sp : DSpec} (F : FnD G.K x st f fd) (hmg : G.mg x = some (.ref f)) (sc : FnScope N ps (defScope st)) (hb : DSs G N (fnS (defScope st)) k (defBody st) t) (hm : Meets t n m sp)
    (hn : ps.length = n) (hN : N.length = n + m) (len : ∀ ds Q X, sp ds Q X → ds.length = n) (bd : Binds G.K fd ps []) : Def G (k + 1) x n sp := by
  subst hn
  refine ⟨⟨f, fd, ps, fn_ok (He5.fun_of F) sc hb fun args Qd Xd h hl => ?_, hmg, F.kp, bd⟩, len⟩
  have e : N.length - args.length = m := by omega
  rw [e]
  exact hm args Qd Xd h
/-- a promise that is never asked for -/
theorem Def.none {G : GG} {x : Str} {st : Stmt} {f : Addr} {fd : FuncData} {ps : List Str} {k n : Nat} (F : FnD G.K x st f fd) (hmg : G.mg x = some (.ref f)) (bd : Binds G.K fd ps []) : Def G k x n fun _ _ _ => False :=
  ⟨⟨f, fd, ps, ⟨fun _ _ _ _ h => by obtain ⟨_, _, _, _, _, _, z, _⟩ := h; exact z.elim, fun _ _ _ _ _ _ _ _ _ _ _ _ _ _ h => by obtain ⟨_, _, _, _, _, _, z, _⟩ := h; exact z.elim⟩, hmg, F.kp, bd⟩, fun _ _ _ z => z.elim⟩
theorem Def.ok {G : GG} {k : Nat} {x : Str} {sp : DSpec} {fa : Addr} {st : Stmt} {fd : FuncData} {N : List Str} {m : Nat} {t : DTS} (F : FnD G.K x st fa fd) (sc : FnScope N ["script"] (defScope st)) (hb : DSs G N (fnS (defScope st)) k (defBody st) t) (hm : Meets t 1 m sp) (hN : N.length = 1 + m) :
    FnG G.P G.w G.K G.mg G.base (L2.CX G.P G.w) (k + 1) fa fd ["script"] (toSp G.K 1 sp) := by
  refine fn_ok (He5.fun_of F) sc hb fun args Qd Xd h hl => ?_
  have e : N.length - args.length = m := by
    have : args.length = 1 := hl
    omega
  rw [e]
  exact hm args Qd Xd h
/-- the law's walk, its exceptions by the world -/
theorem walkW {l : PySem.W.OpenLaw} {n k : Nat} {q : Program} {names : List Str} {XP : (Str → Option Value) → Heap → Prop} {YP : World → Heap → Prop} {d : DefRec} {CX : World → CXT} {x : Str}
    (hn : l.most = some n) (hz : n ≤ sizeLine) (hd0 : d.params.defaults = []) (room : Room k callerA)
    (F : ∀ (w : World) (mg : Str → Option Value) (f : Addr) (h : Heap), YP w h → h.Ns mainGlobals mg → mg d.name = some (.ref f) →
      ∃ (K : PySem.W.Frag) (fd : FuncData) (sp : Sp), K.In h ∧ (∀ (s : Shared) (v : Value), BindsTo s fd ⟨[v], []⟩ [(x, v)]) ∧
        (∀ (H : Hp) (a : Addr) (ns : List Int), ns.length ≤ n → SqL K H a (ns.map V.int) → sp [.ref a] H (fun v _ => v = .bl true) fun _ _ _ => False) ∧
        ∀ base : Heap, K.In base → base.Ns mainGlobals mg → FnG l.prog w K mg base (CX w) k f fd [x] sp)
    (no : ∀ (w : World) (H : Hp) (s : Shared) (e : Value) (s' : Shared), CX w [] H s (fun _ _ _ => False) e s' → False) :
    PySem.W.WalkO q names XP YP l.row.toRowW d [] (fun f vs => PySem.call f vs) := by
  refine Att.attach_call hn hd0 fun w s s1 mg mb f o pm cd doc a vs ns G Y h1 h2 h3 hm h4 h5 h6 h7 => ?_
  obtain ⟨K, fd, sp, hK, hb, hsp, hF⟩ := F w mg f _ Y G.T.g hm
  exact law_callG hK G.T.g G.T.b G.T.builtins G.T.nolimit h7 h4 h5 (Nat.le_trans h6 hz) room hF hb (fun H _ hS => hsp H a ns h6 hS) fun H e s' => no w H s1 e s'
end HD

namespace LS.K86.E
open PySem L2 HD PM
open K02 (t_worth_of m_worth_of sp_worth_of)
open K85 (t_common m_common sp_common t_law_glow m_law_glow sp_law_glow t_share_of m_share_of sp_share_of)
def topS (i : Nat) : Stmt := PySem.Challenge.pw_sumorder_k86_whole_numbers.main.body.getD i (.Pass ⟨0, 0, 0, 0⟩)
abbrev s_unit : Stmt := topS 2
abbrev N_unit : List Str := ["word"]
abbrev P_unit : List Str := ["word"]
theorem sc_unit : FnScope N_unit P_unit (defScope s_unit) := ⟨rfl, rfl, rfl, by decide +kernel, rfl, by decide +kernel, by decide +kernel⟩
theorem d_unit {G : GG} (B : Blt G) (k_ROOF : ∃ t, G.mg "ROOF" = some (.int 1000000000000000000000000000000 t)) : DSs G N_unit (fnS (defScope s_unit)) 0 (defBody s_unit) t_unit :=
    (dss_cons (ds_if (dt_cmp c_in (de_var 0) (de_tup (da_cons de_str (da_cons de_str da_nil)))) (dss_one (ds_ret de_int)) dss_nil)
    (dss_one (ds_ret (de_if (dt_cmp c_eq (de_var 0) de_str) (de_gint k_ROOF) de_int))))
abbrev s_join : Stmt := topS 3
abbrev N_join : List Str := ["word", "one", "other"]
abbrev P_join : List Str := ["word", "one", "other"]
theorem sc_join : FnScope N_join P_join (defScope s_join) := ⟨rfl, rfl, rfl, by decide +kernel, rfl, by decide +kernel, by decide +kernel⟩
theorem d_join {G : GG} (B : Blt G) : DSs G N_join (fnS (defScope s_join)) 0 (defBody s_join) t_join :=
    (dss_cons (ds_if (dt_cmp c_eq (de_var 0) de_str) (dss_one (ds_ret (de_mul (de_var 1) (de_var 2)))) dss_nil)
    (dss_cons (ds_if (dt_cmp c_in (de_var 0) (de_tup (da_cons de_str (da_cons de_str da_nil)))) (dss_one (ds_ret (de_add (de_var 1) (de_var 2)))) dss_nil)
    (dss_one (ds_ret (de_cb b_min B.min (da_cons (de_var 1) (da_cons (de_var 2) da_nil)))))))
abbrev s_gather : Stmt := topS 4
abbrev N_gather : List Str := ["word", "numbers"]
abbrev P_gather : List Str := ["word", "numbers"]
theorem sc_gather : FnScope N_gather P_gather (defScope s_gather) := ⟨rfl, rfl, rfl, by decide +kernel, rfl, by decide +kernel, by decide +kernel⟩
theorem d_gather {G : GG} (B : Blt G) : DSs G N_gather (fnS (defScope s_gather)) 0 (defBody s_gather) t_gather :=
    (dss_cons (ds_if (dt_cmp c_eq (de_var 0) de_str) (dss_one (ds_ret (de_cb b_sum B.sum (da_cons (de_var 1) da_nil)))) dss_nil)
    (dss_one (ds_ret (de_if (dt_cmp c_eq (de_var 0) de_str) (de_cb b_min B.min (da_cons (de_var 1) da_nil)) (de_cb b_max B.max (da_cons (de_var 1) da_nil))))))
abbrev s_is_whole : Stmt := topS 5
abbrev N_is_whole : List Str := ["thing"]
abbrev P_is_whole : List Str := ["thing"]
theorem sc_is_whole : FnScope N_is_whole P_is_whole (defScope s_is_whole) := ⟨rfl, rfl, rfl, by decide +kernel, rfl, by decide +kernel, by decide +kernel⟩
theorem d_is_whole {G : GG} (B : Blt G) : DSs G N_is_whole (fnS (defScope s_is_whole)) 0 (defBody s_is_whole) t_is_whole :=
    (dss_one (ds_ret (de_and (de_cb b_isi B.isinstance (da_cons (de_var 0) (da_cons (de_bltn (v := .ty "int") rfl B.int (by decide +kernel) rfl) da_nil))) (de_one (de_not (de_cb b_isi B.isinstance (da_cons (de_var 0) (da_cons (de_bltn (v := .ty "bool") rfl B.bool (by decide +kernel) rfl) da_nil))))))))
abbrev s_fillings_of : Stmt := topS 6
abbrev N_fillings_of : List Str := ["sizes", "names", "found", "name", "longer", "some", "worth"]
abbrev P_fillings_of : List Str := ["sizes", "names"]
theorem sc_fillings_of : FnScope N_fillings_of P_fillings_of (defScope s_fillings_of) := ⟨rfl, rfl, rfl, by decide +kernel, rfl, by decide +kernel, by decide +kernel⟩
theorem d_fillings_of {G : GG} (B : Blt G) : DSs G N_fillings_of (fnS (defScope s_fillings_of)) 0 (defBody s_fillings_of) t_fillings_of :=
    (dss_cons (ds_setE 2 (de_lst (da_cons (de_tup da_nil) da_nil)))
    (dss_cons (ds_for (di_seq (de_var 1)) (dg_name 3) (dss_cons (ds_set 4 (de_lst da_nil))
    (dss_cons (ds_for (di_seq (de_var 2)) (dg_name 5) (dss_one (ds_expr (de_extend 4 (de_lc [(Str.ofString "worth", 6)] (di_range1 (da_cons (de_ix (de_var 0) (de_var 3)) da_nil) B.range) (by decide +kernel) (dg_name 6) dtl_nil (de_add (de_var 5) (de_tup (da_cons (de_var 6) da_nil))))))))
    (dss_one (ds_setE 2 (de_var 4))))))
    (dss_one (ds_ret (de_var 2)))))
abbrev s_place_of : Stmt := topS 17
abbrev N_place_of : List Str := ["sizes", "names", "worths", "found", "name", "worth"]
abbrev P_place_of : List Str := ["sizes", "names", "worths"]
theorem sc_place_of : FnScope N_place_of P_place_of (defScope s_place_of) := ⟨rfl, rfl, rfl, by decide +kernel, rfl, by decide +kernel, by decide +kernel⟩
theorem d_place_of {G : GG} (B : Blt G) : DSs G N_place_of (fnS (defScope s_place_of)) 0 (defBody s_place_of) t_place_of :=
    (dss_cons (ds_setE 3 de_int)
    (dss_cons (ds_for (di_zip (de_var 1) (de_var 2) B.zip) (dg_tup (dgs_cons (dg_name 4) (dgs_cons (dg_name 5) dgs_nil))) (dss_one (ds_setE 3 (de_add (de_mul (de_var 3) (de_ix (de_var 0) (de_var 4))) (de_var 5)))))
    (dss_one (ds_ret (de_var 3)))))
abbrev s_common : Stmt := topS 23
abbrev N_common : List Str := ["one", "other"]
abbrev P_common : List Str := ["one", "other"]
theorem sc_common : FnScope N_common P_common (defScope s_common) := ⟨rfl, rfl, rfl, by decide +kernel, rfl, by decide +kernel, by decide +kernel⟩
theorem d_common {G : GG} (B : Blt G) : DSs G N_common (fnS (defScope s_common)) 0 (defBody s_common) t_common :=
    (dss_cons (ds_while (dt_cmp c_gt (de_var 1) de_int) (dss_one (ds_par 0 1 (da_cons (de_var 1) (da_cons (de_mod (de_var 0) (de_var 1)) da_nil)))))
    (dss_one (ds_ret (de_var 0))))
abbrev s_law_gprime : Stmt := topS 35
abbrev N_law_gprime : List Str := ["at", "some"]
abbrev P_law_gprime : List Str := ["at"]
theorem sc_law_gprime : FnScope N_law_gprime P_law_gprime (defScope s_law_gprime) := ⟨rfl, rfl, rfl, by decide +kernel, rfl, by decide +kernel, by decide +kernel⟩
theorem d_law_gprime {G : GG} (B : Blt G) : DSs G N_law_gprime (fnS (defScope s_law_gprime)) 0 (defBody s_law_gprime) t_law_gprime :=
    (dss_cons (ds_setE 1 (de_lst (da_cons de_int (da_cons de_int (da_cons de_int (da_cons de_int (da_cons de_int (da_cons de_int (da_cons de_int da_nil)))))))))
    (dss_one (ds_ret (de_ix (de_add (de_var 1) (de_lst (da_cons de_int (da_cons de_int da_nil)))) (de_mod (de_var 0) de_int)))))
abbrev s_law_gfillings : Stmt := topS 41
abbrev N_law_gfillings : List Str := ["sizes", "names", "found", "name", "longer", "some", "worth"]
abbrev P_law_gfillings : List Str := ["sizes", "names"]
theorem sc_law_gfillings : FnScope N_law_gfillings P_law_gfillings (defScope s_law_gfillings) := ⟨rfl, rfl, rfl, by decide +kernel, rfl, by decide +kernel, by decide +kernel⟩
theorem d_law_gfillings {G : GG} (B : Blt G) : DSs G N_law_gfillings (fnS (defScope s_law_gfillings)) 0 (defBody s_law_gfillings) t_law_gfillings :=
    (dss_cons (ds_setE 2 (de_lst (da_cons (de_tup da_nil) da_nil)))
    (dss_cons (ds_for (di_seq (de_var 1)) (dg_name 3) (dss_cons (ds_set 4 (de_lst da_nil))
    (dss_cons (ds_for (di_seq (de_var 2)) (dg_name 5) (dss_one (ds_expr (de_extend 4 (de_lc [(Str.ofString "worth", 6)] (di_range1 (da_cons (de_ix (de_var 0) (de_var 3)) da_nil) B.range) (by decide +kernel) (dg_name 6) dtl_nil (de_add (de_var 5) (de_tup (da_cons (de_var 6) da_nil))))))))
    (dss_one (ds_setE 2 (de_var 4))))))
    (dss_one (ds_ret (de_var 2)))))
abbrev s_law_glow : Stmt := topS 49
abbrev N_law_glow : List Str := ["top", "bottom", "one", "other"]
abbrev P_law_glow : List Str := ["top", "bottom"]
theorem sc_law_glow : FnScope N_law_glow P_law_glow (defScope s_law_glow) := ⟨rfl, rfl, rfl, by decide +kernel, rfl, by decide +kernel, by decide +kernel⟩
theorem d_law_glow {G : GG} (B : Blt G) : DSs G N_law_glow (fnS (defScope s_law_glow)) 0 (defBody s_law_glow) t_law_glow :=
    (dss_cons (ds_par 2 3 (da_cons (de_var 0) (da_cons (de_var 1) da_nil)))
    (dss_cons (ds_while (dt_cmp c_gt (de_var 3) de_int) (dss_one (ds_par 2 3 (da_cons (de_var 3) (da_cons (de_mod (de_var 2) (de_var 3)) da_nil)))))
    (dss_one (ds_ret (de_tup (da_cons (de_div (de_var 0) (de_var 2)) (da_cons (de_div (de_var 1) (de_var 2)) da_nil)))))))
abbrev s_are_names : Stmt := topS 14
abbrev N_are_names : List Str := ["many", "thing", "one", "k"]
abbrev P_are_names : List Str := ["many", "thing"]
theorem sc_are_names : FnScope N_are_names P_are_names (defScope s_are_names) := ⟨rfl, rfl, rfl, by decide +kernel, rfl, by decide +kernel, by decide +kernel⟩
theorem d_are_names {G : GG} (B : Blt G) (h_is_whole : Def G 1 "is_whole" 1 sp_is_whole) : DSs G N_are_names (fnS (defScope s_are_names)) 1 (defBody s_are_names) t_are_names :=
    (dss_cons (ds_if (DWe.te (dw_or (dt_not (dt_val (de_cb b_isi B.isinstance (da_cons (de_var 1) (da_cons (de_bltn (v := .ty "tuple") rfl B.tuple (by decide +kernel) rfl) da_nil))))) (dw_or1 (dt_not (dt_val (de_cb b_all B.all (da_cons (de_lc [(Str.ofString "one", 2)] (di_seq (de_var 1)) (by decide +kernel) (dg_name 2) dtl_nil (de_and (de_call h_is_whole (da_cons (de_var 2) da_nil)) (de_one (de_chain c_le c_lt de_int (de_var 2) (de_var 0))))) da_nil))))))) (dss_one (ds_ret de_bl)) dss_nil)
    (dss_one (ds_ret (de_cb b_all B.all (da_cons (de_lc [(Str.ofString "k", 3)] (di_range2 (da_cons de_int (da_cons (de_cb b_len B.len (da_cons (de_var 1) da_nil)) da_nil)) B.range) (by decide +kernel) (dg_name 3) dtl_nil (de_cmp c_lt (de_ix (de_var 1) (de_sub (de_var 3) de_int)) (de_ix (de_var 1) (de_var 3)))) da_nil)))))
abbrev s_is_filling : Stmt := topS 16
abbrev N_is_filling : List Str := ["sizes", "thing", "worth", "size"]
abbrev P_is_filling : List Str := ["sizes", "thing"]
theorem sc_is_filling : FnScope N_is_filling P_is_filling (defScope s_is_filling) := ⟨rfl, rfl, rfl, by decide +kernel, rfl, by decide +kernel, by decide +kernel⟩
theorem d_is_filling {G : GG} (B : Blt G) (h_is_whole : Def G 1 "is_whole" 1 sp_is_whole) : DSs G N_is_filling (fnS (defScope s_is_filling)) 1 (defBody s_is_filling) t_is_filling :=
    (dss_cons (ds_if (DWe.te (dw_or (dt_not (dt_val (de_cb b_isi B.isinstance (da_cons (de_var 1) (da_cons (de_bltn (v := .ty "tuple") rfl B.tuple (by decide +kernel) rfl) da_nil))))) (dw_or1 (dt_cmp c_ne (de_cb b_len B.len (da_cons (de_var 1) da_nil)) (de_cb b_len B.len (da_cons (de_var 0) da_nil)))))) (dss_one (ds_ret de_bl)) dss_nil)
    (dss_one (ds_ret (de_cb b_all B.all (da_cons (de_lc [(Str.ofString "worth", 2), (Str.ofString "size", 3)] (di_zip (de_var 1) (de_var 0) B.zip) (by decide +kernel) (dg_tup (dgs_cons (dg_name 2) (dgs_cons (dg_name 3) dgs_nil))) dtl_nil (de_and (de_call h_is_whole (da_cons (de_var 2) da_nil)) (de_one (de_chain c_le c_lt de_int (de_var 2) (de_var 3))))) da_nil)))))
abbrev s_worth_at : Stmt := topS 18
abbrev N_worth_at : List Str := ["sizes", "part", "filling", "names", "worths", "name"]
abbrev P_worth_at : List Str := ["sizes", "part", "filling"]
theorem sc_worth_at : FnScope N_worth_at P_worth_at (defScope s_worth_at) := ⟨rfl, rfl, rfl, by decide +kernel, rfl, by decide +kernel, by decide +kernel⟩
theorem d_worth_at {G : GG} (B : Blt G) (h_place_of : Def G 1 "place_of" 3 sp_place_of) : DSs G N_worth_at (fnS (defScope s_worth_at)) 1 (defBody s_worth_at) t_worth_at :=
    (dss_cons (ds_asg (de_var 1) (dg_tup (dgs_cons (dg_name 3) (dgs_cons (dg_name 4) dgs_nil))))
    (dss_one (ds_ret (de_ix (de_var 4) (de_call h_place_of (da_cons (de_var 0) (da_cons (de_var 3) (da_cons (de_lc [(Str.ofString "name", 5)] (di_seq (de_var 3)) (by decide +kernel) (dg_name 5) dtl_nil (de_ix (de_var 2) (de_var 5))) da_nil))))))))
abbrev s_all_fillings : Stmt := topS 21
abbrev N_all_fillings : List Str := ["sheet"]
abbrev P_all_fillings : List Str := ["sheet"]
theorem sc_all_fillings : FnScope N_all_fillings P_all_fillings (defScope s_all_fillings) := ⟨rfl, rfl, rfl, by decide +kernel, rfl, by decide +kernel, by decide +kernel⟩
theorem d_all_fillings {G : GG} (B : Blt G) (h_fillings_of : Def G 1 "fillings_of" 2 sp_fillings_of) : DSs G N_all_fillings (fnS (defScope s_all_fillings)) 1 (defBody s_all_fillings) t_all_fillings :=
    (dss_one (ds_ret (de_call h_fillings_of (da_cons (de_ix (de_var 0) de_int) (da_cons (de_listRg (drg_1 (de_cb b_len B.len (da_cons (de_ix (de_var 0) de_int) da_nil)) B.range) B.list) da_nil)))))
abbrev s_worth_by : Stmt := topS 29
abbrev N_worth_by : List Str := ["sizes", "part", "names", "worths", "own", "numbers", "name"]
abbrev P_worth_by : List Str := ["sizes", "part", "names", "worths"]
theorem sc_worth_by : FnScope N_worth_by P_worth_by (defScope s_worth_by) := ⟨rfl, rfl, rfl, by decide +kernel, rfl, by decide +kernel, by decide +kernel⟩
theorem d_worth_by {G : GG} (B : Blt G) (h_place_of : Def G 1 "place_of" 3 sp_place_of) : DSs G N_worth_by (fnS (defScope s_worth_by)) 1 (defBody s_worth_by) t_worth_by :=
    (dss_cons (ds_asg (de_var 1) (dg_tup (dgs_cons (dg_name 4) (dgs_cons (dg_name 5) dgs_nil))))
    (dss_one (ds_ret (de_ix (de_var 5) (de_call h_place_of (da_cons (de_var 0) (da_cons (de_var 4) (da_cons (de_lc [(Str.ofString "name", 6)] (di_seq (de_var 4)) (by decide +kernel) (dg_name 6) dtl_nil (de_ix (de_var 3) (de_index (de_var 2) (de_var 6)))) da_nil))))))))
abbrev s_law_gfresh : Stmt := topS 36
abbrev N_law_gfresh : List Str := ["tape", "at", "cell", "one", "two", "three"]
abbrev P_law_gfresh : List Str := ["tape"]
theorem sc_law_gfresh : FnScope N_law_gfresh P_law_gfresh (defScope s_law_gfresh) := ⟨rfl, rfl, rfl, by decide +kernel, rfl, by decide +kernel, by decide +kernel⟩
theorem d_law_gfresh {G : GG} (B : Blt G) (h_law_gprime : Def G 1 "_law_gprime" 1 sp_law_gprime) : DSs G N_law_gfresh (fnS (defScope s_law_gfresh)) 1 (defBody s_law_gfresh) t_law_gfresh :=
    (dss_cons (ds_setE 1 (de_ix (de_var 0) de_int))
    (dss_cons (ds_setitem 0 de_int (de_add (de_var 1) de_int))
    (dss_cons (ds_setE 2 (de_add (de_mul de_int (de_var 1)) de_int))
    (dss_cons (ds_if (dt_cmp c_lt (de_var 1) (de_cb b_len B.len (da_cons (de_ix (de_var 0) de_int) da_nil))) (dss_one (ds_setE 2 (de_ix (de_ix (de_var 0) de_int) (de_var 1)))) (dss_one (ds_if (dt_cmp c_gt (de_cb b_len B.len (da_cons (de_ix (de_var 0) de_int) da_nil)) de_int) (dss_one (ds_setE 2 (de_add (de_mul (de_mod (de_ix (de_ix (de_var 0) de_int) (de_mod (de_var 1) (de_cb b_len B.len (da_cons (de_ix (de_var 0) de_int) da_nil)))) de_int) (de_add (de_var 1) de_int)) (de_var 1)))) dss_nil)))
    (dss_cons (ds_if (DWe.te (dw_and (dt_cmp c_lt (de_var 1) (de_cb b_len B.len (da_cons (de_ix (de_var 0) de_int) da_nil))) (dw_and1 (dt_cmp c_ge (de_var 2) (de_pow de_int de_int))))) (dss_one (ds_ret (de_var 2))) dss_nil)
    (dss_cons (ds_setE 3 (de_mod (de_pow (de_add (de_add (de_mul (de_mod (de_var 2) de_int) (de_add (de_var 1) de_int)) (de_mul de_int (de_var 1))) de_int) de_int) (de_call h_law_gprime (da_cons (de_var 1) da_nil))))
    (dss_cons (ds_setE 4 (de_mod (de_pow (de_add (de_add (de_mul (de_var 3) (de_add (de_var 1) de_int)) (de_mod (de_var 2) de_int)) de_int) de_int) (de_call h_law_gprime (da_cons (de_add (de_var 1) de_int) da_nil))))
    (dss_cons (ds_setE 5 (de_mod (de_add (de_mul (de_var 4) (de_var 4)) (de_var 3)) (de_call h_law_gprime (da_cons (de_add (de_var 1) de_int) da_nil))))
    (dss_one (ds_ret (de_add (de_mul (de_add (de_mul (de_var 5) de_int) (de_var 4)) de_int) (de_var 3))))))))))))
abbrev s_need_names : Stmt := topS 15
abbrev N_need_names : List Str := ["many", "thing"]
abbrev P_need_names : List Str := ["many", "thing"]
theorem sc_need_names : FnScope N_need_names P_need_names (defScope s_need_names) := ⟨rfl, rfl, rfl, by decide +kernel, rfl, by decide +kernel, by decide +kernel⟩
theorem d_need_names {G : GG} (B : Blt G) (h_are_names : Def G 2 "are_names" 2 sp_are_names) (x_NoName : XOk G "NoName") : DSs G N_need_names (fnS (defScope s_need_names)) 2 (defBody s_need_names) t_need_names :=
    (dss_one (ds_if (dt_not (dt_val (de_call h_are_names (da_cons (de_var 0) (da_cons (de_var 1) da_nil))))) (dss_one (ds_raise x_NoName)) dss_nil))
abbrev s_joined_at : Stmt := topS 19
abbrev N_joined_at : List Str := ["word", "sheet", "filling", "found", "part"]
abbrev P_joined_at : List Str := ["word", "sheet", "filling"]
theorem sc_joined_at : FnScope N_joined_at P_joined_at (defScope s_joined_at) := ⟨rfl, rfl, rfl, by decide +kernel, rfl, by decide +kernel, by decide +kernel⟩
theorem d_joined_at {G : GG} (B : Blt G) (h_join : Def G 1 "join" 3 sp_join) (h_unit : Def G 1 "unit" 1 sp_unit) (h_worth_at : Def G 2 "worth_at" 3 sp_worth_at) : DSs G N_joined_at (fnS (defScope s_joined_at)) 2 (defBody s_joined_at) t_joined_at :=
    (dss_cons (ds_setE 3 (de_call h_unit (da_cons (de_var 0) da_nil)))
    (dss_cons (ds_for (di_seq (de_ix (de_var 1) de_int)) (dg_name 4) (dss_one (ds_setE 3 (de_call h_join (da_cons (de_var 0) (da_cons (de_var 3) (da_cons (de_call h_worth_at (da_cons (de_ix (de_var 1) de_int) (da_cons (de_var 4) (da_cons (de_var 2) da_nil)))) da_nil)))))))
    (dss_one (ds_ret (de_var 3)))))
abbrev s_joined : Stmt := topS 30
abbrev N_joined : List Str := ["word", "sizes", "one", "other", "names", "worths", "some"]
abbrev P_joined : List Str := ["word", "sizes", "one", "other"]
theorem sc_joined : FnScope N_joined P_joined (defScope s_joined) := ⟨rfl, rfl, rfl, by decide +kernel, rfl, by decide +kernel, by decide +kernel⟩
theorem d_joined {G : GG} (B : Blt G) (h_fillings_of : Def G 1 "fillings_of" 2 sp_fillings_of) (h_join : Def G 1 "join" 3 sp_join) (h_worth_by : Def G 2 "worth_by" 4 sp_worth_by) : DSs G N_joined (fnS (defScope s_joined)) 2 (defBody s_joined) t_joined :=
    (dss_cons (ds_setE 4 (de_ct t_tuple B.tuple (da_cons (de_sortset (de_add (de_ix (de_var 2) de_int) (de_ix (de_var 3) de_int)) B.sorted B.set) da_nil)))
    (dss_cons (ds_set 5 (de_lst da_nil))
    (dss_cons (ds_for (di_seq (de_call h_fillings_of (da_cons (de_var 1) (da_cons (de_var 4) da_nil)))) (dg_name 6) (dss_one (ds_expr (de_append 5 (de_call h_join (da_cons (de_var 0) (da_cons (de_call h_worth_by (da_cons (de_var 1) (da_cons (de_var 2) (da_cons (de_var 4) (da_cons (de_var 6) da_nil))))) (da_cons (de_call h_worth_by (da_cons (de_var 1) (da_cons (de_var 3) (da_cons (de_var 4) (da_cons (de_var 6) da_nil))))) da_nil))))))))
    (dss_one (ds_ret (de_tup (da_cons (de_var 4) (da_cons (de_ct t_tuple B.tuple (da_cons (de_var 5) da_nil)) da_nil))))))))
abbrev s_law_gdraw : Stmt := topS 37
abbrev N_law_gdraw : List Str := ["tape", "many", "drawn"]
abbrev P_law_gdraw : List Str := ["tape", "many"]
theorem sc_law_gdraw : FnScope N_law_gdraw P_law_gdraw (defScope s_law_gdraw) := ⟨rfl, rfl, rfl, by decide +kernel, rfl, by decide +kernel, by decide +kernel⟩
theorem d_law_gdraw {G : GG} (B : Blt G) (h_law_gfresh : Def G 2 "_law_gfresh" 1 sp_law_gfresh) : DSs G N_law_gdraw (fnS (defScope s_law_gdraw)) 2 (defBody s_law_gdraw) t_law_gdraw :=
    (dss_cons (ds_if (dt_cmp c_lt (de_ix (de_var 0) de_int) (de_var 1)) (dss_one (ds_setitem 0 de_int (de_callJ 0 h_law_gfresh da_nil))) dss_nil)
    (dss_cons (ds_setE 2 (de_mod (de_ix (de_var 0) de_int) (de_var 1)))
    (dss_cons (ds_setitem 0 de_int (de_div (de_ix (de_var 0) de_int) (de_var 1)))
    (dss_one (ds_ret (de_var 2))))))
abbrev s_worth_of : Stmt := topS 20
abbrev N_worth_of : List Str := ["word", "sheet", "filling"]
abbrev P_worth_of : List Str := ["word", "sheet", "filling"]
theorem sc_worth_of : FnScope N_worth_of P_worth_of (defScope s_worth_of) := ⟨rfl, rfl, rfl, by decide +kernel, rfl, by decide +kernel, by decide +kernel⟩
theorem d_worth_of {G : GG} (B : Blt G) (h_is_filling : Def G 2 "is_filling" 2 sp_is_filling) (h_joined_at : Def G 3 "joined_at" 3 sp_joined_at) (x_NoFilling : XOk G "NoFilling") : DSs G N_worth_of (fnS (defScope s_worth_of)) 3 (defBody s_worth_of) t_worth_of :=
    (dss_cons (ds_if (dt_not (dt_val (de_call h_is_filling (da_cons (de_ix (de_var 1) de_int) (da_cons (de_var 2) da_nil))))) (dss_one (ds_raise x_NoFilling)) dss_nil)
    (dss_one (ds_ret (de_call h_joined_at (da_cons (de_var 0) (da_cons (de_var 1) (da_cons (de_var 2) da_nil)))))))
abbrev s_weights_of : Stmt := topS 24
abbrev N_weights_of : List Str := ["sheet", "found", "filling", "weight"]
abbrev P_weights_of : List Str := ["sheet"]
theorem sc_weights_of : FnScope N_weights_of P_weights_of (defScope s_weights_of) := ⟨rfl, rfl, rfl, by decide +kernel, rfl, by decide +kernel, by decide +kernel⟩
theorem d_weights_of {G : GG} (B : Blt G) (h_all_fillings : Def G 2 "all_fillings" 1 sp_all_fillings) (h_joined_at : Def G 3 "joined_at" 3 sp_joined_at) (x_NoWeights : XOk G "NoWeights") : DSs G N_weights_of (fnS (defScope s_weights_of)) 3 (defBody s_weights_of) t_weights_of :=
    (dss_cons (ds_setLcE [(Str.ofString "filling", 2)] 1 (di_seq (de_call h_all_fillings (da_cons (de_var 0) da_nil))) (by decide +kernel) (dg_name 2) dtl_nil (de_tup (da_cons (de_var 2) (da_cons (de_call h_joined_at (da_cons de_str (da_cons (de_var 0) (da_cons (de_var 2) da_nil)))) da_nil))))
    (dss_cons (ds_if (dt_val (de_cb b_any B.any (da_cons (de_lc [(Str.ofString "filling", 2), (Str.ofString "weight", 3)] (di_seq (de_var 1)) (by decide +kernel) (dg_tup (dgs_cons (dg_name 2) (dgs_cons (dg_name 3) dgs_nil))) dtl_nil (de_cmp c_lt (de_var 3) de_int)) da_nil))) (dss_one (ds_raise x_NoWeights)) dss_nil)
    (dss_one (ds_ret (de_var 1)))))
abbrev s_whole : Stmt := topS 32
abbrev N_whole : List Str := ["word", "sheet", "filling"]
abbrev P_whole : List Str := ["word", "sheet"]
theorem sc_whole : FnScope N_whole P_whole (defScope s_whole) := ⟨rfl, rfl, rfl, by decide +kernel, rfl, by decide +kernel, by decide +kernel⟩
theorem d_whole {G : GG} (B : Blt G) (h_all_fillings : Def G 2 "all_fillings" 1 sp_all_fillings) (h_gather : Def G 1 "gather" 2 sp_gather) (h_joined_at : Def G 3 "joined_at" 3 sp_joined_at) : DSs G N_whole (fnS (defScope s_whole)) 3 (defBody s_whole) t_whole :=
    (dss_one (ds_ret (de_call h_gather (da_cons (de_var 0) (da_cons (de_lc [(Str.ofString "filling", 2)] (di_seq (de_call h_all_fillings (da_cons (de_var 1) da_nil))) (by decide +kernel) (dg_name 2) dtl_nil (de_call h_joined_at (da_cons (de_var 0) (da_cons (de_var 1) (da_cons (de_var 2) da_nil))))) da_nil)))))
abbrev s_rest : Stmt := topS 33
abbrev N_rest : List Str := ["word", "sheet", "names", "sizes", "kept", "some", "filling", "at", "name", "numbers"]
abbrev P_rest : List Str := ["word", "sheet", "names"]
theorem sc_rest : FnScope N_rest P_rest (defScope s_rest) := ⟨rfl, rfl, rfl, by decide +kernel, rfl, by decide +kernel, by decide +kernel⟩
theorem d_rest {G : GG} (B : Blt G) (h_all_fillings : Def G 2 "all_fillings" 1 sp_all_fillings) (h_fillings_of : Def G 1 "fillings_of" 2 sp_fillings_of) (h_gather : Def G 1 "gather" 2 sp_gather) (h_joined_at : Def G 3 "joined_at" 3 sp_joined_at) (h_need_names : Def G 3 "need_names" 2 sp_need_names) (h_place_of : Def G 1 "place_of" 3 sp_place_of) : DSs G N_rest (fnS (defScope s_rest)) 3 (defBody s_rest) t_rest :=
    (dss_cons (ds_setE 3 (de_ix (de_var 1) de_int))
    (dss_cons (ds_expr (de_call h_need_names (da_cons (de_cb b_len B.len (da_cons (de_var 3) da_nil)) (da_cons (de_var 2) da_nil))))
    (dss_cons (ds_setNest (x := Str.ofString "some") 4 5 (di_seq (de_call h_fillings_of (da_cons (de_var 3) (da_cons (de_var 2) da_nil)))) (by decide +kernel) (dg_name 5))
    (dss_cons (ds_for (di_seq (de_call h_all_fillings (da_cons (de_var 1) da_nil))) (dg_name 6) (dss_cons (ds_setE 7 (de_call h_place_of (da_cons (de_var 3) (da_cons (de_var 2) (da_cons (de_lc [(Str.ofString "name", 8)] (di_seq (de_var 2)) (by decide +kernel) (dg_name 8) dtl_nil (de_ix (de_var 6) (de_var 8))) da_nil)))))
    (dss_one (ds_expr (de_napp 4 (de_var 7) (de_call h_joined_at (da_cons (de_var 0) (da_cons (de_var 1) (da_cons (de_var 6) da_nil)))))))))
    (dss_one (ds_seal 4 (ds_ret (de_tup (da_cons (de_var 2) (da_cons (de_ct t_tuple B.tuple (da_cons (de_lc [(Str.ofString "numbers", 9)] (di_seq (de_var 4)) (by decide +kernel) (dg_name 9) dtl_nil (de_call h_gather (da_cons (de_var 0) (da_cons (de_var 9) da_nil)))) da_nil)) da_nil))))))))))
abbrev s_law_gworths : Stmt := topS 44
abbrev N_law_gworths : List Str := ["tape", "word", "many", "way", "k"]
abbrev P_law_gworths : List Str := ["tape", "word", "many"]
theorem sc_law_gworths : FnScope N_law_gworths P_law_gworths (defScope s_law_gworths) := ⟨rfl, rfl, rfl, by decide +kernel, rfl, by decide +kernel, by decide +kernel⟩
theorem d_law_gworths {G : GG} (B : Blt G) (h_law_gdraw : Def G 3 "_law_gdraw" 2 sp_law_gdraw) : DSs G N_law_gworths (fnS (defScope s_law_gworths)) 3 (defBody s_law_gworths) t_law_gworths :=
    (dss_cons (ds_setE 3 (de_callJ 0 h_law_gdraw (da_cons de_int da_nil)))
    (dss_cons (ds_if (dt_cmp c_eq (de_var 1) de_str) (dss_one (ds_ret (de_ct t_tuple B.tuple (da_cons (de_lc [(Str.ofString "k", 4)] (di_range1 (da_cons (de_var 2) da_nil) B.range) (by decide +kernel) (dg_name 4) dtl_nil (de_ix (de_lst (da_cons de_int (da_cons de_int (da_cons de_int (da_cons (de_mod (de_var 3) de_int) da_nil))))) (de_callJ 0 h_law_gdraw (da_cons de_int da_nil)))) da_nil)))) dss_nil)
    (dss_cons (ds_if (dt_cmp c_eq (de_var 3) de_int) (dss_one (ds_ret (de_ct t_tuple B.tuple (da_cons (de_lc [(Str.ofString "k", 4)] (di_range1 (da_cons (de_var 2) da_nil) B.range) (by decide +kernel) (dg_name 4) dtl_nil (de_sub (de_callJ 0 h_law_gdraw (da_cons (de_add (de_mul de_int (de_pow de_int de_int)) de_int) da_nil)) (de_pow de_int de_int))) da_nil)))) dss_nil)
    (dss_one (ds_ret (de_ct t_tuple B.tuple (da_cons (de_lc [(Str.ofString "k", 4)] (di_range1 (da_cons (de_var 2) da_nil) B.range) (by decide +kernel) (dg_name 4) dtl_nil (de_sub (de_callJ 0 h_law_gdraw (da_cons (de_ix (de_lst (da_cons de_int (da_cons de_int (da_cons de_int da_nil)))) (de_var 3)) da_nil)) (de_ix (de_lst (da_cons de_int (da_cons de_int (da_cons de_int da_nil)))) (de_var 3)))) da_nil)))))))
abbrev s_filling_at : Stmt := topS 25
abbrev N_filling_at : List Str := ["sheet", "number", "some", "filling", "weight", "at"]
abbrev P_filling_at : List Str := ["sheet", "number"]
theorem sc_filling_at : FnScope N_filling_at P_filling_at (defScope s_filling_at) := ⟨rfl, rfl, rfl, by decide +kernel, rfl, by decide +kernel, by decide +kernel⟩
theorem d_filling_at {G : GG} (B : Blt G) (h_is_whole : Def G 1 "is_whole" 1 sp_is_whole) (h_weights_of : Def G 4 "weights_of" 1 sp_weights_of) (x_NoNumber : XOk G "NoNumber") : DSs G N_filling_at (fnS (defScope s_filling_at)) 4 (defBody s_filling_at) t_filling_at :=
    (dss_cons (ds_setE 2 (de_call h_weights_of (da_cons (de_var 0) da_nil)))
    (dss_cons (ds_if (DWe.te (dw_or (dt_not (dt_val (de_call h_is_whole (da_cons (de_var 1) da_nil)))) (dw_or1 (dt_not (dt_chain c_le c_lt de_int (de_var 1) (de_cb b_sum B.sum (da_cons (de_lc [(Str.ofString "filling", 3), (Str.ofString "weight", 4)] (di_seq (de_var 2)) (by decide +kernel) (dg_tup (dgs_cons (dg_name 3) (dgs_cons (dg_name 4) dgs_nil))) dtl_nil (de_var 4)) da_nil))))))) (dss_one (ds_raise x_NoNumber)) dss_nil)
    (dss_cons (ds_setE 5 de_int)
    (dss_cons (ds_while (dt_cmp c_ge (de_var 1) (de_ix (de_ix (de_var 2) (de_var 5)) de_int)) (dss_cons (ds_setE 1 (de_sub (de_var 1) (de_ix (de_ix (de_var 2) (de_var 5)) de_int)))
    (dss_one (ds_setE 5 (de_add (de_var 5) de_int)))))
    (dss_one (ds_ret (de_ix (de_ix (de_var 2) (de_var 5)) de_int)))))))
abbrev s_number_of : Stmt := topS 26
abbrev N_number_of : List Str := ["sheet", "filling", "other", "weight"]
abbrev P_number_of : List Str := ["sheet", "filling"]
theorem sc_number_of : FnScope N_number_of P_number_of (defScope s_number_of) := ⟨rfl, rfl, rfl, by decide +kernel, rfl, by decide +kernel, by decide +kernel⟩
theorem d_number_of {G : GG} (B : Blt G) (h_is_filling : Def G 2 "is_filling" 2 sp_is_filling) (h_weights_of : Def G 4 "weights_of" 1 sp_weights_of) (x_NoFilling : XOk G "NoFilling") : DSs G N_number_of (fnS (defScope s_number_of)) 4 (defBody s_number_of) t_number_of :=
    (dss_cons (ds_if (dt_not (dt_val (de_call h_is_filling (da_cons (de_ix (de_var 0) de_int) (da_cons (de_var 1) da_nil))))) (dss_one (ds_raise x_NoFilling)) dss_nil)
    (dss_one (ds_ret (de_cb b_sum B.sum (da_cons (de_lc [(Str.ofString "other", 2), (Str.ofString "weight", 3)] (di_seq (de_call h_weights_of (da_cons (de_var 0) da_nil))) (by decide +kernel) (dg_tup (dgs_cons (dg_name 2) (dgs_cons (dg_name 3) dgs_nil))) (dtl_one (dt_cmp c_ltT (de_var 2) (de_var 1))) (de_var 3)) da_nil)))))
abbrev s_share_of : Stmt := topS 27
abbrev N_share_of : List Str := ["sheet", "name", "worth", "some", "every", "filling", "weight", "part", "by"]
abbrev P_share_of : List Str := ["sheet", "name", "worth"]
theorem sc_share_of : FnScope N_share_of P_share_of (defScope s_share_of) := ⟨rfl, rfl, rfl, by decide +kernel, rfl, by decide +kernel, by decide +kernel⟩
theorem d_share_of {G : GG} (B : Blt G) (h_common : Def G 1 "common" 2 sp_common) (h_is_whole : Def G 1 "is_whole" 1 sp_is_whole) (h_weights_of : Def G 4 "weights_of" 1 sp_weights_of) (x_NoFilling : XOk G "NoFilling") (x_NoName : XOk G "NoName") (x_NoWeights : XOk G "NoWeights") : DSs G N_share_of (fnS (defScope s_share_of)) 4 (defBody s_share_of) t_share_of :=
    (dss_cons (ds_if (DWe.te (dw_or (dt_not (dt_val (de_call h_is_whole (da_cons (de_var 1) da_nil)))) (dw_or1 (dt_not (dt_chain c_le c_lt de_int (de_var 1) (de_cb b_len B.len (da_cons (de_ix (de_var 0) de_int) da_nil))))))) (dss_one (ds_raise x_NoName)) dss_nil)
    (dss_cons (ds_if (DWe.te (dw_or (dt_not (dt_val (de_call h_is_whole (da_cons (de_var 2) da_nil)))) (dw_or1 (dt_not (dt_chain c_le c_lt de_int (de_var 2) (de_ix (de_ix (de_var 0) de_int) (de_var 1))))))) (dss_one (ds_raise x_NoFilling)) dss_nil)
    (dss_cons (ds_setE 3 (de_call h_weights_of (da_cons (de_var 0) da_nil)))
    (dss_cons (ds_setE 4 (de_cb b_sum B.sum (da_cons (de_lc [(Str.ofString "filling", 5), (Str.ofString "weight", 6)] (di_seq (de_var 3)) (by decide +kernel) (dg_tup (dgs_cons (dg_name 5) (dgs_cons (dg_name 6) dgs_nil))) dtl_nil (de_var 6)) da_nil)))
    (dss_cons (ds_if (dt_cmp c_eq (de_var 4) de_int) (dss_one (ds_raise x_NoWeights)) dss_nil)
    (dss_cons (ds_setE 7 (de_cb b_sum B.sum (da_cons (de_lc [(Str.ofString "filling", 5), (Str.ofString "weight", 6)] (di_seq (de_var 3)) (by decide +kernel) (dg_tup (dgs_cons (dg_name 5) (dgs_cons (dg_name 6) dgs_nil))) (dtl_one (dt_cmp c_eq (de_ix (de_var 5) (de_var 1)) (de_var 2))) (de_var 6)) da_nil)))
    (dss_cons (ds_setE 8 (de_call h_common (da_cons (de_var 7) (da_cons (de_var 4) da_nil))))
    (dss_one (ds_ret (de_tup (da_cons (de_div (de_var 7) (de_var 8)) (da_cons (de_div (de_var 4) (de_var 8)) da_nil))))))))))))
abbrev s_law_gparts : Stmt := topS 45
abbrev N_law_gparts : List Str := ["tape", "word", "sizes", "most", "found", "k", "names", "j"]
abbrev P_law_gparts : List Str := ["tape", "word", "sizes", "most"]
theorem sc_law_gparts : FnScope N_law_gparts P_law_gparts (defScope s_law_gparts) := ⟨rfl, rfl, rfl, by decide +kernel, rfl, by decide +kernel, by decide +kernel⟩
theorem d_law_gparts {G : GG} (B : Blt G) (h_law_gdraw : Def G 3 "_law_gdraw" 2 sp_law_gdraw) (h_law_gfillings : Def G 1 "_law_gfillings" 2 sp_law_gfillings) (h_law_gworths : Def G 4 "_law_gworths" 3 sp_law_gworths) : DSs G N_law_gparts (fnS (defScope s_law_gparts)) 4 (defBody s_law_gparts) t_law_gparts :=
    (dss_cons (ds_set 4 (de_lst da_nil))
    (dss_cons (ds_for (di_range1 (da_cons (de_callJ 0 h_law_gdraw (da_cons (de_add (de_var 3) de_int) da_nil)) da_nil) B.range) (dg_name 5) (dss_cons (ds_setE 6 (de_ct t_tuple B.tuple (da_cons (de_sortsetL (de_lc [(Str.ofString "j", 7)] (di_range1 (da_cons (de_callJ 0 h_law_gdraw (da_cons de_int da_nil)) da_nil) B.range) (by decide +kernel) (dg_name 7) dtl_nil (de_callJ 0 h_law_gdraw (da_cons (de_cb b_len B.len (da_cons (de_var 2) da_nil)) da_nil))) B.sorted B.set) da_nil)))
    (dss_one (ds_expr (de_append 4 (de_tup (da_cons (de_var 6) (da_cons (de_callJ 0 h_law_gworths (da_cons (de_var 1) (da_cons (de_cb b_len B.len (da_cons (de_call h_law_gfillings (da_cons (de_var 2) (da_cons (de_var 6) da_nil))) da_nil)) da_nil))) da_nil))))))))
    (dss_one (ds_ret (de_ct t_tuple B.tuple (da_cons (de_var 4) da_nil))))))
abbrev s_law_gsheet : Stmt := topS 46
abbrev N_law_gsheet : List Str := ["tape", "word", "names", "most", "parts", "sizes", "room", "x", "size"]
abbrev P_law_gsheet : List Str := ["tape", "word", "names", "most", "parts"]
theorem sc_law_gsheet : FnScope N_law_gsheet P_law_gsheet (defScope s_law_gsheet) := ⟨rfl, rfl, rfl, by decide +kernel, rfl, by decide +kernel, by decide +kernel⟩
theorem d_law_gsheet {G : GG} (B : Blt G) (h_law_gdraw : Def G 3 "_law_gdraw" 2 sp_law_gdraw) (h_law_gparts : Def G 5 "_law_gparts" 4 sp_law_gparts) : DSs G N_law_gsheet (fnS (defScope s_law_gsheet)) 5 (defBody s_law_gsheet) t_law_gsheet :=
    (dss_cons (ds_set 5 (de_lst da_nil))
    (dss_cons (ds_setE 6 de_int)
    (dss_cons (ds_for (di_range1 (da_cons (de_add de_int (de_callJ 0 h_law_gdraw (da_cons (de_var 2) da_nil))) da_nil) B.range) (dg_name 7) (dss_cons (ds_setE 8 (de_ix (de_lst (da_cons de_int (da_cons de_int (da_cons de_int (da_cons de_int (da_cons de_int (da_cons de_int da_nil))))))) (de_callJ 0 h_law_gdraw (da_cons de_int da_nil))))
    (dss_cons (ds_expr (de_append 5 (de_if (dt_cmp c_le (de_mul (de_var 6) (de_var 8)) (de_var 3)) (de_var 8) de_int)))
    (dss_one (ds_setE 6 (de_mul (de_var 6) (de_ix (de_var 5) (de_neg de_int))))))))
    (dss_one (ds_fz 5 (ds_ret (de_tup (da_cons (de_ct t_tuple B.tuple (da_cons (de_var 5) da_nil)) (da_cons (de_callJ 0 h_law_gparts (da_cons (de_var 1) (da_cons (de_var 5) (da_cons (de_var 4) da_nil)))) da_nil)))))))))
abbrev s_law_gheavy : Stmt := topS 47
abbrev N_law_gheavy : List Str := ["tape", "names", "most", "sizes", "way", "found", "some", "worths", "worth", "many", "turn", "k"]
abbrev P_law_gheavy : List Str := ["tape", "names", "most"]
theorem sc_law_gheavy : FnScope N_law_gheavy P_law_gheavy (defScope s_law_gheavy) := ⟨rfl, rfl, rfl, by decide +kernel, rfl, by decide +kernel, by decide +kernel⟩
theorem d_law_gheavy {G : GG} (B : Blt G) (h_law_gdraw : Def G 3 "_law_gdraw" 2 sp_law_gdraw) (h_law_gfillings : Def G 1 "_law_gfillings" 2 sp_law_gfillings) (h_law_gparts : Def G 5 "_law_gparts" 4 sp_law_gparts) (h_law_gsheet : Def G 6 "_law_gsheet" 5 sp_law_gsheet) (b_abs_ : G.mg "abs" = none) : DSs G N_law_gheavy (fnS (defScope s_law_gheavy)) 6 (defBody s_law_gheavy) t_law_gheavy :=
    (dss_cons (ds_setE 3 (de_ix (de_callJ 0 h_law_gsheet (da_cons de_str (da_cons (de_var 1) (da_cons (de_var 2) (da_cons de_int da_nil))))) de_int))
    (dss_cons (ds_setE 4 (de_callJ 0 h_law_gdraw (da_cons de_int da_nil)))
    (dss_cons (ds_set 5 (de_lst da_nil))
    (dss_cons (ds_for (di_seq (de_callJ 0 h_law_gparts (da_cons de_str (da_cons (de_var 3) (da_cons de_int da_nil))))) (dg_tup (dgs_cons (dg_name 6) (dgs_cons (dg_name 7) dgs_nil))) (dss_one (ds_expr (de_append 5 (de_tup (da_cons (de_var 6) (da_cons (de_ct t_tuple B.tuple (da_cons (de_lc [(Str.ofString "worth", 8)] (di_seq (de_var 7)) (by decide +kernel) (dg_name 8) dtl_nil (de_mod (de_cb b_abs b_abs_ (da_cons (de_var 8) da_nil)) (de_ix (de_lst (da_cons de_int (da_cons de_int (da_cons (de_pow de_int de_int) (da_cons de_int (da_cons de_int da_nil)))))) (de_var 4)))) da_nil)) da_nil)))))))
    (dss_cons (ds_if (dt_cmp c_eq (de_var 4) de_int) (dss_cons (ds_setE 9 (de_cb b_len B.len (da_cons (de_call h_law_gfillings (da_cons (de_var 3) (da_cons (de_tup (da_cons de_int da_nil)) da_nil))) da_nil)))
    (dss_one (ds_for (di_range1 (da_cons de_int da_nil) B.range) (dg_name 10) (dss_one (ds_expr (de_append 5 (de_tup (da_cons (de_tup (da_cons de_int da_nil)) (da_cons (de_ct t_tuple B.tuple (da_cons (de_lc [(Str.ofString "k", 11)] (di_range1 (da_cons (de_var 9) da_nil) B.range) (by decide +kernel) (dg_name 11) dtl_nil (de_sub (de_neg de_int) (de_callJ 0 h_law_gdraw (da_cons de_int da_nil)))) da_nil)) da_nil))))))))) dss_nil)
    (dss_one (ds_ret (de_tup (da_cons (de_var 3) (da_cons (de_ct t_tuple B.tuple (da_cons (de_var 5) da_nil)) da_nil))))))))))
abbrev s_law : Stmt := topS 50
abbrev N_law : List Str := ["script", "tape", "turn", "sizes", "parts", "one", "part", "sheet", "every", "ahead", "filling", "weight", "number", "again", "name", "mine", "shares", "worth"]
abbrev P_law : List Str := ["script"]
theorem sc_law : FnScope N_law P_law (defScope s_law) := ⟨rfl, rfl, rfl, by decide +kernel, rfl, by decide +kernel, by decide +kernel⟩
theorem d_law {G : GG} (B : Blt G) (h_law_gdraw : Def G 3 "_law_gdraw" 2 sp_law_gdraw) (h_law_gfillings : Def G 1 "_law_gfillings" 2 sp_law_gfillings) (h_law_gheavy : Def G 7 "_law_gheavy" 3 sp_law_gheavy) (h_law_glow : Def G 1 "_law_glow" 2 sp_law_glow) (h_filling_at : Def G 5 "filling_at" 2 sp_filling_at) (h_joined : Def G 3 "joined" 4 sp_joined) (h_number_of : Def G 5 "number_of" 2 sp_number_of) (h_rest : Def G 4 "rest" 3 sp_rest) (h_share_of : Def G 5 "share_of" 3 sp_share_of) (h_whole : Def G 4 "whole" 2 sp_whole) (h_worth_of : Def G 4 "worth_of" 3 sp_worth_of) : DSs G N_law (fnS (defScope s_law)) 7 (defBody s_law) t_law :=
    (dss_cons (ds_set 1 (de_lst (da_cons (de_ct t_list B.list (da_cons (de_slice (de_var 0) do_none (do_some de_int)) da_nil)) (da_cons de_int (da_cons de_int da_nil)))))
    (dss_cons (ds_for (di_range1 (da_cons de_int da_nil) B.range) (dg_name 2) (dss_cons (ds_asg (de_callJ 1 h_law_gheavy (da_cons de_int (da_cons de_int da_nil))) (dg_tup (dgs_cons (dg_name 3) (dgs_cons (dg_name 4) dgs_nil))))
    (dss_cons (ds_if (DWe.te (dw_and (dt_cmp c_gt (de_cb b_len B.len (da_cons (de_var 4) da_nil)) de_int) (dw_and1 (dt_cmp c_eq (de_callJ 1 h_law_gdraw (da_cons de_int da_nil)) de_int)))) (dss_cons (ds_setE 5 (de_ix (de_var 4) de_int))
    (dss_cons (ds_for (di_seq (de_slice (de_var 4) (do_some de_int) do_none)) (dg_name 6) (dss_one (ds_setE 5 (de_call h_joined (da_cons de_str (da_cons (de_var 3) (da_cons (de_var 5) (da_cons (de_var 6) da_nil))))))))
    (dss_one (ds_setE 4 (de_tup (da_cons (de_var 5) da_nil)))))) dss_nil)
    (dss_cons (ds_setE 7 (de_tup (da_cons (de_var 3) (da_cons (de_var 4) da_nil))))
    (dss_cons (ds_setE 8 (de_call h_whole (da_cons de_str (da_cons (de_var 7) da_nil))))
    (dss_cons (ds_setE 9 de_int)
    (dss_cons (ds_for (di_seq (de_call h_law_gfillings (da_cons (de_var 3) (da_cons (de_listRg (drg_1 (de_cb b_len B.len (da_cons (de_var 3) da_nil)) B.range) B.list) da_nil)))) (dg_name 10) (dss_cons (ds_setE 11 (de_call h_worth_of (da_cons de_str (da_cons (de_var 7) (da_cons (de_var 10) da_nil)))))
    (dss_cons (ds_if (dt_cmp c_ne (de_call h_number_of (da_cons (de_var 7) (da_cons (de_var 10) da_nil))) (de_var 9)) (dss_one (ds_ret de_bl)) dss_nil)
    (dss_cons (ds_for (di_seq (de_slice (de_lst (da_cons (de_var 9) (da_cons (de_sub (de_add (de_var 9) (de_var 11)) de_int) da_nil))) do_none (do_some (de_mul de_int (de_ct t_int B.int (da_cons (de_cmp c_gt (de_var 11) de_int) da_nil)))))) (dg_name 12) (dss_one (ds_if (dt_cmp c_ne (de_call h_filling_at (da_cons (de_var 7) (da_cons (de_var 12) da_nil))) (de_var 10)) (dss_one (ds_ret de_bl)) dss_nil)))
    (dss_one (ds_setE 9 (de_add (de_var 9) (de_var 11))))))))
    (dss_cons (ds_if (dt_cmp c_ne (de_var 9) (de_var 8)) (dss_one (ds_ret de_bl)) dss_nil)
    (dss_cons (ds_for (di_range1 (da_cons (de_mul de_int (de_ct t_int B.int (da_cons (de_cmp c_gt (de_var 8) de_int) da_nil))) da_nil) B.range) (dg_name 13) (dss_cons (ds_setE 12 (de_callJ 1 h_law_gdraw (da_cons (de_var 8) da_nil)))
    (dss_cons (ds_setE 10 (de_call h_filling_at (da_cons (de_var 7) (da_cons (de_var 12) da_nil))))
    (dss_one (ds_if (dt_not (dt_chain c_le c_lt de_int (de_sub (de_var 12) (de_call h_number_of (da_cons (de_var 7) (da_cons (de_var 10) da_nil)))) (de_call h_worth_of (da_cons de_str (da_cons (de_var 7) (da_cons (de_var 10) da_nil)))))) (dss_one (ds_ret de_bl)) dss_nil)))))
    (dss_one (ds_for (di_range1 (da_cons (de_mul (de_cb b_len B.len (da_cons (de_var 3) da_nil)) (de_ct t_int B.int (da_cons (de_cmp c_gt (de_var 8) de_int) da_nil))) da_nil) B.range) (dg_name 14) (dss_cons (ds_setE 15 (de_ix (de_call h_rest (da_cons de_str (da_cons (de_var 7) (da_cons (de_tup (da_cons (de_var 14) da_nil)) da_nil)))) de_int))
    (dss_cons (ds_setLcE [(Str.ofString "worth", 17)] 16 (di_range1 (da_cons (de_ix (de_var 3) (de_var 14)) da_nil) B.range) (by decide +kernel) (dg_name 17) dtl_nil (de_call h_share_of (da_cons (de_var 7) (da_cons (de_var 14) (da_cons (de_var 17) da_nil)))))
    (dss_one (ds_if (DWe.te (dw_or (dt_cmp c_ne (de_cb b_sum2 B.sum (da_cons (de_var 15) da_nil)) (de_var 8)) (dw_or1 (dt_cmp c_ne (de_var 16) (de_lc [(Str.ofString "one", 5)] (di_seq (de_var 15)) (by decide +kernel) (dg_name 5) dtl_nil (de_call h_law_glow (da_cons (de_var 5) (da_cons (de_var 8) da_nil)))))))) (dss_one (ds_ret de_bl)) dss_nil)))))))))))))))
    (dss_one (ds_ret de_bl))))
def y_unit : He.DefD := ⟨("unit", none), "unit", "unit", defArgs s_unit, defBody s_unit, defScope s_unit, [], []⟩
def y_join : He.DefD := ⟨("join", none), "join", "join", defArgs s_join, defBody s_join, defScope s_join, [], []⟩
def y_gather : He.DefD := ⟨("gather", none), "gather", "gather", defArgs s_gather, defBody s_gather, defScope s_gather, [], []⟩
def y_is_whole : He.DefD := ⟨("is_whole", none), "is_whole", "is_whole", defArgs s_is_whole, defBody s_is_whole, defScope s_is_whole, [], []⟩
def y_fillings_of : He.DefD := ⟨("fillings_of", none), "fillings_of", "fillings_of", defArgs s_fillings_of, defBody s_fillings_of, defScope s_fillings_of, [], []⟩
def y_place_of : He.DefD := ⟨("place_of", none), "place_of", "place_of", defArgs s_place_of, defBody s_place_of, defScope s_place_of, [], []⟩
def y_common : He.DefD := ⟨("common", none), "common", "common", defArgs s_common, defBody s_common, defScope s_common, [], []⟩
def y_law_gprime : He.DefD := ⟨("_law_gprime", none), "_law_gprime", "_law_gprime", defArgs s_law_gprime, defBody s_law_gprime, defScope s_law_gprime, [], []⟩
def y_law_gfillings : He.DefD := ⟨("_law_gfillings", none), "_law_gfillings", "_law_gfillings", defArgs s_law_gfillings, defBody s_law_gfillings, defScope s_law_gfillings, [], []⟩
def y_law_glow : He.DefD := ⟨("_law_glow", none), "_law_glow", "_law_glow", defArgs s_law_glow, defBody s_law_glow, defScope s_law_glow, [], []⟩
def y_are_names : He.DefD := ⟨("are_names", none), "are_names", "are_names", defArgs s_are_names, defBody s_are_names, defScope s_are_names, [], []⟩
def y_is_filling : He.DefD := ⟨("is_filling", none), "is_filling", "is_filling", defArgs s_is_filling, defBody s_is_filling, defScope s_is_filling, [], []⟩
def y_worth_at : He.DefD := ⟨("worth_at", none), "worth_at", "worth_at", defArgs s_worth_at, defBody s_worth_at, defScope s_worth_at, [], []⟩
def y_all_fillings : He.DefD := ⟨("all_fillings", none), "all_fillings", "all_fillings", defArgs s_all_fillings, defBody s_all_fillings, defScope s_all_fillings, [], []⟩
def y_worth_by : He.DefD := ⟨("worth_by", none), "worth_by", "worth_by", defArgs s_worth_by, defBody s_worth_by, defScope s_worth_by, [], []⟩
def y_law_gfresh : He.DefD := ⟨("_law_gfresh", none), "_law_gfresh", "_law_gfresh", defArgs s_law_gfresh, defBody s_law_gfresh, defScope s_law_gfresh, [], []⟩
def y_need_names : He.DefD := ⟨("need_names", none), "need_names", "need_names", defArgs s_need_names, defBody s_need_names, defScope s_need_names, [], []⟩
def y_joined_at : He.DefD := ⟨("joined_at", none), "joined_at", "joined_at", defArgs s_joined_at, defBody s_joined_at, defScope s_joined_at, [], []⟩
def y_joined : He.DefD := ⟨("joined", none), "joined", "joined", defArgs s_joined, defBody s_joined, defScope s_joined, [], []⟩
def y_law_gdraw : He.DefD := ⟨("_law_gdraw", none), "_law_gdraw", "_law_gdraw", defArgs s_law_gdraw, defBody s_law_gdraw, defScope s_law_gdraw, [], []⟩
def y_worth_of : He.DefD := ⟨("worth_of", none), "worth_of", "worth_of", defArgs s_worth_of, defBody s_worth_of, defScope s_worth_of, [], []⟩
def y_weights_of : He.DefD := ⟨("weights_of", none), "weights_of", "weights_of", defArgs s_weights_of, defBody s_weights_of, defScope s_weights_of, [], []⟩
def y_whole : He.DefD := ⟨("whole", none), "whole", "whole", defArgs s_whole, defBody s_whole, defScope s_whole, [], []⟩
def y_rest : He.DefD := ⟨("rest", none), "rest", "rest", defArgs s_rest, defBody s_rest, defScope s_rest, [], []⟩
def y_law_gworths : He.DefD := ⟨("_law_gworths", none), "_law_gworths", "_law_gworths", defArgs s_law_gworths, defBody s_law_gworths, defScope s_law_gworths, [], []⟩
def y_filling_at : He.DefD := ⟨("filling_at", none), "filling_at", "filling_at", defArgs s_filling_at, defBody s_filling_at, defScope s_filling_at, [], []⟩
def y_number_of : He.DefD := ⟨("number_of", none), "number_of", "number_of", defArgs s_number_of, defBody s_number_of, defScope s_number_of, [], []⟩
def y_share_of : He.DefD := ⟨("share_of", none), "share_of", "share_of", defArgs s_share_of, defBody s_share_of, defScope s_share_of, [], []⟩
def y_law_gparts : He.DefD := ⟨("_law_gparts", none), "_law_gparts", "_law_gparts", defArgs s_law_gparts, defBody s_law_gparts, defScope s_law_gparts, [], []⟩
def y_law_gsheet : He.DefD := ⟨("_law_gsheet", none), "_law_gsheet", "_law_gsheet", defArgs s_law_gsheet, defBody s_law_gsheet, defScope s_law_gsheet, [], []⟩
def y_law_gheavy : He.DefD := ⟨("_law_gheavy", none), "_law_gheavy", "_law_gheavy", defArgs s_law_gheavy, defBody s_law_gheavy, defScope s_law_gheavy, [], []⟩
def y_law : He.DefD := ⟨("law", none), "law", "law", defArgs s_law, defBody s_law, defScope s_law, [], []⟩
def fn0 : List He.DefD := [y_unit, y_join, y_gather, y_is_whole, y_fillings_of, y_place_of, y_common, y_law_gprime, y_law_gfillings, y_law_glow, y_are_names, y_is_filling, y_worth_at, y_all_fillings, y_worth_by, y_law_gfresh, y_need_names, y_joined_at, y_joined, y_law_gdraw, y_worth_of, y_weights_of, y_whole, y_rest, y_law_gworths, y_filling_at, y_number_of, y_share_of, y_law_gparts, y_law_gsheet]
def fn1 : List He.DefD := [y_law_gheavy, y_law]
def fn : List He.DefD := fn0 ++ fn1
def fa0 : List He.Fa := [.glo "unit", .glo "join", .glo "gather", .glo "is_whole", .glo "fillings_of", .glo "place_of", .glo "common", .glo "_law_gprime", .glo "_law_gfillings", .glo "_law_glow", .glo "are_names", .glo "is_filling", .glo "worth_at", .glo "all_fillings", .glo "worth_by", .glo "_law_gfresh", .glo "need_names", .glo "joined_at", .glo "joined", .glo "_law_gdraw", .glo "worth_of", .glo "weights_of", .glo "whole", .glo "rest", .glo "_law_gworths", .glo "filling_at", .glo "number_of", .glo "share_of", .glo "_law_gparts", .glo "_law_gsheet"]
def fa1 : List He.Fa := [.glo "_law_gheavy", .glo "law", .free "len", .free "range", .free "sorted", .free "set", .free "tuple", .free "list", .free "dict", .free "zip", .free "enumerate", .free "all", .free "any", .free "sum", .free "min", .free "max", .free "isinstance", .free "str", .free "int", .free "repr", .free "bool", .glo "NoFilling", .exc "NoFilling", .glo "NoName", .exc "NoName", .glo "NoNumber", .exc "NoNumber", .glo "NoWeights", .exc "NoWeights", .int "ROOF" 1000000000000000000000000000000]
def fa2 : List He.Fa := [.free "abs"]
def fa : List He.Fa := fa0 ++ fa1 ++ fa2
def nm0 : List PySem.Str := ["ROOF", "unit", "join", "gather", "is_whole", "fillings_of", "SumError", "NoFilling", "NoName", "NoWeights", "NoNumber", "are_names", "need_names", "is_filling", "place_of", "worth_at", "joined_at", "worth_of", "all_fillings", "common", "weights_of", "filling_at", "number_of", "share_of", "worth_by", "joined", "whole", "rest", "_law_gprime", "_law_gfresh"]
def nm1 : List PySem.Str := ["_law_gdraw", "_law_gunit", "_law_gjoin", "_law_ggather", "_law_gfillings", "_law_gat", "_law_gword", "_law_gworths", "_law_gparts", "_law_gsheet", "_law_gheavy", "_law_gweights", "_law_glow"]
def nm : List PySem.Str := nm0 ++ nm1
abbrev R : PySem.W.OpenRow := PySem.W.OpenLaw.row PySem.Challenge.rw_sumorder_k86_whole_numbers
def ex : PySem.W.Frag → Bool := fun _ => true
abbrev hk : PySem.W.Hook := hookE 4 fa fn ex
def ob (s : PySem.W.SharedT) : He.AlD × Bool := obsE 4 fa fn ex (HandSHeadRun.getT s)
theorem obE (s : PySem.W.SharedT) : ob s = hk.obs s.abs := obsE_eq (HandSHeadRun.getT_eq s)
theorem topRun (w : World) : HandSHeadRun.RunEq R (PySem.W.view R.prog [50]) hk ob 8000 nm w := by
  intro os; kernel_rfl
theorem facts {w : World} {K : PySem.W.Frag} {h : Heap} {mg : Str → Option Value} {f : Addr} (X : K.In h) (N : h.Ns mainGlobals mg) (hf : mg ("law" : Str) = some (.ref f)) (c : He.SaysD fa fn K) (cx : ex K = true) :
    ∃ fd : FuncData, (∀ (s : Shared) (v : Value), BindsTo s fd ⟨[v], []⟩ [("script", v)]) ∧ ∀ base : Heap, K.In base → base.Ns mainGlobals mg → FnG PySem.Challenge.pw_sumorder_k86_whole_numbers w K mg base (L2.CX PySem.Challenge.pw_sumorder_k86_whole_numbers w) 8 f fd ["script"] (toSp K 1 (lawSpec 63)) := by
  obtain ⟨f_unit, F_unit⟩ := c.def_ 0 (d := y_unit) rfl
  have g_unit := He.glo_ok X N (c.fact 0 (f := .glo "unit") rfl)
  obtain ⟨f_join, F_join⟩ := c.def_ 1 (d := y_join) rfl
  have g_join := He.glo_ok X N (c.fact 1 (f := .glo "join") rfl)
  obtain ⟨f_gather, F_gather⟩ := c.def_ 2 (d := y_gather) rfl
  have g_gather := He.glo_ok X N (c.fact 2 (f := .glo "gather") rfl)
  obtain ⟨f_is_whole, F_is_whole⟩ := c.def_ 3 (d := y_is_whole) rfl
  have g_is_whole := He.glo_ok X N (c.fact 3 (f := .glo "is_whole") rfl)
  obtain ⟨f_fillings_of, F_fillings_of⟩ := c.def_ 4 (d := y_fillings_of) rfl
  have g_fillings_of := He.glo_ok X N (c.fact 4 (f := .glo "fillings_of") rfl)
  obtain ⟨f_place_of, F_place_of⟩ := c.def_ 5 (d := y_place_of) rfl
  have g_place_of := He.glo_ok X N (c.fact 5 (f := .glo "place_of") rfl)
  obtain ⟨f_common, F_common⟩ := c.def_ 6 (d := y_common) rfl
  have g_common := He.glo_ok X N (c.fact 6 (f := .glo "common") rfl)
  obtain ⟨f_law_gprime, F_law_gprime⟩ := c.def_ 7 (d := y_law_gprime) rfl
  have g_law_gprime := He.glo_ok X N (c.fact 7 (f := .glo "_law_gprime") rfl)
  obtain ⟨f_law_gfillings, F_law_gfillings⟩ := c.def_ 8 (d := y_law_gfillings) rfl
  have g_law_gfillings := He.glo_ok X N (c.fact 8 (f := .glo "_law_gfillings") rfl)
  obtain ⟨f_law_glow, F_law_glow⟩ := c.def_ 9 (d := y_law_glow) rfl
  have g_law_glow := He.glo_ok X N (c.fact 9 (f := .glo "_law_glow") rfl)
  obtain ⟨f_are_names, F_are_names⟩ := c.def_ 10 (d := y_are_names) rfl
  have g_are_names := He.glo_ok X N (c.fact 10 (f := .glo "are_names") rfl)
  obtain ⟨f_is_filling, F_is_filling⟩ := c.def_ 11 (d := y_is_filling) rfl
  have g_is_filling := He.glo_ok X N (c.fact 11 (f := .glo "is_filling") rfl)
  obtain ⟨f_worth_at, F_worth_at⟩ := c.def_ 12 (d := y_worth_at) rfl
  have g_worth_at := He.glo_ok X N (c.fact 12 (f := .glo "worth_at") rfl)
  obtain ⟨f_all_fillings, F_all_fillings⟩ := c.def_ 13 (d := y_all_fillings) rfl
  have g_all_fillings := He.glo_ok X N (c.fact 13 (f := .glo "all_fillings") rfl)
  obtain ⟨f_worth_by, F_worth_by⟩ := c.def_ 14 (d := y_worth_by) rfl
  have g_worth_by := He.glo_ok X N (c.fact 14 (f := .glo "worth_by") rfl)
  obtain ⟨f_law_gfresh, F_law_gfresh⟩ := c.def_ 15 (d := y_law_gfresh) rfl
  have g_law_gfresh := He.glo_ok X N (c.fact 15 (f := .glo "_law_gfresh") rfl)
  obtain ⟨f_need_names, F_need_names⟩ := c.def_ 16 (d := y_need_names) rfl
  have g_need_names := He.glo_ok X N (c.fact 16 (f := .glo "need_names") rfl)
  obtain ⟨f_joined_at, F_joined_at⟩ := c.def_ 17 (d := y_joined_at) rfl
  have g_joined_at := He.glo_ok X N (c.fact 17 (f := .glo "joined_at") rfl)
  obtain ⟨f_joined, F_joined⟩ := c.def_ 18 (d := y_joined) rfl
  have g_joined := He.glo_ok X N (c.fact 18 (f := .glo "joined") rfl)
  obtain ⟨f_law_gdraw, F_law_gdraw⟩ := c.def_ 19 (d := y_law_gdraw) rfl
  have g_law_gdraw := He.glo_ok X N (c.fact 19 (f := .glo "_law_gdraw") rfl)
  obtain ⟨f_worth_of, F_worth_of⟩ := c.def_ 20 (d := y_worth_of) rfl
  have g_worth_of := He.glo_ok X N (c.fact 20 (f := .glo "worth_of") rfl)
  obtain ⟨f_weights_of, F_weights_of⟩ := c.def_ 21 (d := y_weights_of) rfl
  have g_weights_of := He.glo_ok X N (c.fact 21 (f := .glo "weights_of") rfl)
  obtain ⟨f_whole, F_whole⟩ := c.def_ 22 (d := y_whole) rfl
  have g_whole := He.glo_ok X N (c.fact 22 (f := .glo "whole") rfl)
  obtain ⟨f_rest, F_rest⟩ := c.def_ 23 (d := y_rest) rfl
  have g_rest := He.glo_ok X N (c.fact 23 (f := .glo "rest") rfl)
  obtain ⟨f_law_gworths, F_law_gworths⟩ := c.def_ 24 (d := y_law_gworths) rfl
  have g_law_gworths := He.glo_ok X N (c.fact 24 (f := .glo "_law_gworths") rfl)
  obtain ⟨f_filling_at, F_filling_at⟩ := c.def_ 25 (d := y_filling_at) rfl
  have g_filling_at := He.glo_ok X N (c.fact 25 (f := .glo "filling_at") rfl)
  obtain ⟨f_number_of, F_number_of⟩ := c.def_ 26 (d := y_number_of) rfl
  have g_number_of := He.glo_ok X N (c.fact 26 (f := .glo "number_of") rfl)
  obtain ⟨f_share_of, F_share_of⟩ := c.def_ 27 (d := y_share_of) rfl
  have g_share_of := He.glo_ok X N (c.fact 27 (f := .glo "share_of") rfl)
  obtain ⟨f_law_gparts, F_law_gparts⟩ := c.def_ 28 (d := y_law_gparts) rfl
  have g_law_gparts := He.glo_ok X N (c.fact 28 (f := .glo "_law_gparts") rfl)
  obtain ⟨f_law_gsheet, F_law_gsheet⟩ := c.def_ 29 (d := y_law_gsheet) rfl
  have g_law_gsheet := He.glo_ok X N (c.fact 29 (f := .glo "_law_gsheet") rfl)
  obtain ⟨f_law_gheavy, F_law_gheavy⟩ := c.def_ 30 (d := y_law_gheavy) rfl
  have g_law_gheavy := He.glo_ok X N (c.fact 30 (f := .glo "_law_gheavy") rfl)
  obtain ⟨f_law, F_law⟩ := c.def_ 31 (d := y_law) rfl
  have e := hf.symm.trans (He.glo_ok X N (c.fact 31 (f := .glo "law") rfl))
  cases e
  have b := FunD.bindsA (ps := ["script"]) F_law fun _ _ _ _ _ _ us hl => match us, hl with | [_], _ => rfl
  refine ⟨f_law, fun s v => b s [v] rfl, fun base _ _ => ?_⟩
  let G : GG := ⟨PySem.Challenge.pw_sumorder_k86_whole_numbers, w, K, mg, base⟩
  have B : Blt G := ⟨He.free_ok X N (c.fact 32 (f := .free "len") rfl), He.free_ok X N (c.fact 33 (f := .free "range") rfl), He.free_ok X N (c.fact 34 (f := .free "sorted") rfl), He.free_ok X N (c.fact 35 (f := .free "set") rfl), He.free_ok X N (c.fact 36 (f := .free "tuple") rfl), He.free_ok X N (c.fact 37 (f := .free "list") rfl), He.free_ok X N (c.fact 38 (f := .free "dict") rfl), He.free_ok X N (c.fact 39 (f := .free "zip") rfl), He.free_ok X N (c.fact 40 (f := .free "enumerate") rfl), He.free_ok X N (c.fact 41 (f := .free "all") rfl), He.free_ok X N (c.fact 42 (f := .free "any") rfl), He.free_ok X N (c.fact 43 (f := .free "sum") rfl), He.free_ok X N (c.fact 44 (f := .free "min") rfl), He.free_ok X N (c.fact 45 (f := .free "max") rfl), He.free_ok X N (c.fact 46 (f := .free "isinstance") rfl), He.free_ok X N (c.fact 47 (f := .free "str") rfl), He.free_ok X N (c.fact 48 (f := .free "int") rfl), He.free_ok X N (c.fact 49 (f := .free "repr") rfl), He.free_ok X N (c.fact 50 (f := .free "bool") rfl)⟩
  have x_NoFilling : XOk G "NoFilling" := ⟨He.glo_ok X N (c.fact 51 (f := .glo "NoFilling") rfl), c.fact 52 (f := .exc "NoFilling") rfl⟩
  have x_NoName : XOk G "NoName" := ⟨He.glo_ok X N (c.fact 53 (f := .glo "NoName") rfl), c.fact 54 (f := .exc "NoName") rfl⟩
  have x_NoNumber : XOk G "NoNumber" := ⟨He.glo_ok X N (c.fact 55 (f := .glo "NoNumber") rfl), c.fact 56 (f := .exc "NoNumber") rfl⟩
  have x_NoWeights : XOk G "NoWeights" := ⟨He.glo_ok X N (c.fact 57 (f := .glo "NoWeights") rfl), c.fact 58 (f := .exc "NoWeights") rfl⟩
  have k_ROOF := He.int_ok X N (c.fact 59 (f := .int "ROOF" 1000000000000000000000000000000) rfl)
  have b_abs_ : G.mg "abs" = none := He.free_ok X N (c.fact 60 (f := .free "abs") rfl)
  have h_unit : Def G 1 "unit" 1 sp_unit := Def.of (st := s_unit) (m := 0) F_unit g_unit sc_unit (d_unit B k_ROOF) m_unit rfl rfl (fun ds Q X h => by repeat (first | (refine Or.elim h (fun h => ?_) (fun h => ?_)) | (obtain ⟨rfl, _⟩ := h; rfl) | (obtain ⟨rfl | rfl, _⟩ := h <;> rfl) | (obtain ⟨⟨_, _, rfl, _⟩, _⟩ := h; rfl) | (obtain ⟨_, h⟩ := h))) (FunD.bindsN (ps := P_unit) F_unit fun _ _ _ _ _ _ us hl => match us, hl with | [_], _ => rfl)
  have h_join : Def G 1 "join" 3 sp_join := Def.of (st := s_join) (m := 0) F_join g_join sc_join (d_join B ) m_join rfl rfl (fun ds Q X h => by repeat (first | (refine Or.elim h (fun h => ?_) (fun h => ?_)) | (obtain ⟨rfl, _⟩ := h; rfl) | (obtain ⟨rfl | rfl, _⟩ := h <;> rfl) | (obtain ⟨⟨_, _, rfl, _⟩, _⟩ := h; rfl) | (obtain ⟨_, h⟩ := h))) (FunD.bindsN (ps := P_join) F_join fun _ _ _ _ _ _ us hl => match us, hl with | [_, _, _], _ => rfl)
  have h_gather : Def G 1 "gather" 2 sp_gather := Def.of (st := s_gather) (m := 0) F_gather g_gather sc_gather (d_gather B ) m_gather rfl rfl (fun ds Q X h => by repeat (first | (refine Or.elim h (fun h => ?_) (fun h => ?_)) | (obtain ⟨rfl, _⟩ := h; rfl) | (obtain ⟨rfl | rfl, _⟩ := h <;> rfl) | (obtain ⟨⟨_, _, rfl, _⟩, _⟩ := h; rfl) | (obtain ⟨_, h⟩ := h))) (FunD.bindsN (ps := P_gather) F_gather fun _ _ _ _ _ _ us hl => match us, hl with | [_, _], _ => rfl)
  have h_is_whole : Def G 1 "is_whole" 1 sp_is_whole := Def.of (st := s_is_whole) (m := 0) F_is_whole g_is_whole sc_is_whole (d_is_whole B ) m_is_whole rfl rfl (fun ds Q X h => by repeat (first | (refine Or.elim h (fun h => ?_) (fun h => ?_)) | (obtain ⟨rfl, _⟩ := h; rfl) | (obtain ⟨rfl | rfl, _⟩ := h <;> rfl) | (obtain ⟨⟨_, _, rfl, _⟩, _⟩ := h; rfl) | (obtain ⟨_, h⟩ := h))) (FunD.bindsN (ps := P_is_whole) F_is_whole fun _ _ _ _ _ _ us hl => match us, hl with | [_], _ => rfl)
  have h_fillings_of : Def G 1 "fillings_of" 2 sp_fillings_of := Def.of (st := s_fillings_of) (m := 5) F_fillings_of g_fillings_of sc_fillings_of (d_fillings_of B ) m_fillings_of rfl rfl (fun ds Q X h => by repeat (first | (refine Or.elim h (fun h => ?_) (fun h => ?_)) | (obtain ⟨rfl, _⟩ := h; rfl) | (obtain ⟨rfl | rfl, _⟩ := h <;> rfl) | (obtain ⟨⟨_, _, rfl, _⟩, _⟩ := h; rfl) | (obtain ⟨_, h⟩ := h))) (FunD.bindsN (ps := P_fillings_of) F_fillings_of fun _ _ _ _ _ _ us hl => match us, hl with | [_, _], _ => rfl)
  have h_place_of : Def G 1 "place_of" 3 sp_place_of := Def.of (st := s_place_of) (m := 3) F_place_of g_place_of sc_place_of (d_place_of B ) m_place_of rfl rfl (fun ds Q X h => by repeat (first | (refine Or.elim h (fun h => ?_) (fun h => ?_)) | (obtain ⟨rfl, _⟩ := h; rfl) | (obtain ⟨rfl | rfl, _⟩ := h <;> rfl) | (obtain ⟨⟨_, _, rfl, _⟩, _⟩ := h; rfl) | (obtain ⟨_, h⟩ := h))) (FunD.bindsN (ps := P_place_of) F_place_of fun _ _ _ _ _ _ us hl => match us, hl with | [_, _, _], _ => rfl)
  have h_common : Def G 1 "common" 2 sp_common := Def.of (st := s_common) (m := 0) F_common g_common sc_common (d_common B ) m_common rfl rfl (fun ds Q X h => by repeat (first | (refine Or.elim h (fun h => ?_) (fun h => ?_)) | (obtain ⟨rfl, _⟩ := h; rfl) | (obtain ⟨rfl | rfl, _⟩ := h <;> rfl) | (obtain ⟨⟨_, _, rfl, _⟩, _⟩ := h; rfl) | (obtain ⟨_, h⟩ := h))) (FunD.bindsN (ps := P_common) F_common fun _ _ _ _ _ _ us hl => match us, hl with | [_, _], _ => rfl)
  have h_law_gprime : Def G 1 "_law_gprime" 1 sp_law_gprime := Def.of (st := s_law_gprime) (m := 1) F_law_gprime g_law_gprime sc_law_gprime (d_law_gprime B ) m_law_gprime rfl rfl (fun ds Q X h => by repeat (first | (refine Or.elim h (fun h => ?_) (fun h => ?_)) | (obtain ⟨rfl, _⟩ := h; rfl) | (obtain ⟨rfl | rfl, _⟩ := h <;> rfl) | (obtain ⟨⟨_, _, rfl, _⟩, _⟩ := h; rfl) | (obtain ⟨_, h⟩ := h))) (FunD.bindsN (ps := P_law_gprime) F_law_gprime fun _ _ _ _ _ _ us hl => match us, hl with | [_], _ => rfl)
  have h_law_gfillings : Def G 1 "_law_gfillings" 2 sp_law_gfillings := Def.of (st := s_law_gfillings) (m := 5) F_law_gfillings g_law_gfillings sc_law_gfillings (d_law_gfillings B ) m_law_gfillings rfl rfl (fun ds Q X h => by repeat (first | (refine Or.elim h (fun h => ?_) (fun h => ?_)) | (obtain ⟨rfl, _⟩ := h; rfl) | (obtain ⟨rfl | rfl, _⟩ := h <;> rfl) | (obtain ⟨⟨_, _, rfl, _⟩, _⟩ := h; rfl) | (obtain ⟨_, h⟩ := h))) (FunD.bindsN (ps := P_law_gfillings) F_law_gfillings fun _ _ _ _ _ _ us hl => match us, hl with | [_, _], _ => rfl)
  have h_law_glow : Def G 1 "_law_glow" 2 sp_law_glow := Def.of (st := s_law_glow) (m := 2) F_law_glow g_law_glow sc_law_glow (d_law_glow B ) m_law_glow rfl rfl (fun ds Q X h => by repeat (first | (refine Or.elim h (fun h => ?_) (fun h => ?_)) | (obtain ⟨rfl, _⟩ := h; rfl) | (obtain ⟨rfl | rfl, _⟩ := h <;> rfl) | (obtain ⟨⟨_, _, rfl, _⟩, _⟩ := h; rfl) | (obtain ⟨_, h⟩ := h))) (FunD.bindsN (ps := P_law_glow) F_law_glow fun _ _ _ _ _ _ us hl => match us, hl with | [_, _], _ => rfl)
  have h_are_names : Def G 2 "are_names" 2 sp_are_names := Def.of (st := s_are_names) (m := 2) F_are_names g_are_names sc_are_names (d_are_names B h_is_whole) m_are_names rfl rfl (fun ds Q X h => by repeat (first | (refine Or.elim h (fun h => ?_) (fun h => ?_)) | (obtain ⟨rfl, _⟩ := h; rfl) | (obtain ⟨rfl | rfl, _⟩ := h <;> rfl) | (obtain ⟨⟨_, _, rfl, _⟩, _⟩ := h; rfl) | (obtain ⟨_, h⟩ := h))) (FunD.bindsN (ps := P_are_names) F_are_names fun _ _ _ _ _ _ us hl => match us, hl with | [_, _], _ => rfl)
  have h_is_filling : Def G 2 "is_filling" 2 sp_is_filling := Def.of (st := s_is_filling) (m := 2) F_is_filling g_is_filling sc_is_filling (d_is_filling B h_is_whole) m_is_filling rfl rfl (fun ds Q X h => by repeat (first | (refine Or.elim h (fun h => ?_) (fun h => ?_)) | (obtain ⟨rfl, _⟩ := h; rfl) | (obtain ⟨rfl | rfl, _⟩ := h <;> rfl) | (obtain ⟨⟨_, _, rfl, _⟩, _⟩ := h; rfl) | (obtain ⟨_, h⟩ := h))) (FunD.bindsN (ps := P_is_filling) F_is_filling fun _ _ _ _ _ _ us hl => match us, hl with | [_, _], _ => rfl)
  have h_worth_at : Def G 2 "worth_at" 3 sp_worth_at := Def.of (st := s_worth_at) (m := 3) F_worth_at g_worth_at sc_worth_at (d_worth_at B h_place_of) m_worth_at rfl rfl (fun ds Q X h => by repeat (first | (refine Or.elim h (fun h => ?_) (fun h => ?_)) | (obtain ⟨rfl, _⟩ := h; rfl) | (obtain ⟨rfl | rfl, _⟩ := h <;> rfl) | (obtain ⟨⟨_, _, rfl, _⟩, _⟩ := h; rfl) | (obtain ⟨_, h⟩ := h))) (FunD.bindsN (ps := P_worth_at) F_worth_at fun _ _ _ _ _ _ us hl => match us, hl with | [_, _, _], _ => rfl)
  have h_all_fillings : Def G 2 "all_fillings" 1 sp_all_fillings := Def.of (st := s_all_fillings) (m := 0) F_all_fillings g_all_fillings sc_all_fillings (d_all_fillings B h_fillings_of) m_all_fillings rfl rfl (fun ds Q X h => by repeat (first | (refine Or.elim h (fun h => ?_) (fun h => ?_)) | (obtain ⟨rfl, _⟩ := h; rfl) | (obtain ⟨rfl | rfl, _⟩ := h <;> rfl) | (obtain ⟨⟨_, _, rfl, _⟩, _⟩ := h; rfl) | (obtain ⟨_, h⟩ := h))) (FunD.bindsN (ps := P_all_fillings) F_all_fillings fun _ _ _ _ _ _ us hl => match us, hl with | [_], _ => rfl)
  have h_worth_by : Def G 2 "worth_by" 4 sp_worth_by := Def.of (st := s_worth_by) (m := 3) F_worth_by g_worth_by sc_worth_by (d_worth_by B h_place_of) m_worth_by rfl rfl (fun ds Q X h => by repeat (first | (refine Or.elim h (fun h => ?_) (fun h => ?_)) | (obtain ⟨rfl, _⟩ := h; rfl) | (obtain ⟨rfl | rfl, _⟩ := h <;> rfl) | (obtain ⟨⟨_, _, rfl, _⟩, _⟩ := h; rfl) | (obtain ⟨_, h⟩ := h))) (FunD.bindsN (ps := P_worth_by) F_worth_by fun _ _ _ _ _ _ us hl => match us, hl with | [_, _, _, _], _ => rfl)
  have h_law_gfresh : Def G 2 "_law_gfresh" 1 sp_law_gfresh := Def.of (st := s_law_gfresh) (m := 5) F_law_gfresh g_law_gfresh sc_law_gfresh (d_law_gfresh B h_law_gprime) m_law_gfresh rfl rfl (fun ds Q X h => by repeat (first | (refine Or.elim h (fun h => ?_) (fun h => ?_)) | (obtain ⟨rfl, _⟩ := h; rfl) | (obtain ⟨rfl | rfl, _⟩ := h <;> rfl) | (obtain ⟨⟨_, _, rfl, _⟩, _⟩ := h; rfl) | (obtain ⟨_, h⟩ := h))) (FunD.bindsN (ps := P_law_gfresh) F_law_gfresh fun _ _ _ _ _ _ us hl => match us, hl with | [_], _ => rfl)
  have h_need_names : Def G 3 "need_names" 2 sp_need_names := Def.of (st := s_need_names) (m := 0) F_need_names g_need_names sc_need_names (d_need_names B h_are_names x_NoName) m_need_names rfl rfl (fun ds Q X h => by repeat (first | (refine Or.elim h (fun h => ?_) (fun h => ?_)) | (obtain ⟨rfl, _⟩ := h; rfl) | (obtain ⟨rfl | rfl, _⟩ := h <;> rfl) | (obtain ⟨⟨_, _, rfl, _⟩, _⟩ := h; rfl) | (obtain ⟨_, h⟩ := h))) (FunD.bindsN (ps := P_need_names) F_need_names fun _ _ _ _ _ _ us hl => match us, hl with | [_, _], _ => rfl)
  have h_joined_at : Def G 3 "joined_at" 3 sp_joined_at := Def.of (st := s_joined_at) (m := 2) F_joined_at g_joined_at sc_joined_at (d_joined_at B h_join h_unit h_worth_at) m_joined_at rfl rfl (fun ds Q X h => by repeat (first | (refine Or.elim h (fun h => ?_) (fun h => ?_)) | (obtain ⟨rfl, _⟩ := h; rfl) | (obtain ⟨rfl | rfl, _⟩ := h <;> rfl) | (obtain ⟨⟨_, _, rfl, _⟩, _⟩ := h; rfl) | (obtain ⟨_, h⟩ := h))) (FunD.bindsN (ps := P_joined_at) F_joined_at fun _ _ _ _ _ _ us hl => match us, hl with | [_, _, _], _ => rfl)
  have h_joined : Def G 3 "joined" 4 sp_joined := Def.of (st := s_joined) (m := 3) F_joined g_joined sc_joined (d_joined B h_fillings_of h_join h_worth_by) m_joined rfl rfl (fun ds Q X h => by repeat (first | (refine Or.elim h (fun h => ?_) (fun h => ?_)) | (obtain ⟨rfl, _⟩ := h; rfl) | (obtain ⟨rfl | rfl, _⟩ := h <;> rfl) | (obtain ⟨⟨_, _, rfl, _⟩, _⟩ := h; rfl) | (obtain ⟨_, h⟩ := h))) (FunD.bindsN (ps := P_joined) F_joined fun _ _ _ _ _ _ us hl => match us, hl with | [_, _, _, _], _ => rfl)
  have h_law_gdraw : Def G 3 "_law_gdraw" 2 sp_law_gdraw := Def.of (st := s_law_gdraw) (m := 1) F_law_gdraw g_law_gdraw sc_law_gdraw (d_law_gdraw B h_law_gfresh) m_law_gdraw rfl rfl (fun ds Q X h => by repeat (first | (refine Or.elim h (fun h => ?_) (fun h => ?_)) | (obtain ⟨rfl, _⟩ := h; rfl) | (obtain ⟨rfl | rfl, _⟩ := h <;> rfl) | (obtain ⟨⟨_, _, rfl, _⟩, _⟩ := h; rfl) | (obtain ⟨_, h⟩ := h))) (FunD.bindsN (ps := P_law_gdraw) F_law_gdraw fun _ _ _ _ _ _ us hl => match us, hl with | [_, _], _ => rfl)
  have h_worth_of : Def G 4 "worth_of" 3 sp_worth_of := Def.of (st := s_worth_of) (m := 0) F_worth_of g_worth_of sc_worth_of (d_worth_of B h_is_filling h_joined_at x_NoFilling) m_worth_of rfl rfl (fun ds Q X h => by repeat (first | (refine Or.elim h (fun h => ?_) (fun h => ?_)) | (obtain ⟨rfl, _⟩ := h; rfl) | (obtain ⟨rfl | rfl, _⟩ := h <;> rfl) | (obtain ⟨⟨_, _, rfl, _⟩, _⟩ := h; rfl) | (obtain ⟨_, h⟩ := h))) (FunD.bindsN (ps := P_worth_of) F_worth_of fun _ _ _ _ _ _ us hl => match us, hl with | [_, _, _], _ => rfl)
  have h_weights_of : Def G 4 "weights_of" 1 sp_weights_of := Def.of (st := s_weights_of) (m := 3) F_weights_of g_weights_of sc_weights_of (d_weights_of B h_all_fillings h_joined_at x_NoWeights) m_weights_of rfl rfl (fun ds Q X h => by repeat (first | (refine Or.elim h (fun h => ?_) (fun h => ?_)) | (obtain ⟨rfl, _⟩ := h; rfl) | (obtain ⟨rfl | rfl, _⟩ := h <;> rfl) | (obtain ⟨⟨_, _, rfl, _⟩, _⟩ := h; rfl) | (obtain ⟨_, h⟩ := h))) (FunD.bindsN (ps := P_weights_of) F_weights_of fun _ _ _ _ _ _ us hl => match us, hl with | [_], _ => rfl)
  have h_whole : Def G 4 "whole" 2 sp_whole := Def.of (st := s_whole) (m := 1) F_whole g_whole sc_whole (d_whole B h_all_fillings h_gather h_joined_at) m_whole rfl rfl (fun ds Q X h => by repeat (first | (refine Or.elim h (fun h => ?_) (fun h => ?_)) | (obtain ⟨rfl, _⟩ := h; rfl) | (obtain ⟨rfl | rfl, _⟩ := h <;> rfl) | (obtain ⟨⟨_, _, rfl, _⟩, _⟩ := h; rfl) | (obtain ⟨_, h⟩ := h))) (FunD.bindsN (ps := P_whole) F_whole fun _ _ _ _ _ _ us hl => match us, hl with | [_, _], _ => rfl)
  have h_rest : Def G 4 "rest" 3 sp_rest := Def.of (st := s_rest) (m := 7) F_rest g_rest sc_rest (d_rest B h_all_fillings h_fillings_of h_gather h_joined_at h_need_names h_place_of) m_rest rfl rfl (fun ds Q X h => by repeat (first | (refine Or.elim h (fun h => ?_) (fun h => ?_)) | (obtain ⟨rfl, _⟩ := h; rfl) | (obtain ⟨rfl | rfl, _⟩ := h <;> rfl) | (obtain ⟨⟨_, _, rfl, _⟩, _⟩ := h; rfl) | (obtain ⟨_, h⟩ := h))) (FunD.bindsN (ps := P_rest) F_rest fun _ _ _ _ _ _ us hl => match us, hl with | [_, _, _], _ => rfl)
  have h_law_gworths : Def G 4 "_law_gworths" 3 sp_law_gworths := Def.of (st := s_law_gworths) (m := 2) F_law_gworths g_law_gworths sc_law_gworths (d_law_gworths B h_law_gdraw) m_law_gworths rfl rfl (fun ds Q X h => by repeat (first | (refine Or.elim h (fun h => ?_) (fun h => ?_)) | (obtain ⟨rfl, _⟩ := h; rfl) | (obtain ⟨rfl | rfl, _⟩ := h <;> rfl) | (obtain ⟨⟨_, _, rfl, _⟩, _⟩ := h; rfl) | (obtain ⟨_, h⟩ := h))) (FunD.bindsN (ps := P_law_gworths) F_law_gworths fun _ _ _ _ _ _ us hl => match us, hl with | [_, _, _], _ => rfl)
  have h_filling_at : Def G 5 "filling_at" 2 sp_filling_at := Def.of (st := s_filling_at) (m := 4) F_filling_at g_filling_at sc_filling_at (d_filling_at B h_is_whole h_weights_of x_NoNumber) m_filling_at rfl rfl (fun ds Q X h => by repeat (first | (refine Or.elim h (fun h => ?_) (fun h => ?_)) | (obtain ⟨rfl, _⟩ := h; rfl) | (obtain ⟨rfl | rfl, _⟩ := h <;> rfl) | (obtain ⟨⟨_, _, rfl, _⟩, _⟩ := h; rfl) | (obtain ⟨_, h⟩ := h))) (FunD.bindsN (ps := P_filling_at) F_filling_at fun _ _ _ _ _ _ us hl => match us, hl with | [_, _], _ => rfl)
  have h_number_of : Def G 5 "number_of" 2 sp_number_of := Def.of (st := s_number_of) (m := 2) F_number_of g_number_of sc_number_of (d_number_of B h_is_filling h_weights_of x_NoFilling) m_number_of rfl rfl (fun ds Q X h => by repeat (first | (refine Or.elim h (fun h => ?_) (fun h => ?_)) | (obtain ⟨rfl, _⟩ := h; rfl) | (obtain ⟨rfl | rfl, _⟩ := h <;> rfl) | (obtain ⟨⟨_, _, rfl, _⟩, _⟩ := h; rfl) | (obtain ⟨_, h⟩ := h))) (FunD.bindsN (ps := P_number_of) F_number_of fun _ _ _ _ _ _ us hl => match us, hl with | [_, _], _ => rfl)
  have h_share_of : Def G 5 "share_of" 3 sp_share_of := Def.of (st := s_share_of) (m := 6) F_share_of g_share_of sc_share_of (d_share_of B h_common h_is_whole h_weights_of x_NoFilling x_NoName x_NoWeights) m_share_of rfl rfl (fun ds Q X h => by repeat (first | (refine Or.elim h (fun h => ?_) (fun h => ?_)) | (obtain ⟨rfl, _⟩ := h; rfl) | (obtain ⟨rfl | rfl, _⟩ := h <;> rfl) | (obtain ⟨⟨_, _, rfl, _⟩, _⟩ := h; rfl) | (obtain ⟨_, h⟩ := h))) (FunD.bindsN (ps := P_share_of) F_share_of fun _ _ _ _ _ _ us hl => match us, hl with | [_, _, _], _ => rfl)
  have h_law_gparts : Def G 5 "_law_gparts" 4 sp_law_gparts := Def.of (st := s_law_gparts) (m := 4) F_law_gparts g_law_gparts sc_law_gparts (d_law_gparts B h_law_gdraw h_law_gfillings h_law_gworths) m_law_gparts rfl rfl (fun ds Q X h => by repeat (first | (refine Or.elim h (fun h => ?_) (fun h => ?_)) | (obtain ⟨rfl, _⟩ := h; rfl) | (obtain ⟨rfl | rfl, _⟩ := h <;> rfl) | (obtain ⟨⟨_, _, rfl, _⟩, _⟩ := h; rfl) | (obtain ⟨_, h⟩ := h))) (FunD.bindsN (ps := P_law_gparts) F_law_gparts fun _ _ _ _ _ _ us hl => match us, hl with | [_, _, _, _], _ => rfl)
  have h_law_gsheet : Def G 6 "_law_gsheet" 5 sp_law_gsheet := Def.of (st := s_law_gsheet) (m := 4) F_law_gsheet g_law_gsheet sc_law_gsheet (d_law_gsheet B h_law_gdraw h_law_gparts) m_law_gsheet rfl rfl (fun ds Q X h => by repeat (first | (refine Or.elim h (fun h => ?_) (fun h => ?_)) | (obtain ⟨rfl, _⟩ := h; rfl) | (obtain ⟨rfl | rfl, _⟩ := h <;> rfl) | (obtain ⟨⟨_, _, rfl, _⟩, _⟩ := h; rfl) | (obtain ⟨_, h⟩ := h))) (FunD.bindsN (ps := P_law_gsheet) F_law_gsheet fun _ _ _ _ _ _ us hl => match us, hl with | [_, _, _, _, _], _ => rfl)
  have h_law_gheavy : Def G 7 "_law_gheavy" 3 sp_law_gheavy := Def.of (st := s_law_gheavy) (m := 9) F_law_gheavy g_law_gheavy sc_law_gheavy (d_law_gheavy B h_law_gdraw h_law_gfillings h_law_gparts h_law_gsheet b_abs_) m_law_gheavy rfl rfl (fun ds Q X h => by repeat (first | (refine Or.elim h (fun h => ?_) (fun h => ?_)) | (obtain ⟨rfl, _⟩ := h; rfl) | (obtain ⟨rfl | rfl, _⟩ := h <;> rfl) | (obtain ⟨⟨_, _, rfl, _⟩, _⟩ := h; rfl) | (obtain ⟨_, h⟩ := h))) (FunD.bindsN (ps := P_law_gheavy) F_law_gheavy fun _ _ _ _ _ _ us hl => match us, hl with | [_, _, _], _ => rfl)
  exact Def.ok (G := G) (st := s_law) (m := 17) F_law sc_law (d_law B h_law_gdraw h_law_gfillings h_law_gheavy h_law_glow h_filling_at h_joined h_number_of h_rest h_share_of h_whole h_worth_of) m_law rfl
end LS.K86.E
open PySem PySem.W PySem.Calls PyProof.Rows
theorem PySem.Challenge.cw_sumorder_k86_whole_numbers_holds : PySem.Challenge.rw_sumorder_k86_whole_numbers.Holds := by
  w_on; o_law
  refine HandSHeadRun.head_any (r := (OpenLaw.row PySem.Challenge.rw_sumorder_k86_whole_numbers)) (q := view (OpenLaw.row PySem.Challenge.rw_sumorder_k86_whole_numbers).prog [50]) (H := LS.K86.E.hk) (ob := LS.K86.E.ob) (M := 8000) (loose := LS.K86.E.nm) (d := HandSHeadRun.topDef (OpenLaw.row PySem.Challenge.rw_sumorder_k86_whole_numbers).prog 50) (kwd := []) LS.K86.E.obE
    (by kernel_rfl) (fun s => by kernel_rfl) LS.K86.E.topRun (by kernel_rfl) (by kernel_rfl) (by kernel_rfl) (by rfl) (by first | assumption | decide +kernel) (by decide +kernel) ⟨rfl, rfl, rfl, rfl, rfl, by decide +kernel⟩ ?hw ?hc
  case hw => w_witness2
  case hc =>
    refine HD.walkW (l := PySem.Challenge.rw_sumorder_k86_whole_numbers) (n := 63) (k := 8) (x := "script") (CX := fun w => L2.CX PySem.Challenge.pw_sumorder_k86_whole_numbers w) rfl (by decide) (by kernel_rfl) ⟨rfl, by decide, by decide⟩ ?F (fun w H s e s' z => HD.cx_no H s e s' z)
    intro w mg f h Y N hm
    obtain ⟨K, X, c, cx⟩ := Y
    have hf : mg ("law" : PySem.Str) = some (.ref f) := by
      have e : (HandSHeadRun.topDef (OpenLaw.row PySem.Challenge.rw_sumorder_k86_whole_numbers).prog 50).name = ("law" : PySem.Str) := by kernel_rfl
      rw [← e]; exact hm
    obtain ⟨fd, hb, hF⟩ := LS.K86.E.facts (w := w) X N hf c cx
    exact ⟨K, fd, _, X, hb, fun H a ns hl hS => HD.law_sp hl hS, hF⟩

