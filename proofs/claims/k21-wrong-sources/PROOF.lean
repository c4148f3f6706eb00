import PyProof.Rows.All
import Wide.All
import OpenK.AllK
import Wide.FinOn
import PySem.Challenge.RW_readagain_k21_wrong_sources
import HandS.TupAny
import HandS.Conv
import HandS.TupMul
import HandS.Dict
import HandS.List
import HandS.Call
import HandS.Iter
import HandS.Zip
import KE.GoesEnum
import HandS.CallSlots
import HandS.Spec
import HandS.Ends
import HandS.ExcCtx
import HandS.Words
import HandS.WordsExc
import HandS.Lambda
import HandS.Nested
import PySem.Syntax
import HandS.ForMost
import HandS.ForExc
import HandS.ExcInit
import HandS.Wide
import HandS.Walk
import HandS.Flow
import HandS.Style
import HandS.Codes
import HandS.StrMore
import KE.DataEq
import KE.DataIsa
import PyProof.Rows.StrMul
import KE.IntTextLaws
import HandS.Hot
import HandS.HotCalls
import HandS.NestedHot
import HandS.Comp
import HandS.SuiteRaise
import PyProof.ListRange
import HandS.More
import HandS.TryMany
import HandS.ExcField
import KE.KExcIs
import HandS.Replace
import PyProof.ListStr
import PyProof.SumAny
import PyProof.StrLawsChain
import PyProof.ListOps
import KE.KDictPairs
import KE.KRevSl
import HandS.CallLocal
import HandS.Star
import PyProof.NeKinds
import PyProof.ReprRoads
import PyProof.CallFns
import PyProof.StrLawsRepr
import PyProof.FitsInt
import PyProof.RulesMatch
import KE.GoesComp
import KE.GoesRaise
import KE.KAsSuite
import HandS.TryOnly
import KE.KExcSuper
import HandS.EndTab
import KE.KStateDown
import KE.RegKIsAll
import KE.RegKSuper
import HandS.ExcIs
import HandS.Head0
import HandS.Head1
import HandS.Head2
import HandS.HeadEnd
import HandS.HeadHook1
import HandS.HeadHook2
import HandS.Defaults
import PyProof.TableCode
set_option autoImplicit false
set_option Elab.async false
set_option linter.all false
set_option maxRecDepth 100000
set_option maxHeartbeats 4000000
/-! Tuples that are made here: frozen, with a plain object. -/
namespace RA
open PySem PySem.Spec PyProof.Rows L2
/-- a plain tuple's object -/
def TPl (o : Obj) : Prop := o.dict = none ∧ o.cls = .type "tuple"
def newTup (us : List Value) : Obj := { cls := .type "tuple", data := .seq us.toArray }
theorem newTup_pl (us : List Value) : TPl (newTup us) := ⟨rfl, rfl⟩
/-- a new tuple at the heap's end -/
theorem newTup_ok {prog : Program} {w : World} {H : Hp} {h : Heap} {xs : List V} {us : List Value} (hz : xs.length ≤ sizeLine) (r : Vals xs us) : ObjOk prog w H (h.push (newTup us)) h.objs.size (.frz (newTup us) (.tup xs)) :=
  ⟨Heap.get?_push_size _ rfl, hz, us, r, IsTup.new _ _⟩
section
variable {X : Cx} {es : List Expr} {t : TA} {pos : Pos}
def tTupP (t : TA) : TE := fun σ H Q => t σ H fun xs H1 => xs.length ≤ sizeLine ∧ ∀ p O, H1 p = none → TPl O → Q (.ref p) (upd H1 p (.frz O (.tup xs)))
theorem pe_tupP {x1} (h : PA X es t) : PE X (.Tuple es x1 pos) (tTupP t) := by
  refine ⟨fun pins s σ H Q I hq => ?_⟩
  refine wpAny_Tuple_spliced (thn (h.run _ pins s σ H _ I hq) fun us s1 ⟨xs, H1, I1, r, z, q⟩ => ⟨by rw [← r.length]; exact z, ?_⟩)
  have hf : H1 s1.heap.objs.size = none := I1.hok.fresh (Nat.le_refl _)
  exact ⟨.ref s1.heap.objs.size, upd H1 s1.heap.objs.size (.frz (newTup us) (.tup xs)), I1.laid (t' := s1.toks) (fun b u e => Heap.get?_push_of_some _ e) (Nat.le_refl _) (newTup_ok z r), rfl, q _ _ hf (newTup_pl us)⟩
def rCatP (K : PySem.W.Frag) : R2 := fun x y H Q => ∃ a b xs ys, x = .ref a ∧ y = .ref b ∧ SqT K H a xs ∧ SqT K H b ys ∧ xs.length + ys.length ≤ sizeLine ∧
  (xs = [] → Q (.ref b) H) ∧ (xs ≠ [] → ys = [] → Q (.ref a) H) ∧ (xs ≠ [] → ys ≠ [] → ∀ p O, H p = none → TPl O → Q (.ref p) (upd H p (.frz O (.tup (xs ++ ys)))))
theorem op_catP : OpR X (binaryOp .Add) (rCatP X.K) := by
  intro pins s σ H x y v u Q I rx ry h
  obtain ⟨a, b, xs, ys, rfl, rfl, ha, hb, hz, q0, q1, q2⟩ := h
  by_cases hx : xs = []
  · subst hx
    cases rx
    cases ry
    obtain ⟨its, r1, p1, _⟩ := I.tuple ha
    obtain ⟨its2, r2, p2, _⟩ := I.tuple hb
    cases r1
    exact cat_tup0 p1 p2 ⟨.ref b, H, I, rfl, q0 rfl⟩
  · cases rx
    cases ry
    obtain ⟨its, r1, p1, _⟩ := I.tuple ha
    obtain ⟨its2, r2, p2, _⟩ := I.tuple hb
    refine HT.cat_tup p1 p2 (fun z => hx (r1.nil_iff.mp z)) (fun z => ⟨.ref a, H, I, rfl, q1 hx (r2.nil_iff.mp z)⟩) (fun z => ?_) (by rw [← r1.length, ← r2.length]; exact hz)
    refine ⟨.ref s.heap.objs.size, _, I.laid (t' := s.toks) (o := .frz (newTup (its ++ its2)) (.tup (xs ++ ys))) (fun b ob q => Heap.get?_push_of_some _ q) (Nat.le_refl _) ?_, rfl, q2 hx (fun w => z (r2.nil_iff.mpr w)) _ _ (I.hok.fresh (Nat.le_refl _)) (newTup_pl _)⟩
    exact newTup_ok (by rw [List.length_append]; exact hz) (r1.append r2)
def rSlP' (K : PySem.W.Frag) : V → Option Int → Option Int → Hp → VK → Prop := fun x lo hi H Q => ∃ a xs, x = .ref a ∧ SqT K H a xs ∧
  (HT.sIx xs.length 0 lo = 0 ∧ HT.sIx xs.length xs.length hi = xs.length → Q (.ref a) H) ∧ (¬ (HT.sIx xs.length 0 lo = 0 ∧ HT.sIx xs.length xs.length hi = xs.length) → ∀ p O, H p = none → TPl O → Q (.ref p) (upd H p (.frz O (.tup (cutV xs lo hi)))))
theorem sl_tupP : SlR X (rSlP' X.K) := by
  intro pins s σ H x v vl vu lo hi sl Q I rx hs pl pu h
  obtain ⟨a, xs, rfl, hx, q1, q2⟩ := h
  cases rx
  obtain ⟨its, r, ht, hz⟩ := I.tuple hx
  have hlen : its.toArray.size = xs.length := by rw [List.size_toArray]; exact r.length.symm
  refine ⟨"tuple", _, PyProof.Rows.slot_tuple_getitem.lookup, ht.typeIs, ?_⟩
  by_cases hw : HT.sIx xs.length 0 lo = 0 ∧ HT.sIx xs.length xs.length hi = xs.length
  · exact getItem_tuple_whole ht hs pl pu (by rw [hlen]; exact hw) ⟨.ref a, H, I, rfl, q1 hw⟩
  · refine HT.getItem_tuple_cut ht hs pl pu (by rw [hlen]; exact hw) ?_ (by rw [hlen]; exact hz)
    rw [hlen]
    refine ⟨.ref s.heap.objs.size, _, I.laid (t' := s.toks) (o := .frz (newTup ((its.drop (HT.sIx xs.length 0 lo)).take (HT.sIx xs.length xs.length hi - HT.sIx xs.length 0 lo))) (.tup (cutV xs lo hi))) (fun b ob q => Heap.get?_push_of_some _ q) (Nat.le_refl _) ?_, rfl, q2 hw _ _ (I.hok.fresh (Nat.le_refl _)) (newTup_pl _)⟩
    exact newTup_ok (Nat.le_trans (cutV_length xs lo hi) hz) ((r.drop (HT.sIx xs.length 0 lo)).take (HT.sIx xs.length xs.length hi - HT.sIx xs.length 0 lo))
theorem call_tupleP : CallR X (.type "tuple") (fun xs H Q => ∃ p ys, xs = [.ref p] ∧ ((SqL X.K H p ys ∧ ∀ l O, H l = none → TPl O → Q (.ref l) (upd H l (.frz O (.tup ys)))) ∨ (SqT X.K H p ys ∧ Q (.ref p) H))) := by
  intro pins s σ H xs us Q I r h
  obtain ⟨p, ys, rfl, h⟩ := h
  obtain ⟨u, rfl, rx⟩ := vals1 r
  cases rx
  rcases h with ⟨hq, q⟩ | ⟨hq, q⟩
  · obtain ⟨its, r', pl, hz⟩ := I.list hq
    have hlen := r'.length
    refine call_tuple_list pl.isList (fun h' kp => ?_) (by simp only [List.size_toArray] <;> omega)
    have I1 : Inv X pins σ H { s with heap := h' } := I.kept (t' := s.toks) kp
    exact ⟨.ref h'.objs.size, _, I1.laid (t' := s.toks) (o := .frz (newTup its) (.tup ys)) (fun b o e => Heap.get?_push_of_some _ e) (Nat.le_refl _) (newTup_ok hz r'), rfl, q _ _ (I1.hok.fresh (Nat.le_refl _)) (newTup_pl _)⟩
  · obtain ⟨its, r', pl, hz⟩ := I.tuple hq
    exact call_tuple_same pl ⟨.ref p, H, I, rfl, q⟩
def rRepP (K : PySem.W.Frag) : R2 := fun x y H Q => ∃ l k xs, x = .ref l ∧ y = .int k ∧ SqT K H l xs ∧ xs ≠ [] ∧ 2 ≤ k ∧ k ≤ 1000 ∧ xs.length ≤ 1000 ∧ ∀ p O, H p = none → TPl O → Q (.ref p) (upd H p (.frz O (.tup (List.replicate k.toNat xs).flatten)))
theorem op_repP : OpR X (binaryOp .Mult) (rRepP X.K) := by
  intro pins s σ H x y v u Q I rx ry h
  obtain ⟨l, k, xs, rfl, rfl, hT, hne, h1, h2, hz, q⟩ := h
  cases rx
  obtain ⟨t, rfl⟩ := ry
  obtain ⟨its, r, ⟨⟨cls, dd, data, sl⟩, ho, hc, n, hd⟩, hs⟩ := I.tuple hT
  simp only at hc hd
  subst hc hd
  have hle : its.length = xs.length := r.length.symm
  have hn : its ≠ [] := fun e => hne (by
    rw [e] at hle
    exact List.eq_nil_of_length_eq_zero hle.symm)
  have hi : its.toArray.isEmpty = false := by
    cases its with
    | nil => exact absurd rfl hn
    | cons a b => rfl
  have hsz0 : its.toArray.size = xs.length := by rw [List.size_toArray, hle]
  have hm : ((its.toArray.size : Nat) : Int) * k ≤ 1000000 := by
    rw [hsz0]
    have a1 : ((xs.length : Nat) : Int) * k ≤ 1000 * k := Int.mul_le_mul_of_nonneg_right (by omega) (by omega)
    omega
  have flen : (List.replicate k.toNat its).flatten.length ≤ sizeLine := by
    rw [PyProof.Rows.lm_len_rep_flat, hle, sizeLine_eq]
    have a1 : k.toNat * xs.length ≤ 1000 * 1000 := Nat.mul_le_mul (by omega) hz
    omega
  have c0 : (decide (k < -(2 ^ 63)) || decide (k ≥ 2 ^ 63)) = false := by
    rw [decide_eq_false (by omega), decide_eq_false (by omega)] <;> rfl
  have c1 : (its.toArray.isEmpty || k == 1) = false := by
    rw [hi, Bool.false_or]
    exact beq_eq_false_iff_ne.mpr (by omega)
  have c2 : (decide (k ≤ 0) || its.toArray.isEmpty) = false := by
    rw [hi, Bool.or_false]
    exact decide_eq_false (by omega)
  have c4 : Builtin.Tuple.tupleTooMany (((its.toArray.size : Nat) : Int) * k) = false := by
    unfold Builtin.Tuple.tupleTooMany
    rw [sizeLine_eq]
    exact decide_eq_false (by omega)
  refine wpAny_binaryOp_repeat_ref (T := "tuple") (U := "int") (by decide) ⟨_, ho, rfl⟩ (fun s' => typeIs_int s' k t) noFill_tuple_mul F.fills_int_mul F.slot_int_rmul repeat_tuple F.slot_int_index.lookup
    (call_meets F.slot_int_rmul (typeIs_int s k t) F.entry_int_rmul (F.args_int_rmul_2 _ _) (int_rmul_tuple k t l its.toArray n dd sl)
      ⟨ho, rfl, ⟨_, ho, rfl⟩, call_meets F.slot_tuple_mul ⟨_, ho, rfl⟩ F.entry_tuple_mul (F.args_tuple_mul_2 _ _) (tuple_mulW l its.toArray n dd sl k t c0 c1 c2 (by omega) c4 (by rw [size_rep, List.size_toArray]; exact flen)) ⟨ho, ?_⟩⟩)
  rw [size_rep]
  refine ⟨.ref s.heap.objs.size, _, I.laid (t' := s.toks) (o := .frz (newTup (List.replicate k.toNat its).flatten) (.tup (List.replicate k.toNat xs).flatten)) (fun b ob q => Heap.get?_push_of_some _ q) (Nat.le_refl _) ?_, rfl, q _ _ (I.hok.fresh (Nat.le_refl _)) (newTup_pl _)⟩
  exact newTup_ok (by rw [PyProof.Rows.lm_len_rep_flat, sizeLine_eq]; have a1 : k.toNat * xs.length ≤ 1000 * 1000 := Nat.mul_le_mul (by omega) hz; omega) (r.rep k.toNat)
end
end RA

set_option maxHeartbeats 1000000
/-! Dicts of one's own whose keys are tuples (of ints and texts) that are known to be such by any road. -/
namespace RA
open PySem PySem.Spec PyProof.Rows L2
abbrev Ent := List L2.Key × Addr × Value
/-- the dict at a has just these entries -/
def dctO (P : Program) (w : World) (a : Addr) (xs : List Ent) : HO := .ext fun h => ∃ o es ep, h.get? a = some o ∧ o.ExactDict ∧ o.data = .dict es ep ∧ es.toList = xs.map (entryOfKey (tupleKind (mixKind P w)))
theorem dctO_ok {P : Program} {w : World} {H : Hp} {h : Heap} {a : Addr} {xs : List Ent} {o : Obj} {es : Array DictEntry} {ep : Nat} (e : h.get? a = some o) (h1 : o.ExactDict) (h2 : o.data = .dict es ep) (h3 : es.toList = xs.map (entryOfKey (tupleKind (mixKind P w)))) : ObjOk P w H h a (dctO P w a xs) :=
  ⟨⟨o, es, ep, e, h1, h2, h3⟩, ⟨o, e⟩, fun _ _ ⟨o, es, ep, e, h1, h2, h3⟩ st => ⟨o, es, ep, st _ e, h1, h2, h3⟩⟩
section
variable {X : Cx} {pins : List (Addr × Obj)} {σ : L2.St} {H : Hp} {s : Shared}
/-- a tuple of ints and texts is a key -/
theorem key_sq (I : Inv X pins σ H s) {k : List L2.Key} {b : Addr} (h : SqT X.K H b (k.map kV)) : (tupleKind (mixKind X.prog X.w)).is s.heap k b := by
  obtain ⟨its, r, ⟨o, h1, h2, n, h3⟩, _⟩ := I.tuple h
  exact ⟨o, its.toArray, n, h1, h2, h3, by simpa using items_are r⟩
/-- what is known of such a dict -/
structure DctIs (X : Cx) (H : Hp) (a : Addr) (xs : List Ent) : Prop where
  at_ : H a = some (dctO X.prog X.w a xs)
  ks : ∀ x ∈ xs, SqT X.K H x.2.1 (x.1.map kV)
  nd : (xs.map (·.1)).Nodup
  sys : (a == sysModules) = false
theorem dct_heap {a : Addr} {xs : List Ent} (D : DctIs X H a xs) (I : Inv X pins σ H s) : s.heap.DictOfH (tupleKind (mixKind X.prog X.w)) a xs := by
  obtain ⟨⟨o, es, ep, e, h1, h2, h3⟩, _, _⟩ := (show ObjOk X.prog X.w H s.heap a (dctO X.prog X.w a xs) from I.hok a _ D.at_)
  exact ⟨o, es, ep, e, h1, h2, h3, fun x hx => key_sq I (D.ks x hx), D.nd⟩
end
section
variable {X : Cx}
/-- k in d -/
def rInDct (X : Cx) (neg : Bool) : R2 := fun x y H Q => ∃ b a k xs, x = .ref b ∧ y = .ref a ∧ SqT X.K H b (k.map kV) ∧ DctIs X H a xs ∧ Q (.bl ((atKey xs k).isSome != neg)) H
theorem op_inDct (hu : X.A.units + 2 < cLine) : OpR X (compareOp .In) (rInDct X false) := by
  intro pins s σ H x y v u Q I rx ry h
  obtain ⟨b, a, k, xs, rfl, rfl, hb, D, q⟩ := h
  obtain rfl : v = Value.ref b := rx
  obtain rfl : u = Value.ref a := ry
  rw [Bool.bne_false] at q
  exact wpAny_in_heap (tupleKind_room_in1 (by omega)) (key_sq I hb) D.sys (dct_heap D I) ⟨.bl _, H, I.tok _, rfl, q⟩
theorem op_ninDct (hu : X.A.units + 2 < cLine) : OpR X (compareOp .NotIn) (rInDct X true) := by
  intro pins s σ H x y v u Q I rx ry h
  obtain ⟨b, a, k, xs, rfl, rfl, hb, D, q⟩ := h
  obtain rfl : v = Value.ref b := rx
  obtain rfl : u = Value.ref a := ry
  rw [Bool.bne_true] at q
  exact wpAny_notIn_heap (tupleKind_room_in1 (by omega)) (key_sq I hb) D.sys (dct_heap D I) ⟨.bl _, H, I.tok _, rfl, q⟩
/-- d[k] = True -/
def rSetDct (X : Cx) : V → V → V → Hp → (Hp → Prop) → Prop := fun o i v H Q => ∃ a b k xs, o = .ref a ∧ i = .ref b ∧ v = .bl true ∧ SqT X.K H b (k.map kV) ∧ DctIs X H a xs ∧ xs.length < sizeLine ∧ Q (upd H a (dctO X.prog X.w a (storedH xs k b (.bool true))))
theorem set_dct (hu : X.A.units + 2 < cLine) : PSet X (rSetDct X) := by
  intro pins s σ H o i v ov iv u Q I ro ri rv h
  obtain ⟨a, b, k, xs, rfl, rfl, rfl, hb, D, hl, q⟩ := h
  obtain rfl : ov = Value.ref a := ro
  obtain rfl : iv = Value.ref b := ri
  obtain rfl : u = Value.bool true := rv
  refine wpAny_setItem_heap (hsz := Nat.le_of_lt hl) (tupleKind_room_in1 (by omega)) (key_sq I hb) (dct_heap D I) fun h' dd' hs => ⟨_, ?_, q⟩
  obtain ⟨oo, es, ep, e, h1, h2, h3, _, _⟩ := dd'
  exact I.write (x := a) (e := a) (by rw [D.at_]; exact True.intro) (.inl rfl) (fun c r hc z => (hs.2 c hc).trans z) ⟨_, e⟩ (dctO_ok e h1 h2 h3)
/-- {} -/
def tDctNew (X : Cx) : TE := fun _ H Q => ∀ p, H p = none → (p == sysModules) = false → Q (.ref p) (upd H p (dctO X.prog X.w p []))
theorem pe_dct {pos : Pos} : PE X (.Dict [] [] pos) (tDctNew X) := ⟨fun pins s σ H Q I h =>
  wpAny_Dict_empty ⟨.ref s.heap.objs.size, _, I.laid (a := s.heap.objs.size) (o := dctO X.prog X.w s.heap.objs.size []) (t' := s.toks) (fun _ _ q => Heap.get?_push_of_some _ q) (Nat.le_refl _) (dctO_ok (Heap.get?_push_size _ rfl) ⟨rfl, rfl, rfl⟩ (by rfl) (by rfl)), rfl,
    h _ (I.hok.fresh (Nat.le_refl _)) (beq_eq_false_iff_ne.mpr (Ne.symm (Nat.ne_of_lt I.big)))⟩⟩
end
end RA

set_option maxHeartbeats 2000000
/-! tuple * 1: the tuple itself. -/
namespace RA
open PySem PySem.Spec PyProof.Rows L2
theorem tuple_mul1 (l : Addr) (items : Array Value) (n : Nat) (dd : Option Addr) (sl : Array (Option Value)) (u : Tok) :
    Meets (Builtin.«tuple.__mul__» ⟨[.ref l, .int 1 u], []⟩) (fun _ R s => s.heap.get? l = some { cls := .type "tuple", dict := dd, data := .seq items n, slots := sl } ∧ R (.ok (.ret (Value.ref l))) s) :=
  .of_wp fun prog w A R s h => by
    obtain ⟨hp, g, d, tk, os⟩ := s
    obtain ⟨hl, h⟩ := h
    have f1 := AutoSeq1.idx_int
    wp_walk using wpAny_loadPart' hl
    repeat (first
      | (refine wpAny_ite_false (decide_eq_false (by decide)) ?_; wp_walk using wpAny_loadPart' hl)
      | (refine wpAny_ite_true (by simp) ?_; wp_walk using wpAny_loadPart' hl))
    exact ⟨_, rfl, h⟩
def rRep1 (K : PySem.W.Frag) : R2 := fun x y H Q => ∃ l xs, x = .ref l ∧ y = .int 1 ∧ SqT K H l xs ∧ Q (.ref l) H
section
variable {X : Cx}
theorem op_rep1 : OpR X (binaryOp .Mult) (rRep1 X.K) := by
  intro pins s σ H x y v u Q I rx ry h
  obtain ⟨l, xs, rfl, rfl, hT, q⟩ := h
  cases rx
  obtain ⟨t, rfl⟩ := ry
  obtain ⟨its, r, ⟨⟨cls, dd, data, sl⟩, ho, hc, n, hd⟩, hs⟩ := I.tuple hT
  simp only at hc hd
  subst hc hd
  exact wpAny_binaryOp_repeat_ref (T := "tuple") (U := "int") (by decide) ⟨_, ho, rfl⟩ (fun s' => typeIs_int s' 1 t) noFill_tuple_mul F.fills_int_mul F.slot_int_rmul repeat_tuple F.slot_int_index.lookup
    (call_meets F.slot_int_rmul (typeIs_int s 1 t) F.entry_int_rmul (F.args_int_rmul_2 _ _) (int_rmul_tuple 1 t l its.toArray n dd sl)
      ⟨ho, rfl, ⟨_, ho, rfl⟩, call_meets F.slot_tuple_mul ⟨_, ho, rfl⟩ F.entry_tuple_mul (F.args_tuple_mul_2 _ _) (tuple_mul1 l its.toArray n dd sl t) ⟨ho, ⟨.ref l, H, I, rfl, q⟩⟩⟩)
end
end RA

/-! What a loop walks: zip and enumerate over lists, tuples and texts in any mix. -/
namespace RA
open PySem PySem.Spec PyProof.Rows L2

/-- where items come from -/
inductive Src where
  | li (a : Addr)
  | tu (a : Addr)
  | tx (x : Str) (tk : Tok)
def Src.adr : Src → List Addr
  | .li a => [a]
  | .tu a => [a]
  | .tx _ _ => []
def Src.val : Src → Value
  | .li a => .ref a
  | .tu a => .ref a
  | .tx x t => .str x t
def Src.ob : Src → Obj
  | .li a => { cls := .type "list_iterator", data := .fields #[.ref a, .int 0 0] }
  | .tu a => { cls := .type "tuple_iterator", data := .fields #[.ref a, .int 0 0] }
  | .tx x t => { cls := .type (strIterType x), data := .fields #[.str x t, .int 0 0] }
def Src.has (K : PySem.W.Frag) (H : Hp) : Src → List V → Prop
  | .li a, xs => SqL K H a xs
  | .tu a, xs => SqT K H a xs
  | .tx x _, xs => xs = x.cps.toList.map fun c => V.str ⟨#[c]⟩
def Src.at (it : Addr) (i : Nat) (h : Heap) : Src → Prop
  | .li a => h.IsListIter it a i
  | .tu a => h.IsTupleIter it a i
  | .tx x tk => h.IsStrIter it (strIterType x) x tk i

theorem vals_get {xs : List V} {its : List Value} (r : Vals xs its) {j : Nat} {u : Value} (h : its[j]? = some u) : ∃ x, xs[j]? = some x ∧ RelV x u := by
  induction r generalizing j with
  | nil => simp at h
  | cons a b ih =>
    cases j with
    | zero => simp at h; subst h; exact ⟨_, rfl, a⟩
    | succ j => simpa using ih (by simpa using h)
theorem Src.at_obj {it : Addr} {i : Nat} {h : Heap} : ∀ {r : Src}, r.at it i h → ∃ o, h.get? it = some o ∧ ∀ v, o.data ≠ .cell v
  | .li _, st => by obtain ⟨o, e, c, d⟩ := st; exact ⟨o, e, fun v z => by rw [d] at z; cases z⟩
  | .tu _, st => by obtain ⟨o, e, c, d⟩ := st; exact ⟨o, e, fun v z => by rw [d] at z; cases z⟩
  | .tx _ _, st => by obtain ⟨o, e, c, d⟩ := st; exact ⟨o, e, fun v z => by rw [d] at z; cases z⟩
theorem Src.at_keep {it : Addr} {i : Nat} {h h' : Heap} (k : ∀ o, h.get? it = some o → h'.get? it = some o) : ∀ {r : Src}, r.at it i h → r.at it i h'
  | .li _, st => by obtain ⟨o, e, c⟩ := st; exact ⟨o, k o e, c⟩
  | .tu _, st => by obtain ⟨o, e, c⟩ := st; exact ⟨o, k o e, c⟩
  | .tx _ _, st => by obtain ⟨o, e, c⟩ := st; exact ⟨o, k o e, c⟩
theorem Src.has_inj {X : Cx} {pins : List (Addr × Obj)} {σ : L2.St} {H : Hp} {s : Shared} (I : Inv X pins σ H s) : ∀ {r : Src} {xs ys : List V}, r.has X.K H xs → r.has X.K H ys → xs = ys
  | .li _, _, _, h, k => I.list_inj h k
  | .tu _, _, _, h, k => I.tuple_inj h k
  | .tx _ _, _, _, h, k => h.trans k.symm
theorem Src.draws {X : Cx} {pins : List (Addr × Obj)} {σ : L2.St} {H : Hp} {s : Shared} {A : Around} {it : Addr} {i : Nat} {xs : List V} (I : Inv X pins σ H s) (hh : A.handled = none) : ∀ {r : Src}, (∀ a ∈ r.adr, a ≠ it) → r.has X.K H xs → r.at it i s.heap →
    ∃ (P : Nat → Value → Prop) (S : Nat → Heap → Prop), Draws X.prog X.w A it (it :: r.adr) xs.length P S ∧ S i s.heap ∧ (∀ j u, P j u → ∃ x, xs[j]? = some x ∧ RelV x u) ∧ ∀ j h, S j h → r.at it j h
  | .li a, hn, hq, st => by
    obtain ⟨its, rv, p, hz⟩ := I.list hq
    have e : xs.length = its.toArray.size := by rw [rv.length]; simp
    have D := Draws.list (prog := X.prog) (w := X.w) hh it a (hn a (by simp [Src.adr])) its.toArray
    rw [← e] at D
    refine ⟨_, _, D, ⟨st, p.isList⟩, fun j u hu => ?_, fun j h z => z.1⟩
    have hu' : its[j]? = some u := by simpa using hu
    exact vals_get rv hu'
  | .tu a, hn, hq, st => by
    obtain ⟨its, rv, p, hz⟩ := I.tuple hq
    have e : xs.length = its.toArray.size := by rw [rv.length]; simp
    have D := Draws.tuple (prog := X.prog) (w := X.w) hh it a (hn a (by simp [Src.adr])) its.toArray
    rw [← e] at D
    refine ⟨_, _, D, ⟨st, p⟩, fun j u hu => ?_, fun j h z => z.1⟩
    have hu' : its[j]? = some u := by simpa using hu
    exact vals_get rv hu'
  | .tx x t, hn, hq, st => by
    have hq : xs = x.cps.toList.map fun c => V.str ⟨#[c]⟩ := hq
    have e : xs.length = x.cps.size := by rw [hq]; simp
    have D := Draws.text (prog := X.prog) (w := X.w) hh it x t
    rw [← e] at D
    refine ⟨_, _, D, st, fun j u hu => ?_, fun j h z => z⟩
    obtain ⟨c, k, hc, rfl⟩ := hu
    refine ⟨.str ⟨#[c]⟩, by rw [hq]; simp [hc], k, rfl⟩
theorem Src.begins {X : Cx} {pins : List (Addr × Obj)} {σ : L2.St} {H : Hp} {s : Shared} {xs : List V} (I : Inv X pins σ H s) : ∀ {r : Src}, r.has X.K H xs → ∃ P : Heap → Prop, Begins r.val r.ob P ∧ P s.heap ∧ ∀ b ∈ r.adr, b < s.heap.objs.size
  | .li a, hq => by
    obtain ⟨its, rv, p, hz⟩ := I.list hq
    exact ⟨_, begins_list a its.toArray, p.isList, fun b hb => by rw [List.mem_singleton.mp hb]; exact p.lt⟩
  | .tu a, hq => by
    obtain ⟨its, rv, p, hz⟩ := I.tuple hq
    obtain ⟨o1, ho1, _⟩ := id p
    exact ⟨_, begins_tuple a its.toArray, p, fun b hb => by rw [List.mem_singleton.mp hb]; exact Heap.lt_size ho1⟩
  | .tx x t, _ => ⟨_, begins_text x t, trivial, fun b hb => by cases hb⟩
theorem Src.at_zero {it : Addr} {h : Heap} : ∀ {r : Src}, h.get? it = some r.ob → r.at it 0 h
  | .li _, e => ⟨_, e, rfl, rfl⟩
  | .tu _, e => ⟨_, e, rfl, rfl⟩
  | .tx _ _, e => ⟨_, e, rfl, rfl⟩

/-! ### zip -/
def ItZ (K : PySem.W.Frag) (r1 r2 : Src) : It :=
  ⟨fun i H => ∃ (xs ys : List V) (x y : V), r1.has K H xs ∧ r2.has K H ys ∧ xs[i]? = some x ∧ ys[i]? = some y,
    fun i H v H' => ∃ T O x y, v = .ref T ∧ H T = none ∧ TPl O ∧ H' = upd H T (.frz O (.tup [x, y])) ∧ (∀ xs, r1.has K H xs → xs[i]? = some x) ∧ ∀ ys, r2.has K H ys → ys[i]? = some y,
    fun i H => ∃ xs ys : List V, r1.has K H xs ∧ r2.has K H ys ∧ i ≤ xs.length ∧ i ≤ ys.length ∧ (i = xs.length ∨ i = ys.length)⟩
theorem turn_zipZ {P : Program} {w : World} {K : PySem.W.Frag} {elts : List Expr} {kk : Nat} {tpos : Pos} {r1 r2 : Src} {z TI TO i1 i2 : Addr} (D : ZipSep2 z TI TO i1 i2 (i1 :: r1.adr) (i2 :: r2.adr)) (hn1 : ∀ a ∈ r1.adr, a ≠ i1) (hn2 : ∀ a ∈ r2.adr, a ≠ i2) :
    Turn P w K (.Tuple elts kk tpos) (ItZ K r1 r2) [z, TI, TO, i1, i2] z (fun i h => IsZip h z TI TO .none ∧ IsTupOf2 h TI (.ref i1) (.ref i2) ∧ (∃ x y, IsTupOf2 h TO x y) ∧ r1.at i1 i h ∧ r2.at i2 i h) where
  mem := by simp
  obj := fun i h st c hc => by
    obtain ⟨hz, hTI, ⟨x, y, hTO⟩, h1, h2⟩ := st
    have e' : c = z ∨ c = TI ∨ c = TO ∨ c = i1 ∨ c = i2 := by simpa using hc
    rcases e' with q | q | q | q | q
    · rw [q]; exact ⟨_, hz, fun v q => nomatch q⟩
    · rw [q]; exact ⟨_, hTI, fun v q => nomatch q⟩
    · rw [q]; exact ⟨_, hTO, fun v q => nomatch q⟩
    · rw [q]; exact (Src.at_obj h1)
    · rw [q]; exact (Src.at_obj h2)
  keep := fun i h h' st k => by
    obtain ⟨hz, hTI, ⟨x, y, hTO⟩, h1, h2⟩ := st
    exact ⟨k z (by simp) _ hz, k TI (by simp) _ hTI, ⟨x, y, k TO (by simp) _ hTO⟩, Src.at_keep (fun o q => k i1 (by simp) o q) h1, Src.at_keep (fun o q => k i2 (by simp) o q) h2⟩
  item := by
    intro X hP hw hK hc i pins s σ H E I hf st hg
    subst hP hw hK
    obtain ⟨hz, hTI, ⟨x0, y0, hTO⟩, h1, h2⟩ := st
    obtain ⟨xs, ys, x, y, hqx, hqy, hx, hy⟩ := hg
    have hh : X.A.in1.handled = none := I.ok.hd hc
    obtain ⟨P1, S1, D1, st1, p1, n1⟩ := Src.draws I hh hn1 hqx h1
    obtain ⟨P2, S2, D2, st2, p2, n2⟩ := Src.draws I hh hn2 hqy h2
    have hzl : z < s.heap.objs.size := Heap.lt_size hz
    refine wpAny_pyNext_zipD2_item D D1 D2 hz hTI hTO st1 st2 (List.getElem?_eq_some_iff.mp hx).1 (List.getElem?_eq_some_iff.mp hy).1 fun u u2 h' tk hu hu2 z' TO' h1' h2' hT hsz hk => ?_
    obtain ⟨x', hx', ru⟩ := p1 _ _ hu
    obtain ⟨y', hy', ru2⟩ := p2 _ _ hu2
    rw [hx] at hx'; cases hx'
    rw [hy] at hy'; cases hy'
    refine ⟨_, rfl, wpAny_letOwnedTupleGo_zip (s := { s with heap := h', toks := tk }) z' fun h'' z'' sb => ?_⟩
    have hT2 : h''.get? s.heap.objs.size = some { cls := .type "tuple", data := .seq #[u, u2] } := (sb.2 _ (Nat.ne_of_gt hzl)).trans hT
    have new : ObjOk X.prog X.w (upd H s.heap.objs.size (.frz { cls := .type "tuple", data := .seq #[u, u2] } (.tup [x, y]))) h'' s.heap.objs.size (.frz { cls := .type "tuple", data := .seq #[u, u2] } (.tup [x, y])) :=
      ⟨hT2, by show 2 ≤ sizeLine; decide, [u, u2], .cons ru (.cons ru2 .nil), ⟨_, hT2, rfl, _, rfl⟩⟩
    have I1 : Inv X pins σ (upd H s.heap.objs.size (.frz { cls := .type "tuple", data := .seq #[u, u2] } (.tup [x, y]))) { s with heap := h'', toks := tk } :=
      I.turnedNew (t' := tk) (ch := [z, TI, TO, i1, i2]) (fun c o hb q => (sb.2 c (fun q' => hb (by simp [q']))).trans (hk c o (fun q' => hb (by simp [q'])) (fun q' => hb (by simp [q'])) (fun q' => hb (by simp [q'])) (fun q' => hb (by simp [q'])) q)) hf (Nat.le_refl _) new
    refine ⟨.ref s.heap.objs.size, _, I1, rfl, ⟨_, _, x, y, rfl, I.hok.fresh (Nat.le_refl _), ⟨rfl, rfl⟩, rfl, fun l hl => by rw [Src.has_inj I hl hqx]; exact hx, fun l hl => by rw [Src.has_inj I hl hqy]; exact hy⟩, ⟨z'', ?_, ⟨u, u2, ?_⟩, ?_, ?_⟩, fun c hcm => ?_⟩
    · exact (sb.2 _ D.TIz).trans (hk _ _ D.TIz D.TITO D.TIi1 D.TIi2 hTI)
    · exact (sb.2 _ D.TOz).trans TO'
    · exact Src.at_keep (fun o q => (sb.2 _ (fun e => D.zi1 e.symm)).trans q) (n1 _ _ h1')
    · exact Src.at_keep (fun o q => (sb.2 _ (fun e => D.zi2 e.symm)).trans q) (n2 _ _ h2')
    · have hlt : c < s.heap.objs.size := by
        have e' : c = z ∨ c = TI ∨ c = TO ∨ c = i1 ∨ c = i2 := by simpa using hcm
        rcases e' with q | q | q | q | q
        · rw [q]; exact hzl
        · rw [q]; exact Heap.lt_size hTI
        · rw [q]; exact Heap.lt_size hTO
        · rw [q]; obtain ⟨_, e1, _⟩ := (Src.at_obj h1); exact Heap.lt_size e1
        · rw [q]; obtain ⟨_, e2, _⟩ := (Src.at_obj h2); exact Heap.lt_size e2
      rw [upd_ne (Nat.ne_of_lt hlt)]
      exact (hf c hcm).1
  done := by
    intro X hP hw hK hc i pins s σ H E I hf st hg
    subst hP hw hK
    obtain ⟨hz, hTI, ⟨x0, y0, hTO⟩, h1, h2⟩ := st
    obtain ⟨xs, ys, hqx, hqy, l1, l2, hend⟩ := hg
    have hh : X.A.in1.handled = none := I.ok.hd hc
    obtain ⟨P1, S1, D1, st1, p1, n1⟩ := Src.draws I hh hn1 hqx h1
    obtain ⟨P2, S2, D2, st2, p2, n2⟩ := Src.draws I hh hn2 hqy h2
    exact wpAny_pyNext_zipD2_end D D1 D2 hz hTI hTO st1 st2 l1 l2 hend fun h' tk hk => ⟨rfl, I.turnedL (t' := tk) (ch := [z, TI, TO, i1, i2]) (fun c o hb q =>
      hk c o (fun q' => hb (by simp [q'])) (fun q' => hb (by simp [q'])) (fun q' => hb (by simp [q'])) (fun q' => hb (by simp [q'])) q) hf⟩
  self := fun A i s Q E st h => wpAny_pyIter_zip st.1 h


/-! ### enumerate -/
def ItE (K : PySem.W.Frag) (r : Src) (k : Int) : It :=
  ⟨fun i H => ∃ (xs : List V) (x : V), r.has K H xs ∧ xs[i]? = some x,
    fun i H v H' => ∃ T O x, v = .ref T ∧ H T = none ∧ TPl O ∧ H' = upd H T (.frz O (.tup [.int (k + (i : Nat)), x])) ∧ ∀ xs, r.has K H xs → xs[i]? = some x,
    fun i H => ∃ xs : List V, r.has K H xs ∧ i = xs.length⟩
theorem turn_enumE {P : Program} {w : World} {K : PySem.W.Frag} {elts : List Expr} {kk : Nat} {tpos : Pos} {r : Src} {e it : Addr} {k : Int} (hne : e ≠ it) (hea : e ∉ r.adr) (hn : ∀ a ∈ r.adr, a ≠ it) :
    Turn P w K (.Tuple elts kk tpos) (ItE K r k) [e, it] e (fun i h => (∃ old, IsEnum h e it (k + (i : Nat)) old) ∧ r.at it i h) where
  mem := by simp
  obj := fun i h st c hc => by
    obtain ⟨⟨old, he⟩, hit⟩ := st
    have e' : c = e ∨ c = it := by simpa using hc
    rcases e' with q | q
    · rw [q]; exact ⟨_, he, fun v q => nomatch q⟩
    · rw [q]; exact (Src.at_obj hit)
  keep := fun i h h' st kp => by
    obtain ⟨⟨old, he⟩, hit⟩ := st
    exact ⟨⟨old, kp e (by simp) _ he⟩, Src.at_keep (fun o q => kp it (by simp) o q) hit⟩
  item := by
    intro X hP hw hK hc i pins s σ H E I hf st hg
    subst hP hw hK
    obtain ⟨⟨old, he⟩, hit⟩ := st
    obtain ⟨xs, x, hq, hx⟩ := hg
    have hh : X.A.in1.handled = none := I.ok.hd hc
    obtain ⟨P1, S1, D1, st1, p1, n1⟩ := Src.draws I hh hn hq hit
    have hel : e < s.heap.objs.size := Heap.lt_size he
    have hil : it < s.heap.objs.size := by obtain ⟨_, q, _⟩ := (Src.at_obj hit); exact Heap.lt_size q
    have hef : e ∉ it :: r.adr := fun z => (List.mem_cons.mp z).elim hne hea
    refine wpAny_pyNext_enum_itemC D1 he st1 (List.getElem?_eq_some_iff.mp hx).1 hne hef fun u h' tk hu ho hit' hT hsz hk => ?_
    obtain ⟨x', hx', ru⟩ := p1 _ _ hu
    rw [hx] at hx'; cases hx'
    refine ⟨_, rfl, wpAny_letOwnedTupleGo_enum (s := { s with heap := h', toks := tk + 1 }) ho fun h'' he' sb => ?_⟩
    have hT2 : h''.get? s.heap.objs.size = some { cls := .type "tuple", data := .seq #[.int (k + (i : Nat)) tk, u] } := (sb.2 _ (Nat.ne_of_gt hel)).trans hT
    have new : ObjOk X.prog X.w (upd H s.heap.objs.size (.frz { cls := .type "tuple", data := .seq #[.int (k + (i : Nat)) tk, u] } (.tup [.int (k + (i : Nat)), x]))) h'' s.heap.objs.size (.frz { cls := .type "tuple", data := .seq #[.int (k + (i : Nat)) tk, u] } (.tup [.int (k + (i : Nat)), x])) :=
      ⟨hT2, by show 2 ≤ sizeLine; decide, [.int (k + (i : Nat)) tk, u], .cons ⟨_, rfl⟩ (.cons ru .nil), ⟨_, hT2, rfl, _, rfl⟩⟩
    have I1 : Inv X pins σ (upd H s.heap.objs.size (.frz { cls := .type "tuple", data := .seq #[.int (k + (i : Nat)) tk, u] } (.tup [.int (k + (i : Nat)), x]))) { s with heap := h'', toks := tk + 1 } :=
      I.turnedNew (t' := tk + 1) (ch := [e, it]) (fun b ob hb q => (sb.2 b (fun z => hb (by simp [z]))).trans (hk b ob (fun z => hb (by simp [z])) (fun z => hb (by simp [z])) q)) hf (Nat.le_refl _) new
    refine ⟨.ref s.heap.objs.size, _, I1, rfl, ⟨_, _, x, rfl, I.hok.fresh (Nat.le_refl _), ⟨rfl, rfl⟩, rfl, fun ys hy => by rw [Src.has_inj I hy hq]; exact hx⟩, ⟨⟨u, ?_⟩, Src.at_keep (fun o q => (sb.2 it (Ne.symm hne)).trans q) (n1 _ _ hit')⟩, fun b hb => ?_⟩
    · have e1 : k + ((i + 1 : Nat) : Int) = k + (i : Int) + 1 := by omega
      rw [e1]; exact he'
    · have hb' : b < s.heap.objs.size := by
        have e' : b = e ∨ b = it := by simpa using hb
        rcases e' with z | z
        · rw [z]; exact hel
        · rw [z]; exact hil
      rw [upd_ne (Nat.ne_of_lt hb')]
      exact (hf b hb).1
  done := by
    intro X hP hw hK hc i pins s σ H E I hf st hg
    subst hP hw hK
    obtain ⟨⟨old, he⟩, hit⟩ := st
    obtain ⟨xs, hq, rfl⟩ := hg
    obtain ⟨f0, f1, f2, f3, f4, f5⟩ := hf it (by simp)
    have hh : X.A.in1.handled = none := I.ok.hd hc
    obtain ⟨P1, S1, D1, st1, p1, n1⟩ := Src.draws I hh hn hq hit
    exact wpAny_pyNext_enum_endD D1 he st1 fun h' eb => ⟨rfl, I.turned (t' := s.toks) (fun b o hb q => eb b o hb q) f0 f1 f3 f4 f5⟩
  self := fun A i s Q E st h => let ⟨⟨_, he⟩, _⟩ := st; wpAny_pyIter_enum he h

set_option maxHeartbeats 1000000 in
theorem meets_enumerate_new1 {v : Value} {o : Obj} {H : Heap → Prop} (B : Begins v o H) :
    Meets (Builtin.«enumerate.__new__» ⟨[.type "enumerate", v], []⟩) (fun _ R s => H s.heap ∧
      R (.ok (.ret (.ref (s.heap.push o).objs.size))) { s with heap := (s.heap.push o).push { cls := .type "enumerate", data := .fields #[.none, .bool false, .ref s.heap.objs.size, rawInt 0, .none, .none] } }) :=
  .of_wp fun prog w A R s h => by
    obtain ⟨hp, g, d, tk, os⟩ := s; obtain ⟨h1, h⟩ := h
    have hsub := sub_enumerate
    have q1 : ∀ {A' : Around} {E : Value → Shared → Prop} {Q : Value → Shared → Prop}, Q (.ref hp.objs.size) ⟨hp.push o, g, d, tk, os⟩ → wpAny (model prog w) A' (pyIter v) Q E ⟨hp, g, d, tk, os⟩ :=
      fun q => B.iter prog w _ _ ⟨hp, g, d, tk, os⟩ _ h1 q
    wp_walk using q1
    refine wpAny_stack_any fun st => wpAny_pure ?_
    split
    · rename_i c _ _ _ _ _
      cases (c == Value.type "enumerate")
      · wp_walk using q1
        exact ⟨_, rfl, h⟩
      · wp_walk using q1
        exact ⟨_, rfl, h⟩
    · wp_walk using q1
      exact ⟨_, rfl, h⟩
theorem enum_begins1 {prog : Program} {w : World} {A : Around} {E : Value → Shared → Prop} {s : Shared} {v : Value} {o : Obj} {H : Heap → Prop} {Q : Value → Shared → Prop} (B : Begins v o H) (h1 : H s.heap)
    (h : ∀ h', IsEnum h' (s.heap.objs.size + 1) s.heap.objs.size 0 .none → h'.get? s.heap.objs.size = some o → h'.objs.size = s.heap.objs.size + 2 →
      (∀ b o, s.heap.get? b = some o → h'.get? b = some o) → Q (.ref (s.heap.objs.size + 1)) { s with heap := h' }) :
    wpAny (model prog w) A (call (.type "enumerate") [v]) Q E s := by
  refine callType_new F.called_enumerate (by decide) (F.typeCall_enumerate_1 _) (F.newCall_enumerate_1 _) (fun obj => F.args_object_init_2 obj _) F.entry_enumerate_new
    (meets_enumerate_new1 B) ⟨h1, ?_⟩
  have hz : (s.heap.push o).objs.size = s.heap.objs.size + 1 := Heap.size_push ..
  show _ ∧ _
  rw [hz]
  have he : IsEnum ((s.heap.push o).push { cls := .type "enumerate", data := .fields #[.none, .bool false, .ref s.heap.objs.size, rawInt 0, .none, .none] }) (s.heap.objs.size + 1) s.heap.objs.size 0 .none := by
    have := Heap.get?_push_size (s.heap.push o) (o := { cls := .type "enumerate", data := .fields #[.none, .bool false, .ref s.heap.objs.size, rawInt 0, .none, .none] }) rfl
    rw [hz] at this; exact this
  refine ⟨⟨_, he, rfl⟩, h _ he (Heap.get?_push_of_some _ (Heap.get?_push_size _ B.free)) (by rw [Heap.size_push, hz]) fun b o x => Heap.get?_push_of_some _ (Heap.get?_push_of_some _ x)⟩

/-! ### as iterables -/
/-- a value of the kind that is walked, its items, its sources -/
inductive Walk (K : PySem.W.Frag) (H : Hp) : V → List V → (Src → Prop) → Prop where
  | l {a : Addr} {xs : List V} (h : SqL K H a xs) : Walk K H (.ref a) xs (· = .li a)
  | t {a : Addr} {xs : List V} (h : SqT K H a xs) : Walk K H (.ref a) xs (· = .tu a)
  | s {x : Str} : Walk K H (.str x) (x.cps.toList.map fun c => V.str ⟨#[c]⟩) (fun r => ∃ t, r = .tx x t)
theorem Walk.src {K : PySem.W.Frag} {H : Hp} {v : V} {u : Value} {xs : List V} {P : Src → Prop} (h : Walk K H v xs P) (r : RelV v u) : ∃ q : Src, q.val = u ∧ q.has K H xs ∧ P q := by
  cases h with
  | l h => cases r; exact ⟨.li _, rfl, h, rfl⟩
  | t h => cases r; exact ⟨.tu _, rfl, h, rfl⟩
  | s => obtain ⟨t, rfl⟩ := r; exact ⟨.tx _ t, rfl, rfl, t, rfl⟩
section
variable {X : Cx} {tg : Expr}
/-- one source -/
def ItO (K : PySem.W.Frag) (r : Src) : It :=
  ⟨fun i H => ∃ (xs : List V) (x : V), r.has K H xs ∧ xs[i]? = some x,
    fun i H v H' => H' = H ∧ ∀ xs, r.has K H xs → xs[i]? = some v,
    fun i H => ∃ xs : List V, r.has K H xs ∧ i = xs.length⟩
def iWalk (K : PySem.W.Frag) (te : TE) : TI := fun σ H R => te σ H fun v H1 => ∃ xs P, Walk K H1 v xs P ∧ ∀ r : Src, P r → R (ItO K r) H1
theorem turn_weak {P : Program} {w : World} {K : PySem.W.Frag} {J J' : It} {fp : List Addr} {it : Addr} {tn : Nat → Heap → Prop} (T : Turn P w K tg J fp it tn)
    (hg : ∀ i H, J'.go i H → J.go i H) (hy : ∀ i H x H', J'.go i H → J.yld i H x H' → J'.yld i H x H') (hs : ∀ i H, J'.stop i H → J.stop i H) : Turn P w K tg J' fp it tn where
  mem := T.mem
  obj := T.obj
  keep := T.keep
  item := fun X hP hw hK hc i pins s σ H E I hf st g => thn (T.item X hP hw hK hc i pins s σ H E I hf st (hg i H g)) fun r s1 ⟨u, hr, h⟩ =>
    ⟨u, hr, thn h fun _ s2 ⟨x, H', I2, r2, y, st2, n2⟩ => ⟨x, H', I2, r2, hy i H x H' g y, st2, n2⟩⟩
  done := fun X hP hw hK hc i pins s σ H E I hf st g => T.done X hP hw hK hc i pins s σ H E I hf st (hs i H g)
  self := T.self
theorem pi_walk {e : Expr} {te : TE} (he : PE X e te) : PI X tg e (iWalk X.K te) := by
  refine ⟨fun pins s σ H R I h => ?_⟩
  refine thn (he.run pins s σ H _ I h) fun v s1 ⟨x, H1, I1, r1, xs, P, hw, q⟩ => ?_
  cases hw with
  | l hq =>
    cases r1
    obtain ⟨its, rv, p, hz⟩ := I1.list hq
    refine wpAny_pyIter_list p.isList (pi_one (tk := s1.toks) I1 _ (turn_weak (J' := ItO X.K (.li _)) (turn_list _ _) (fun i H g => g) (fun i H x H' g y => y) fun i H ⟨xs, h1, h2⟩ => ⟨xs, h1, Nat.le_of_eq h2.symm⟩) ⟨_, Heap.get?_push_size _ rfl, rfl, rfl⟩ (q (.li _) rfl))
  | t hq =>
    cases r1
    obtain ⟨its, rv, p, hz⟩ := I1.tuple hq
    refine wpAny_pyIter_tuple (show s1.heap.IsTuple _ its.toArray from p) (pi_one (tk := s1.toks) I1 _ (turn_weak (J' := ItO X.K (.tu _)) (turn_tuple _ _) (fun i H g => g) (fun i H x H' g y => y) fun i H ⟨xs, h1, h2⟩ => ⟨xs, h1, Nat.le_of_eq h2.symm⟩) ⟨_, Heap.get?_push_size _ rfl, rfl, rfl⟩ (q (.tu _) rfl))
  | s =>
    rename_i x
    obtain ⟨t, rfl⟩ := r1
    have wk : ∀ {it : Addr} {tn : Nat → Heap → Prop}, Turn X.prog X.w X.K tg (Its x) [it] it tn → Turn X.prog X.w X.K tg (ItO X.K (.tx x t)) [it] it tn := fun T => by
      refine turn_weak T (fun i H ⟨xs, y, h1, h2⟩ => ?_) (fun i H y H' g z => ?_) fun i H ⟨xs, h1, h2⟩ => ?_
      · have h1 : xs = x.cps.toList.map fun c => V.str ⟨#[c]⟩ := h1
        have := (List.getElem?_eq_some_iff.mp h2).1
        rw [h1] at this
        show i < x.cps.size
        simpa using this
      · obtain ⟨z1, c, hc, rfl⟩ := z
        refine ⟨z1, fun xs h1 => ?_⟩
        have h1 : xs = x.cps.toList.map fun c => V.str ⟨#[c]⟩ := h1
        rw [h1]
        simp [hc]
      · have h1 : xs = x.cps.toList.map fun c => V.str ⟨#[c]⟩ := h1
        rw [h2, h1]
        show x.cps.size ≤ _
        simp
    have q' := q (.tx x t) ⟨t, rfl⟩
    cases ha : x.cps.all (· < 128)
    · exact wpAny_pyIter_wide ha (pi_one (tk := s1.toks) I1 _ (wk (turn_str _ x t "str_iterator" (.inr rfl))) ⟨_, Heap.get?_push_size _ rfl, rfl, rfl⟩ q')
    · exact wpAny_pyIter_ascii ha (pi_one (tk := s1.toks) I1 _ (wk (turn_str _ x t "str_ascii_iterator" (.inl rfl))) ⟨_, Heap.get?_push_size _ rfl, rfl, rfl⟩ q')
/-- zip(a, b) -/
def iZipW (K : PySem.W.Frag) (ta : TA) : TI := fun σ H R => ta σ H fun vs H1 => ∃ v u xs ys P1 P2, vs = [v, u] ∧ Walk K H1 v xs P1 ∧ Walk K H1 u ys P2 ∧ ∀ r1 r2 : Src, P1 r1 → P2 r2 → R (ItZ K r1 r2) H1
theorem pi_zipW {e e2 : Expr} {ta : TA} {p pos tpos : Pos} {elts : List Expr} {kk : Nat} (hg : Gl X "zip") (hm : X.mg "zip" = none) (ha : PA X [e, e2] ta)
    (hs : starEach [e, e2] X.env = (false, eval e X.env) :: starEach [e2] X.env) (hpl : (backTo pos (starEach [e2] X.env)).any (·.1) = false) :
    PI X (.Tuple elts kk tpos) (.Call (.Name "zip" p) [e, e2] [] pos) (iZipW X.K ta) := by
  refine ⟨fun pins s σ H R I h => ?_⟩
  refine Call_ (ld_blt I hg hm PyProof.Rows.boot_zip (PyProof.Rows.callWith_type1 (thn (ha.run pos pins s σ H _ I h) fun us s1 ⟨vs, H1, I1, r1, q1⟩ => ?_) hs hpl))
  obtain ⟨v, v2, xs, ys, Q1, Q2, ex, w1, w2, q⟩ := q1
  subst ex
  cases r1 with
  | cons r rr =>
    cases rr with
    | cons r' rr =>
      cases rr
      obtain ⟨r1, rfl, h1, m1⟩ := w1.src r
      obtain ⟨r2, rfl, h2, m2⟩ := w2.src r'
      obtain ⟨P1, B1, p1, lt1⟩ := Src.begins I1 h1
      obtain ⟨P2, B2, p2, lt2⟩ := Src.begins I1 h2
      refine zip_begins2 B1 B2 p1 p2 fun h' hz hTI hTO g1 g2 hsz hk => wpAny_pyIter_zip hz ?_
      have I2 : Inv X pins σ H1 { s1 with heap := h' } := I1.kept (t' := s1.toks) hk
      refine ⟨s1.heap.objs.size + 4, [s1.heap.objs.size + 4, s1.heap.objs.size + 2, s1.heap.objs.size + 3, s1.heap.objs.size, s1.heap.objs.size + 1], _, _, H1, rfl, I2,
        turn_zipZ (zip_sep2 lt1 lt2) (fun a ha => Nat.ne_of_lt (lt1 a ha)) (fun a ha => Nat.ne_of_lt (Nat.lt_succ_of_lt (lt2 a ha))), ⟨hz, hTI, ⟨_, _, hTO⟩, Src.at_zero g1, Src.at_zero g2⟩, fun c hcm => ?_, q r1 r2 m1 m2⟩
      have e' : c = s1.heap.objs.size + 4 ∨ c = s1.heap.objs.size + 2 ∨ c = s1.heap.objs.size + 3 ∨ c = s1.heap.objs.size ∨ c = s1.heap.objs.size + 1 := by simpa using hcm
      have hle : s1.heap.objs.size ≤ c := by
        rcases e' with z | z | z | z | z <;> rw [z] <;> first | exact Nat.le_add_right _ _ | exact Nat.le_refl _
      exact I1.fpOk hle (I1.hok.fresh hle)
/-- enumerate(a) -/
def iEnumW (K : PySem.W.Frag) (ta : TA) : TI := fun σ H R => ta σ H fun vs H1 => ∃ v xs P, vs = [v] ∧ Walk K H1 v xs P ∧ ∀ r : Src, P r → R (ItE K r 0) H1
theorem pi_enumW {e : Expr} {ta : TA} {p pos tpos : Pos} {elts : List Expr} {kk : Nat} (hg : Gl X "enumerate") (hm : X.mg "enumerate" = none) (ha : PA X [e] ta) (hs : starEach [e] X.env = [(false, eval e X.env)]) :
    PI X (.Tuple elts kk tpos) (.Call (.Name "enumerate" p) [e] [] pos) (iEnumW X.K ta) := by
  refine ⟨fun pins s σ H R I h => ?_⟩
  refine Call_ (ld_blt I hg hm boot_enumerate (PyProof.Rows.callWith_type1 (thn (ha.run pos pins s σ H _ I h) fun us s1 ⟨vs, H1, I1, r1, q1⟩ => ?_) hs rfl))
  obtain ⟨v, xs, Q1, ex, w1, q⟩ := q1
  subst ex
  cases r1 with
  | cons r rr =>
    cases rr
    obtain ⟨r1, rfl, h1, m1⟩ := w1.src r
    obtain ⟨P1, B1, p1, lt1⟩ := Src.begins I1 h1
    refine enum_begins1 B1 p1 fun h' he g1 hsz hk => wpAny_pyIter_enum he ?_
    have I2 : Inv X pins σ H1 { s1 with heap := h' } := I1.kept (t' := s1.toks) hk
    refine ⟨s1.heap.objs.size + 1, [s1.heap.objs.size + 1, s1.heap.objs.size], _, _, H1, rfl, I2, turn_enumE (Nat.succ_ne_self _) (fun z => absurd (lt1 _ z) (Nat.not_lt.mpr (Nat.le_succ _))) (fun a ha => Nat.ne_of_lt (lt1 a ha)), ⟨⟨.none, he⟩, Src.at_zero g1⟩, fun b hb => ?_, q r1 m1⟩
    have e' : b = s1.heap.objs.size + 1 ∨ b = s1.heap.objs.size := by simpa using hb
    have hle : s1.heap.objs.size ≤ b := by
      rcases e' with z | z <;> rw [z] <;> first | exact Nat.le_add_right _ _ | exact Nat.le_refl _
    exact I1.fpOk hle (I1.hok.fresh hle)
/-- enumerate(a, k) -/
def iEnumWk (K : PySem.W.Frag) (k : Nat) (ta : TA) : TI := fun σ H R => ta σ H fun vs H1 => ∃ v xs P, vs = [v, .int (k : Int)] ∧ Walk K H1 v xs P ∧ ∀ r : Src, P r → R (ItE K r (k : Int)) H1
theorem pi_enumWk {e c : Expr} {ta : TA} {p pos tpos : Pos} {elts : List Expr} {kk k : Nat} (hk0 : k ≤ 1000000) (hg : Gl X "enumerate") (hm : X.mg "enumerate" = none) (ha : PA X [e, c] ta)
    (hs : starEach [e, c] X.env = (false, eval e X.env) :: starEach [c] X.env) (hpl : (backTo pos (starEach [c] X.env)).any (·.1) = false) :
    PI X (.Tuple elts kk tpos) (.Call (.Name "enumerate" p) [e, c] [] pos) (iEnumWk X.K k ta) := by
  refine ⟨fun pins s σ H R I h => ?_⟩
  refine Call_ (ld_blt I hg hm boot_enumerate (PyProof.Rows.callWith_type1 (thn (ha.run pos pins s σ H _ I h) fun us s1 ⟨vs, H1, I1, r1, q1⟩ => ?_) hs hpl))
  obtain ⟨v, xs, Q1, ex, w1, q⟩ := q1
  subst ex
  cases r1 with
  | cons r rr =>
    cases rr with
    | cons r' rr =>
      cases rr
      obtain ⟨tk, rfl⟩ := r'
      obtain ⟨r1, rfl, h1, m1⟩ := w1.src r
      obtain ⟨P1, B1, p1, lt1⟩ := Src.begins I1 h1
      refine enum_begins B1 p1 (by omega) (by omega) fun h' he g1 hsz hk => wpAny_pyIter_enum he ?_
      have I2 : Inv X pins σ H1 { s1 with heap := h' } := I1.kept (t' := s1.toks) hk
      refine ⟨s1.heap.objs.size + 1, [s1.heap.objs.size + 1, s1.heap.objs.size], _, _, H1, rfl, I2, turn_enumE (k := (k : Int)) (Nat.succ_ne_self _) (fun z => absurd (lt1 _ z) (Nat.not_lt.mpr (Nat.le_succ _))) (fun a ha => Nat.ne_of_lt (lt1 a ha)), ⟨⟨.none, by
        show IsEnum _ _ _ ((k : Int) + ((0 : Nat) : Int)) _
        rw [Int.natCast_zero, Int.add_zero]
        exact he⟩, Src.at_zero g1⟩, fun b hb => ?_, q r1 m1⟩
      have e' : b = s1.heap.objs.size + 1 ∨ b = s1.heap.objs.size := by simpa using hb
      have hle : s1.heap.objs.size ≤ b := by
        rcases e' with z | z <;> rw [z] <;> first | exact Nat.le_add_right _ _ | exact Nat.le_refl _
      exact I1.fpOk hle (I1.hok.fresh hle)
end
end RA

set_option maxHeartbeats 1000000
/-! What a def promises where no list and no tuple is being shown (repr of lists and tuples is served there). -/
namespace RA
open PySem PySem.Spec PyProof.Rows L2

/-- nothing is being shown -/
def Gd (A : Around) : Prop := A.guards = some []
theorem Gd.deeper {A : Around} {env : Env} (h : Gd A) : Gd (A.deeper env) := h
/-- the outcome of a call, told apart -/
theorem cr_cases {CX : CXT} {outer : List Env} {P : Program} {w : World} {H : Hp} {s : Shared} {Q : VK} {E : XK} {r : Result} {s' : Shared} (h : L2.CR CX outer P w H s Q E r s') :
    (∃ u, r = .ok (.ret u) ∧ CE outer P w H s Q u s') ∨ ∃ e, r = .error e ∧ CX outer H s E e s' := by
  match r, h with
  | .error e, h => exact .inr ⟨e, rfl, h⟩
  | .ok (.ret u), h => exact .inl ⟨u, rfl, h⟩
structure FnS (P : Program) (w : World) (K : PySem.W.Frag) (mg : Str → Option Value) (base : Heap) (CX : CXT) (k : Nat) (f : Addr) (fd : FuncData) (ps : List Str) (sp : Sp) : Prop where
  len : ∀ {vs H Q E}, sp vs H Q E → vs.length = ps.length
  run : ∀ {A : Around}, Gd A → Room k A → ∀ {outer : List Env} {s : Shared} {H : Hp} {args : Args} {us : List Value} {vs : List V} {Q : VK} {E : XK}, Env0 P w K mg base A outer s H →
    BindsTo s fd args (ps.zip us) → Vals vs us → sp vs H Q E → codeAny (model P w) A (.call (.ref f) args) (L2.CR CX outer P w H s Q E) s
section
variable {X : Cx} {CX : CXT} {k : Nat} {f : Addr} {fd : FuncData} {ps : List Str} {sp : Sp} {E : L2.St → XK}
theorem run_S {pins : List (Addr × Obj)} {σ : L2.St} {H : Hp} {s : Shared} {Q : VK} {us : List Value} {vs : List V} (F : FnS X.prog X.w X.K X.mg X.base CX k f fd ps sp) (gd : Gd X.A) (hr : Room k X.A) (hb : Binds X.K fd ps []) (hx : PassesAt CX X σ (E σ))
    (I : Inv X pins σ H s) (r : Vals vs us) (h : sp vs H Q (E σ)) : wpAny (model X.prog X.w) X.A (call (.ref f) us) (EP X pins σ Q) X.xe s := by
  have bound : BindsTo s fd ⟨us, []⟩ (ps.zip us) := by
    have n : us.length = ps.length := r.length.symm.trans (F.len h)
    simpa only [List.append_nil] using hb s us I.kIn (by simpa only [List.append_nil] using n)
  refine wpAny_call (codeAny_mono (F.run gd hr I.env0 bound r h) fun res s' got => ?_)
  rcases cr_cases got with ⟨u, rfl, c⟩ | ⟨e, rfl, c⟩
  · exact I.after c
  · exact hx pins H s e s' I c
/-- .. defaults fill up -/
theorem run_SD {pins : List (Addr × Obj)} {σ : L2.St} {H : Hp} {s : Shared} {Q : VK} {us dus : List Value} {vs ds : List V} (F : FnS X.prog X.w X.K X.mg X.base CX k f fd ps sp) (gd : Gd X.A) (hr : Room k X.A) (hb : Binds X.K fd ps dus) (hx : PassesAt CX X σ (E σ))
    (I : Inv X pins σ H s) (r : Vals vs us) (rd : Vals ds dus) (h : sp (vs ++ ds) H Q (E σ)) : wpAny (model X.prog X.w) X.A (call (.ref f) us) (EP X pins σ Q) X.xe s := by
  have bound : BindsTo s fd ⟨us, []⟩ (ps.zip (us ++ dus)) := by
    have n : us.length + dus.length = ps.length := by
      have z := F.len h
      rw [List.length_append, r.length, rd.length] at z
      exact z
    exact hb s us I.kIn (by rw [List.length_append]; exact n)
  refine wpAny_call (codeAny_mono (F.run gd hr I.env0 bound (r.append rd) h) fun res s' got => ?_)
  rcases cr_cases got with ⟨u, rfl, c⟩ | ⟨e, rfl, c⟩
  · exact I.after c
  · exact hx pins H s e s' I c
end
/-- a def of the text, by its body -/
theorem okS {P : Program} {w : World} {K : PySem.W.Frag} {mg : Str → Option Value} {base : Heap} {x qual : Str} {st : Stmt} {f : Addr} {fd : FuncData} {N ps : List Str} {k : Nat} {sp : Sp} (F : L2.Fun K x qual st f fd) (S : FnScope N ps (defScope st)) (len : ∀ vs H Q E, sp vs H Q E → vs.length = ps.length)
    (hbody : ∀ (cdv : Value) (A : Around) (outer : List Env) (s : Shared) (H : Hp) (vs : List V) (Q : VK) (E : XK), Gd A → Room k (A.deeper (PyProof.Rows.envOfC qual (defScope st) s.heap.objs.size f cdv)) → sp vs H Q E →
      ∃ t, PSs (cxOf (L2N.CX P w) P w K mg base N qual (defScope st) f cdv A outer s H E) (defBody st) t ∧ t { nx := fun _ H' => Q .non H', rt := Q } (L2.start N vs) H) : FnS P w K mg base (L2N.CX P w) (k + 1) f fd ps sp where
  len := len _ _ _ _
  run := by
    obtain ⟨oc, od, kV, doc, pm, an, cdv, ct, osl, rfl, lk, hcd⟩ := F.ex
    intro A gd hr outer s H args us vs Q E e0 hb r hsp
    obtain ⟨t, ht, hq⟩ := hbody cdv A outer s H vs Q E gd (hr.deeper _) hsp
    have inBase := fun b o (e : base.get? b = some o) => (e0.bs b o e).1
    have KX : K.In s.heap := e0.mod.kin.keeps inBase
    have slots : ∀ y ∈ ps.zip us, (defScope st).names.lookup y.1 = some .local ∨ ((defScope st).names.lookup y.1 = some .cell ∧ ((cellsFrom (s.heap.objs.size + 1) (defScope st).names []).lookup y.1).isSome = true) := by
      rintro ⟨n, v⟩ hy
      exact (S.par n (List.of_mem_zip hy).1).imp id fun q => ⟨q, PySem.W.cellsFrom_some _ _ _ (.inl q)⟩
    refine codeAny_call_function hr.depth (KX _ _ lk) rfl S.co S.gen rfl (PySem.W.codeRec_of KX hcd) (hb _ _ _ _ (wpAny_newFunctionEnv_cells S.kind slots fun env he s1 x => ?_))
    subst he
    refine ⟨(e0.mod.nolimit.keeps inBase).keeps x.toInCall.keep, codeAny_func (wpAny_mono (ht.run [] s1 (start N vs) H _ (inv_start S hr.hd e0 (len _ _ _ _ hsp) r x) hq) (fun fl s' hs => ?_) fun _ _ hs => hs)⟩
    match fl, hs with
    | .next, ⟨σ', H', J, q⟩ => exact (⟨.non, H', J.os, J.bare, J.base, J.hok, rfl, q⟩ : CE outer P w H s Q Value.none s')
    | .ret u, ⟨v, σ', H', J, rv, q⟩ => exact (⟨v, H', J.os, J.bare, J.base, J.hok, rv, q⟩ : CE outer P w H s Q u s')
    | .brk, ⟨_, _, _, q⟩ => exact q.elim
    | .cont, ⟨_, _, _, q⟩ => exact q.elim

/-! ### the law -/
theorem ints_toV : ∀ {vs : List Value} {ns : List Int}, IntsAre vs ns → vs.map toV = ns.map V.int
  | _, _, .nil => rfl
  | _, _, .cons n t h => by rw [List.map_cons, List.map_cons, ints_toV h]; rfl
theorem ints_ok : ∀ {vs : List Value} {ns : List Int} {A : List Addr}, IntsAre vs ns → ∀ u ∈ vs, OkU A u
  | _, _, _, .nil, u, m => absurd m (by simp)
  | _, _, A, .cons n t h, u, m => by
    rcases List.mem_cons.mp m with rfl | m
    · trivial
    · exact ints_ok h u m
/-- the law's def is called with the script, from outside -/
theorem law_S {P : Program} {w : World} {K : PySem.W.Frag} {mg mb : Str → Option Value} {CX : CXT} {k : Nat} {fa a : Addr} {fd : FuncData} {x : Str} {sp : Sp} {s₁ : Shared} {vs : List Value} {ns : List Int}
    (KX : K.In s₁.heap) (hns : s₁.heap.Ns mainGlobals mg) (hb : s₁.heap.Ns builtinsNs mb) (hbb : ∀ x : Str, x ≠ "__name__" → mb x = bootBuiltins x) (hlim : s₁.heap.NoLimit) (hg : s₁.gens = #[])
    (ha : s₁.heap.get? a = some { cls := .type "list", data := .seq vs.toArray }) (hi : IntsAre vs ns) (hl : ns.length ≤ sizeLine) (hr : Room k callerA)
    (F : ∀ base : Heap, K.In base → base.Ns mainGlobals mg → FnS P w K mg base CX k fa fd [x] sp) (hbind : ∀ (s : Shared) (u : Value), BindsTo s fd ⟨[u], []⟩ [(x, u)])
    (hsp : ∀ H : Hp, SqL K H a (ns.map V.int) → sp [.ref a] H (fun v _ => v = .bl true) fun _ _ _ => False)
    (hCX : ∀ H e s', CX [] H s₁ (fun _ _ _ => False) e s' → False) :
    codeAny (model P w) callerA (.call (.ref fa) ⟨[.ref a], []⟩) (fun r s' => r = .ok (.ret (.bool true)) ∧ OldK s₁.heap s'.heap ∧ s'.os = s₁.os ∧ AllBare s'.gens) s₁ := by
  have ar : ∀ b ∈ [a], ArgOb s₁.heap [a] b := fun b hb => by
    obtain rfl := List.mem_singleton.mp hb
    exact ⟨vs, by rw [hi.length]; exact hl, ints_ok hi, .inl ha⟩
  have hS : SqL K (argH K s₁.heap [a]) a (ns.map V.int) := by
    rw [← ints_toV hi]
    exact (argL KX ar (List.mem_singleton.mpr rfl) ha).2
  have hok : HOk P w (argH K s₁.heap [a]) s₁.heap := argH_ok ar
  have hO : OnlyF (argH K s₁.heap [a]) := argH_only ar
  have only : ∀ b, argH K s₁.heap [a] b ≠ none → b = a ∧ K.lookup b = none := fun b n => by
    obtain ⟨u, q⟩ := Option.ne_none_iff_exists'.mp n
    exact ⟨List.mem_singleton.mp (of_argH q).1, (of_argH q).2⟩
  generalize argH K s₁.heap [a] = H at hS hok hO only
  -- a dict, an object of the module: not tracked
  have shown : ∀ {b : Addr} {o : Obj}, s₁.heap.get? b = some o → (b = a → K.lookup b ≠ none ∨ ∃ es ep, o.data = .dict es ep) → (hidT s₁.heap H).get? b = some o := fun {b o} e no => hidT_get e (Classical.byContradiction fun n => by
    obtain ⟨e1, e2⟩ := only b n
    rcases no e1 with z | ⟨es, ep, z⟩
    · exact z e2
    · subst e1
      rw [ha] at e
      obtain rfl := Option.some.inj e
      exact Data.noConfusion z)
  have names : ∀ {b : Addr} {m : Str → Option Value}, s₁.heap.Ns b m → (hidT s₁.heap H).Ns b m := fun {b m} ⟨o, es, ep, e, d, r⟩ => ⟨o, es, ep, shown e fun _ => .inr ⟨es, ep, d⟩, d, r⟩
  have inB : K.In (hidT s₁.heap H) := fun b o e => shown (KX b o e) fun _ => .inl (by rw [e]; simp)
  obtain ⟨mc, l1, l2⟩ := hlim
  have e0 : Env0 P w K mg (hidT s₁.heap H) callerA [] s₁ H :=
    { frames := rfl
      mod := ⟨inB, names hns, ⟨mb, names hb, hbb⟩, ⟨mc, names l1, l2⟩⟩
      bs := fun b o e => of_hidT e
      bsz := Nat.le_of_eq (hidT_size _ _)
      funs := trivial
      frf := fun b hb => nomatch (show b ∈ ([] : List Addr) from hb)
      hok := hok
      bare := .of_eq hg }
  refine codeAny_mono ((F _ inB (names hns)).run (show Gd callerA from rfl) hr (us := [.ref a]) (vs := [.ref a]) e0 (hbind s₁ (.ref a)) (.cons (show RelV (.ref a) (.ref a) from rfl) .nil) (hsp H hS)) fun r s' h => ?_
  rcases cr_cases h with ⟨u, rfl, v, H', os, bare, un, hok', r', q⟩ | ⟨e, rfl, c⟩
  · have q : v = .bl true := q
    subst q
    obtain rfl : u = Value.bool true := r'
    refine ⟨rfl, OldK.of_keep fun b o e => ?_, os, bare⟩
    rcases hO b with z | ⟨ob, u, z⟩
    · exact un.keep b o e z (fun m => nomatch (show b ∈ ([] : List Addr) from m)) (fun m => nomatch m)
    · have e1 := (hok b _ z).1
      have e2 := (hok' b _ (un.frzs b ob _ z)).1
      rw [e1] at e
      exact e2.trans e
  · exact (hCX H e s' c).elim
end RA

set_option maxHeartbeats 1000000
/-! Lambdas that capture nothing: made where the code object's table is known; what they promise when called. -/
namespace RA
open PySem PySem.Spec PyProof.Rows L2 LamX

/-- a lambda's words -/
structure LamD where
  qual : Str
  params : Arguments
  body : Expr
  scope : Scope
/-- the object at a is that function, with the code object at c' -/
def LamO (ld : LamD) (a c' : Addr) : HO := .ext fun h => ∃ pm ctv : Value, h.get? a = some (PySem.W.kla_obj "<lambda>" ld.qual ld.params ld.body ld.scope [] pm c' ctv)
theorem lamO_at {P : Program} {w : World} {H : Hp} {h : Heap} {a c' : Addr} {ld : LamD} (hok : HOk P w H h) (e : H a = some (LamO ld a c')) : ∃ pm ctv : Value, h.get? a = some (PySem.W.kla_obj "<lambda>" ld.qual ld.params ld.body ld.scope [] pm c' ctv) := by
  obtain ⟨z, _, _⟩ := hok a _ e
  exact z
theorem clo_nil {cells : List (Str × Addr)} : ∀ {names : List (Str × NameKind)} {acc : List (Str × Addr)}, (∀ y ∈ names, y.2 ≠ .free) → cloFrom cells names acc = acc
  | [], acc, _ => rfl
  | (n, k) :: r, acc, h => by
    have hk : k ≠ .free := h (n, k) List.mem_cons_self
    show (if k == .free then _ else _) = _
    rw [if_neg (by simpa using hk)]
    exact clo_nil fun y hy => h y (List.mem_cons_of_mem _ hy)
section
variable {X : Cx} {pins : List (Addr × Obj)} {σ : L2.St} {H : Hp} {s : Shared}
/-- the lambda is made: its code object is new, or found in the table -/
theorem lam_make3 {c P : Addr} {ps : Array Value} {params : Arguments} {body : Expr} {scope : Scope} {pos : Pos} {E : Value → Shared → Prop} {Q : Value → Shared → Prop} (I : Inv X pins σ H s) (TB : TabB X.base X.mg c P) (hcode : X.env.code = .ref c)
    (hP : H P = some (.tbl ps)) (ht : TriplesOk ps.toList) (ha : ∀ (p' : Pos) (cv : Value), codeAmong p' ps.toList = some cv → ∃ c', cv = .ref c' ∧ H c' = some (CodeO c' (X.env.qual ++ "<lambda>")))
    (hdef : defaultsOf params X.env = ([], [])) (hfree : ∀ y ∈ scope.names, y.2 ≠ .free)
    (h : ∀ (f c' : Addr) (ps' : Array Value) (H1 : Hp) (s' : Shared), H f = none → H1 f = none →
      ((H1 = H ∧ codeAmong pos ps.toList = some (.ref c')) ∨ (H c' = none ∧ H1 = upd (upd H P (.tbl ps')) c' (CodeO c' (X.env.qual ++ "<lambda>")) ∧ TriplesOk ps'.toList ∧ ∀ (p' : Pos) (cv : Value), codeAmong p' ps'.toList = some cv → codeAmong p' ps.toList = some cv ∨ cv = .ref c')) →
      Inv X pins σ (upd H1 f (LamO ⟨X.env.qual ++ "<lambda>", params, body, scope⟩ f c')) s' → Q (.ref f) s') :
    wpAny (model X.prog X.w) X.A (eval (.Lambda params body scope pos) X.env) Q E s := by
  refine PySem.W.kla_eval hdef ?_
  have bP : s.heap.BuiltinsAt X.mg P := TB.bm.keeps I.bk
  have hP' : s.heap.get? P = some { cls := .none, data := .fields ps } := I.hok P _ hP
  have hcl : closureFor scope X.env = pure [] := by
    rw [closure_ok (fun y hy e => absurd e (hfree y hy)), clo_nil hfree]
  have laidF : ∀ {h' : Heap} {tk : Nat} {H1 : Hp} {c' : Addr} {ctv : Value} {s0 : Shared}, Inv X pins σ H1 { s0 with heap := h', toks := tk } →
      Inv X pins σ (upd H1 h'.objs.size (LamO ⟨X.env.qual ++ "<lambda>", params, body, scope⟩ h'.objs.size c')) { s0 with heap := h'.push (PySem.W.kla_obj "<lambda>" (X.env.qual ++ "<lambda>") params body scope [] ((X.mg "__name__").getD .none) c' ctv), toks := tk } := by
    intro h' tk H1 c' ctv s0 I1
    refine Inv.laid (s := { s0 with heap := h', toks := tk }) (a := h'.objs.size) I1 (fun b u e => Heap.get?_push_of_some _ e) (Nat.le_refl _) ?_
    have e : (h'.push (PySem.W.kla_obj "<lambda>" (X.env.qual ++ "<lambda>") params body scope [] ((X.mg "__name__").getD .none) c' ctv)).get? h'.objs.size = some (PySem.W.kla_obj "<lambda>" (X.env.qual ++ "<lambda>") params body scope [] ((X.mg "__name__").getD .none) c' ctv) := Heap.get?_push_size _ rfl
    exact ⟨⟨_, _, e⟩, ⟨_, e⟩, fun h1 h2 ⟨p, t, z⟩ st => ⟨p, t, st _ z⟩⟩
  cases hc : codeAmong pos ps.toList with
  | none =>
    refine PySem.W.kla_makeFunction (mg := X.mg) (c := c) (P := P) (ps := ps) hcl I.ok.glob (I.mod.glob.keeps I.bk) hcode (TB.code.keeps I.bk) hP' ht hc TB.gP bP fun c' ctv h' tk hx hge hlt hrec htb => ?_
    obtain ⟨c2, oc, vs, t, e2, hoc, hd, hv⟩ := hrec
    cases e2
    have hsz : s.heap.objs.size ≤ h'.objs.size := Nat.le_trans hge (Nat.le_of_lt hlt)
    have nC : H c' = none := I.hok.fresh hge
    have I1 := inv_table (t' := tk) (more := #[rawInt pos.line, rawInt pos.col, .ref c']) (h' := h') I hP (fun b o hb e => hx b o hb e) htb hge ⟨oc, vs, t, hoc, hd, hv⟩
    have eL : (ps ++ #[rawInt pos.line, rawInt pos.col, .ref c']).toList = ps.toList ++ [rawInt pos.line, rawInt pos.col, .ref c'] := by simp
    have n1 : h'.objs.size ≠ c' := Nat.ne_of_gt hlt
    have n2 : h'.objs.size ≠ P := Nat.ne_of_gt (Nat.lt_of_lt_of_le (Heap.lt_size hP') hsz)
    have nf : H h'.objs.size = none := I.hok.fresh hsz
    refine h h'.objs.size c' (ps ++ #[rawInt pos.line, rawInt pos.col, .ref c']) _ _ nf (by rw [upd_ne n1, upd_ne n2]; exact nf) (.inr ⟨nC, rfl, by rw [eL]; exact PySem.TriplesOk_snoc _ _ _ _ ht, fun p' cv hcv => ?_⟩) (laidF I1)
    rw [eL] at hcv
    exact among_app _ ht hcv
  | some cv =>
    obtain ⟨c', e, hco⟩ := ha pos cv hc
    subst e
    refine PySem.W.kla_makeFunctionHit (mg := X.mg) (c := c) (P := P) (ps := ps) hcl I.ok.glob (I.mod.glob.keeps I.bk) hcode (TB.code.keeps I.bk) hP' ht hc bP fun ctv h' tk hx hsz => ?_
    have I1 : Inv X pins σ H { s with heap := h', toks := tk } := I.kept hx
    have nf : H h'.objs.size = none := I.hok.fresh hsz
    exact h h'.objs.size c' ps H _ nf nf (.inl ⟨rfl, hc⟩) (laidF I1)
end
/-- what a lambda promises where nothing is being shown -/
structure LamFn (P : Program) (w : World) (K : PySem.W.Frag) (mg : Str → Option Value) (base : Heap) (CX : CXT) (k : Nat) (ld : LamD) (ps : List Str) (sp : Sp) : Prop where
  len : ∀ {vs H Q E}, sp vs H Q E → vs.length = ps.length
  run : ∀ {A : Around}, Gd A → Room k A → ∀ {outer : List Env} {s : Shared} {H : Hp} {us : List Value} {vs : List V} {Q : VK} {E : XK} {a c' : Addr}, Env0 P w K mg base A outer s H →
    H a = some (LamO ld a c') → H c' = some (CodeO c' ld.qual) → Vals vs us → sp vs H Q E → codeAny (model P w) A (.call (.ref a) ⟨us, []⟩) (L2.CR CX outer P w H s Q E) s
theorem okL {P : Program} {w : World} {K : PySem.W.Frag} {mg : Str → Option Value} {base : Heap} {ld : LamD} {N ps : List Str} {k : Nat} {sp : Sp} (S : FnScope N ps ld.scope) (len : ∀ vs H Q E, sp vs H Q E → vs.length = ps.length)
    (hbind : ∀ (pm ctv : Value) (c' : Addr) (us : List Value), us.length = ps.length → bindArgs (PySem.W.kla_fn "<lambda>" ld.qual ld.params ld.body ld.scope [] pm (.ref c') ctv) ⟨us, []⟩ = pure (ps.zip us))
    (hbody : ∀ (a c' : Addr) (A : Around) (outer : List Env) (s : Shared) (H : Hp) (vs : List V) (Q : VK) (E : XK), Gd A → Room k (A.deeper (PyProof.Rows.envOfC ld.qual ld.scope s.heap.objs.size a (.ref c'))) → sp vs H Q E →
      ∃ t, PE (cxOf (L2N.CX P w) P w K mg base N ld.qual ld.scope a (.ref c') A outer s H E) ld.body t ∧ t (L2.start N vs) H Q) : LamFn P w K mg base (L2N.CX P w) (k + 1) ld ps sp where
  len := len _ _ _ _
  run := by
    intro A gd hr outer s H us vs Q E a c' e0 hf hc r hsp
    obtain ⟨t, ht, hq⟩ := hbody a c' A outer s H vs Q E gd (hr.deeper _) hsp
    have inBase := fun b o (e : base.get? b = some o) => (e0.bs b o e).1
    have KX : K.In s.heap := e0.mod.kin.keeps inBase
    have slots : ∀ y ∈ ps.zip us, ld.scope.names.lookup y.1 = some .local ∨ (ld.scope.names.lookup y.1 = some .cell ∧ ((cellsFrom (s.heap.objs.size + 1) ld.scope.names []).lookup y.1).isSome = true) := by
      rintro ⟨n, v⟩ hy
      exact (S.par n (List.of_mem_zip hy).1).imp id fun q => ⟨q, PySem.W.cellsFrom_some _ _ _ (.inl q)⟩
    obtain ⟨pm, ctv, ho⟩ := lamO_at e0.hok hf
    refine PySem.W.kla_callFunE hr.depth ho rfl S.co S.gen rfl (NdefX.codeO_at e0.hok hc) ?_
    rw [hbind pm ctv c' us (by rw [← r.length]; exact len _ _ _ _ hsp)]
    refine wpAny_pure (wpAny_newFunctionEnv_cells S.kind slots fun env he s1 x => ?_)
    subst he
    refine ⟨(e0.mod.nolimit.keeps inBase).keeps x.toInCall.keep, PySem.W.kla_codeExpr (wpAny_mono (ht.run [] s1 (start N vs) H _ (inv_start S hr.hd e0 (len _ _ _ _ hsp) r x) hq) (fun u s' hs => ?_) fun _ _ hs => hs)⟩
    obtain ⟨v, H', J, rv, q⟩ := hs
    exact (⟨v, H', J.os, J.bare, J.base, J.hok, rv, q⟩ : CE outer P w H s Q u s')
/-- a def of the text as it stands behind the top; it may have defaults -/
structure FunD (K : PySem.W.Frag) (x qual : Str) (st : Stmt) (f : Addr) (fd : FuncData) : Prop where
  ex : ∃ (oc : Value) (od : Option Addr) (dV kV doc pm : Value) (an : Option Addr) (cdv ct : Value) (osl : Array (Option Value)),
    fd = PySem.W.fnOf x qual (defArgs st) (defBody st) (defScope st) dV kV doc pm an cdv ct ∧ K.lookup f = some ⟨oc, od, .func fd, osl⟩ ∧ PySem.W.codeIn K cdv qual = true
  kp : PySem.W.keepIn K (.ref f) = true
/-- a def of the text, by its body; its code object is known -/
theorem okSc {P : Program} {w : World} {K : PySem.W.Frag} {mg : Str → Option Value} {base : Heap} {x qual : Str} {st : Stmt} {f : Addr} {fd : FuncData} {N ps : List Str} {k : Nat} {sp : Sp} (F : FunD K x qual st f fd) (S : FnScope N ps (defScope st)) (len : ∀ vs H Q E, sp vs H Q E → vs.length = ps.length)
    (hbody : ∀ (cdv : Value) (A : Around) (outer : List Env) (s : Shared) (H : Hp) (vs : List V) (Q : VK) (E : XK), fd.code = cdv → Gd A → Room k (A.deeper (PyProof.Rows.envOfC qual (defScope st) s.heap.objs.size f cdv)) → sp vs H Q E →
      ∃ t, PSs (cxOf (L2N.CX P w) P w K mg base N qual (defScope st) f cdv A outer s H E) (defBody st) t ∧ t { nx := fun _ H' => Q .non H', rt := Q } (L2.start N vs) H) : FnS P w K mg base (L2N.CX P w) (k + 1) f fd ps sp where
  len := len _ _ _ _
  run := by
    obtain ⟨oc, od, dV, kV, doc, pm, an, cdv, ct, osl, rfl, lk, hcd⟩ := F.ex
    intro A gd hr outer s H args us vs Q E e0 hb r hsp
    obtain ⟨t, ht, hq⟩ := hbody cdv A outer s H vs Q E rfl gd (hr.deeper _) hsp
    have inBase := fun b o (e : base.get? b = some o) => (e0.bs b o e).1
    have KX : K.In s.heap := e0.mod.kin.keeps inBase
    have slots : ∀ y ∈ ps.zip us, (defScope st).names.lookup y.1 = some .local ∨ ((defScope st).names.lookup y.1 = some .cell ∧ ((cellsFrom (s.heap.objs.size + 1) (defScope st).names []).lookup y.1).isSome = true) := by
      rintro ⟨n, v⟩ hy
      exact (S.par n (List.of_mem_zip hy).1).imp id fun q => ⟨q, PySem.W.cellsFrom_some _ _ _ (.inl q)⟩
    refine codeAny_call_function hr.depth (KX _ _ lk) rfl S.co S.gen rfl (PySem.W.codeRec_of KX hcd) (hb _ _ _ _ (wpAny_newFunctionEnv_cells S.kind slots fun env he s1 x => ?_))
    subst he
    refine ⟨(e0.mod.nolimit.keeps inBase).keeps x.toInCall.keep, codeAny_func (wpAny_mono (ht.run [] s1 (start N vs) H _ (inv_start S hr.hd e0 (len _ _ _ _ hsp) r x) hq) (fun fl s' hs => ?_) fun _ _ hs => hs)⟩
    match fl, hs with
    | .next, ⟨σ', H', J, q⟩ => exact (⟨.non, H', J.os, J.bare, J.base, J.hok, rfl, q⟩ : CE outer P w H s Q Value.none s')
    | .ret u, ⟨v, σ', H', J, rv, q⟩ => exact (⟨v, H', J.os, J.bare, J.base, J.hok, rv, q⟩ : CE outer P w H s Q u s')
    | .brk, ⟨_, _, _, q⟩ => exact q.elim
    | .cont, ⟨_, _, _, q⟩ => exact q.elim
section
variable {X : Cx} {CX : CXT} {k : Nat} {ld : LamD} {ps : List Str} {sp : Sp} {E : L2.St → XK}
theorem run_L {pins : List (Addr × Obj)} {σ : L2.St} {H : Hp} {s : Shared} {Q : VK} {us : List Value} {vs : List V} {a c' : Addr} (F : LamFn X.prog X.w X.K X.mg X.base CX k ld ps sp) (gd : Gd X.A) (hr : Room k X.A) (hx : PassesAt CX X σ (E σ))
    (I : Inv X pins σ H s) (hf : H a = some (LamO ld a c')) (hc : H c' = some (CodeO c' ld.qual)) (r : Vals vs us) (h : sp vs H Q (E σ)) : wpAny (model X.prog X.w) X.A (call (.ref a) us) (EP X pins σ Q) X.xe s := by
  refine wpAny_call (codeAny_mono (F.run gd hr I.env0 hf hc r h) fun res s' got => ?_)
  rcases cr_cases got with ⟨u, rfl, c⟩ | ⟨e, rfl, c⟩
  · exact I.after c
  · exact hx pins H s e s' I c
end
end RA

/-! Own values, own syntax (IR), an interpreter with fuel, and a checker of an IR against the given syntax. -/
namespace RA
open PySem

/-- most items, most signs -/
abbrev SZ : Nat := 16777216

/-- values: lists here never change; .ref is a cell of the store, .fro the script -/
inductive PV where
  | non
  | bl (b : Bool)
  | int (i : Int)
  | str (x : List Nat)
  | tup (l : List PV)
  | lst (l : List PV)
  | fro (l : List Int)
  | ref (n : Nat)
  | exc (c : Nat) (fs : List PV)
  | dic (ks vs : List PV)
  | fn (n : Nat)
  | cl (n : Nat)
  | obj (c : Nat) (fs : List PV)
  deriving Inhabited

mutual
/-- is it data (that == looks at) -/
def isD : PV → Bool
  | .non => true
  | .bl _ => true
  | .int _ => true
  | .str _ => true
  | .tup l => isDs l
  | .lst l => isDs l
  | _ => false
def isDs : List PV → Bool
  | [] => true
  | x :: r => isD x && isDs r
end
mutual
def dep : PV → Nat
  | .tup l => deps l + 1
  | .lst l => deps l + 1
  | _ => 0
def deps : List PV → Nat
  | [] => 0
  | x :: r => max (dep x) (deps r)
end
def b2i (b : Bool) : Int := if b then 1 else 0
mutual
def eqP : PV → PV → Bool
  | .non, b => (match b with | .non => true | _ => false)
  | .bl a, b => (match b with | .bl c => a == c | .int j => b2i a == j | _ => false)
  | .int i, b => (match b with | .bl c => i == b2i c | .int j => i == j | _ => false)
  | .str x, b => (match b with | .str y => x == y | _ => false)
  | .tup l, b => (match b with | .tup r => eqPs l r | _ => false)
  | .lst l, b => (match b with | .lst r => eqPs l r | _ => false)
  | _, _ => false
def eqPs : List PV → List PV → Bool
  | [], b => b.isEmpty
  | x :: l, b => (match b with | [] => false | y :: r => eqP x y && eqPs l r)
end
mutual
/-- the very same data -/
def sameP : PV → PV → Bool
  | .non, b => (match b with | .non => true | _ => false)
  | .bl a, b => (match b with | .bl c => a == c | _ => false)
  | .int i, b => (match b with | .int j => i == j | _ => false)
  | .str x, b => (match b with | .str y => x == y | _ => false)
  | .tup l, b => (match b with | .tup r => samePs l r | _ => false)
  | .lst l, b => (match b with | .lst r => samePs l r | _ => false)
  | _, _ => false
def samePs : List PV → List PV → Bool
  | [], b => b.isEmpty
  | x :: l, b => (match b with | [] => false | y :: r => sameP x y && samePs l r)
end
mutual
/-- data that repr shows at most so long -/
def shwL : PV → Nat
  | .str x => 10 * x.length + 2
  | .tup l => shwLs l + 3
  | .lst l => shwLs l + 2
  | _ => 6000
def shwLs : List PV → Nat
  | [] => 0
  | x :: r => shwL x + 2 + shwLs r
end
mutual
def smallI : PV → Bool
  | .int i => decide (i.natAbs.log2 < 1920)
  | .str x => x.all fun c => decide (c < 4294967296)
  | .tup l => smallIs l
  | .lst l => smallIs l
  | _ => true
def smallIs : List PV → Bool
  | [] => true
  | x :: r => smallI x && smallIs r
end
def shw (p : PV) : Bool := smallI p && Nat.ble (dep p) 60 && Nat.ble (shwL p) SZ
/-- == where it is known -/
def eqC (a b : PV) : Option Bool := if isD a && isD b && Nat.ble (min (dep a) (dep b)) 64 then some (eqP a b) else none

/-- a def's slot: not set, a value, a container of one's own -/
inductive Sl where
  | un
  | va (p : PV)
  | ow (p : PV)
  | ex (c : Nat) (fs : List PV)
  deriving Inhabited

inductive Res (α : Type) where
  | stk
  | ok (a : α) (s : List Sl) (m : List PV)
  | exc (e : PV) (s : List Sl) (m : List PV)
inductive CR where
  | stk
  | ok (p : PV) (m : List PV)
  | exc (e : PV) (m : List PV)

def Res.bnd {α β : Type} (r : Res α) (f : α → List Sl → List PV → Res β) : Res β :=
  match r with
  | .stk => .stk
  | .ok a s m => f a s m
  | .exc e s m => .exc e s m
def lift {α : Type} (o : Option α) (s : List Sl) (m : List PV) : Res α :=
  match o with
  | some a => .ok a s m
  | none => .stk

inductive O2 where | add | sub | mul | fdv | mod | pow
  deriving DecidableEq
inductive C2 where | eq | ne | lt | le | gt | ge | inn | nin
  deriving DecidableEq
inductive Ty where | int | bool | str | tup | lst
  deriving DecidableEq
inductive Bi where | len | all | any | sum1 | sum2 | min | max | list | tuple | str | abs | int | lsth
  deriving DecidableEq
inductive Mt where | join | index | split
  deriving DecidableEq

abbrev B64 : Int := 18446744073709551616
abbrev BW : Nat := 2 ^ 9000
def addP : PV → PV → Option PV
  | .int i, .int j => some (.int (i + j))
  | .str x, .str y => if x.length + y.length ≤ SZ then some (.str (x ++ y)) else none
  | .lst x, .lst y => if x.length + y.length ≤ SZ then some (.lst (x ++ y)) else none
  | .tup x, .tup y => if x.length + y.length ≤ SZ then some (.tup (x ++ y)) else none
  | _, _ => none
def small (i : Int) : Bool := decide (-B64 < i) && decide (i < B64)
def mulP : PV → PV → Option PV
  | .int i, .int j => if small i || small j then some (.int (i * j)) else if i.natAbs < BW ∧ j.natAbs < BW then some (.int (i * j)) else none
  | .str x, .int j => if x.length * j.toNat ≤ SZ ∧ -9223372036854775808 ≤ j ∧ j < 9223372036854775808 then some (.str (List.replicate j.toNat x).flatten) else none
  | .lst x, .int j => if x.length * j.toNat ≤ SZ ∧ -9223372036854775808 ≤ j ∧ j < 9223372036854775808 then some (.lst (List.replicate j.toNat x).flatten) else none
  | .tup x, .int j => if 0 < x.length ∧ 2 ≤ j ∧ j ≤ 1000 ∧ x.length ≤ 1000 then some (.tup (List.replicate j.toNat x).flatten) else if j = 1 then some (.tup x) else none
  | _, _ => none
def op2 : O2 → PV → PV → Option PV
  | .add, a, b => addP a b
  | .sub, .int i, .int j => some (.int (i - j))
  | .mul, a, b => mulP a b
  | .fdv, .int i, .int j => if 0 < j ∧ j.natAbs < BW then some (.int (i / j)) else none
  | .mod, .int i, .int j => if 0 < j then some (.int (i % j)) else none
  | .pow, .int i, .int j => if 0 ≤ j ∧ j ≤ 1000000 ∧ small i then some (.int (i ^ j.toNat)) else none
  | _, _, _ => none

/-- x op= y -/
def augP : O2 → PV → PV → Option PV
  | .add, .int i, .int j => some (.int (i + j))
  | .sub, .int i, .int j => some (.int (i - j))
  | .mul, .int i, .int j => if small i || small j then some (.int (i * j)) else none
  | .add, .str x, .str y => if x.length + y.length ≤ SZ then some (.str (x ++ y)) else none
  | _, _, _ => none

def ltS (x y : List Nat) : Bool := decide (x < y)
def inP (a b : PV) : Option Bool :=
  match b with
  | .str y => (match a with | .str [c] => some (y.contains c) | _ => none)
  | .tup l => if isD a && isDs l && Nat.ble (min (deps l) (dep a)) 64 then some (l.any fun z => eqP z a) else none
  | .lst l => if isD a && isDs l && Nat.ble (min (deps l) (dep a)) 64 then some (l.any fun z => eqP z a) else none
  | _ => none
def cmp : C2 → PV → PV → Option Bool
  | .eq, a, b => eqC a b
  | .ne, a, b => (eqC a b).map not
  | .lt, .int i, .int j => some (decide (i < j))
  | .le, .int i, .int j => some (decide (i ≤ j))
  | .gt, .int i, .int j => some (decide (j < i))
  | .ge, .int i, .int j => some (decide (j ≤ i))
  | .lt, .str x, .str y => some (ltS x y)
  | .inn, a, b => inP a b
  | .nin, a, b => (inP a b).map not
  | _, _, _ => none
def isTy : Ty → PV → Bool
  | .int, .int _ => true
  | .int, .bl _ => true
  | .bool, .bl _ => true
  | .str, .str _ => true
  | .tup, .tup _ => true
  | .lst, .lst _ => true
  | _, _ => false
def pIx (n : Nat) (i : Int) : Option Nat := if 0 ≤ i then (if i < n then some i.toNat else none) else if -(n : Int) ≤ i then some (i + n).toNat else none
def idxP : PV → PV → Option PV
  | .tup l, .int i => (pIx l.length i).bind fun j => l[j]?
  | .lst l, .int i => (pIx l.length i).bind fun j => l[j]?
  | .fro l, .int i => (pIx l.length i).bind fun j => (l[j]?).map .int
  | .str x, .int i => (pIx x.length i).bind fun j => (x[j]?).map fun c => .str [c]
  | _, _ => none
def sIx (n d : Nat) : Option Int → Nat
  | none => d
  | some i => if i < 0 then (i + (n : Int)).toNat else min i.toNat n
def cut {α : Type} (l : List α) (lo hi : Option Int) : List α := (l.drop (sIx l.length 0 lo)).take (sIx l.length l.length hi - sIx l.length 0 lo)
def sliP : PV → Option Int → Option Int → Option PV
  | .tup l, lo, hi => some (.tup (cut l lo hi))
  | .lst l, lo, hi => some (.lst (cut l lo hi))
  | .fro l, lo, hi => some (.lst ((cut l lo hi).map .int))
  | .str x, lo, hi => some (.str (cut x lo hi))
  | _, _, _ => none
def asBl : PV → Option Bool
  | .bl b => some b
  | _ => none
def pBls : List PV → Option (List Bool)
  | [] => some []
  | .bl b :: r => (pBls r).map (b :: ·)
  | _ :: _ => none
def pInts : List PV → Option (List Int)
  | [] => some []
  | .int i :: r => (pInts r).map (i :: ·)
  | _ :: _ => none
def pStrs : List PV → Option (List (List Nat))
  | [] => some []
  | .str x :: r => (pStrs r).map (x :: ·)
  | _ :: _ => none
def pLsts : List PV → Option (List (List PV))
  | [] => some []
  | .lst x :: r => (pLsts r).map (x :: ·)
  | _ :: _ => none
def minI : Int → List Int → Int
  | a, [] => a
  | a, b :: r => minI (if b < a then b else a) r
def maxI : Int → List Int → Int
  | a, [] => a
  | a, b :: r => maxI (if a < b then b else a) r
/-- joined texts -/
def joinS (s : List Nat) : List (List Nat) → List Nat
  | [] => []
  | [x] => x
  | x :: y :: r => x ++ (s ++ joinS s (y :: r))
/-- the figures of a number in base 10, by their signs -/
def decN : Nat → Nat → List Nat
  | 0, _ => []
  | f + 1, n => if n < 10 then [48 + n] else decN f (n / 10) ++ [48 + n % 10]
/-- the worth of figures -/
def dgs : Nat → List Nat → Option Nat
  | n, [] => some n
  | n, d :: r => if Nat.ble 48 d && Nat.ble d 57 then dgs (n * 10 + (d - 48)) r else none
/-- the number of a text: figures, or a minus and figures -/
def dec1 : List Nat → Option Int
  | [] => none
  | c :: r => if c == 45 then (if r.isEmpty then none else (dgs 0 r).map fun (n : Nat) => -(Int.ofNat n)) else (dgs 0 (c :: r)).map Int.ofNat
def decI (t : List Nat) : Option Int := if Nat.ble t.length 600 then dec1 t else none
def bi : Bi → List PV → Option PV
  | .len, [.tup l] => some (.int l.length)
  | .len, [.lst l] => some (.int l.length)
  | .len, [.fro l] => some (.int l.length)
  | .len, [.str l] => some (.int l.length)
  | .all, [.lst l] => (pBls l).map fun bs => .bl (bs.all id)
  | .any, [.lst l] => (pBls l).map fun bs => .bl (bs.any id)
  | .sum1, [.lst l] => (pInts l).map fun ns => .int ns.sum
  | .sum2, [.lst l, .lst []] => (pLsts l).bind fun ls => if ls.flatten.length ≤ SZ then some (.lst ls.flatten) else none
  | .min, [.lst l] => (pInts l).bind fun ns => (match ns with | [] => none | a :: r => some (.int (minI a r)))
  | .max, [.lst l] => (pInts l).bind fun ns => (match ns with | [] => none | a :: r => some (.int (maxI a r)))
  | .list, [.lst l] => some (.lst l)
  | .list, [.tup l] => some (.lst l)
  | .list, [.str x] => some (.lst (x.map fun c => .str [c]))
  | .lsth, [.lst l] => some (.lst l)
  | .lsth, [.tup l] => some (.lst l)
  | .tuple, [.lst l] => some (.tup l)
  | .tuple, [.tup l] => some (.tup l)
  | .str, [.int i] => if 0 ≤ i ∧ i.toNat < 10 ^ 200 then some (.str (decN 200 i.toNat)) else none
  | .abs, [.int i] => some (.int (if i < 0 then -i else i))
  | .int, [.int i] => some (.int i)
  | .int, [.bl b] => some (.int (b2i b))
  | .int, [.str t] => (decI t).map .int
  | _, _ => none
/-- the parts between one sign -/
def splG (c : Nat) : List Nat → List Nat → List (List Nat)
  | acc, [] => [acc]
  | acc, d :: r => if d == c then acc :: splG c [] r else splG c (acc ++ [d]) r
def mt : Mt → PV → List PV → Option PV
  | .join, .str s, [.lst l] => (pStrs l).bind fun xs => if (xs.map List.length).sum + xs.length * s.length ≤ SZ then some (.str (joinS s xs)) else none
  | .join, .str s, [.tup l] => (pStrs l).bind fun xs => if (xs.map List.length).sum + xs.length * s.length ≤ SZ then some (.str (joinS s xs)) else none
  | .index, .str s, [.str [c]] => (s.findIdx? (· == c)).map fun (j : Nat) => .int j
  | .split, .str s, [.str [c]] => if decide (c < 256) && Nat.ble (s.length + 2) SZ then some (.lst ((splG c [] s).map .str)) else none
  | _, _, _ => none
/-- is it a receiver of the method -/
def recv : Mt → PV → Bool
  | .join, .str _ => true
  | .index, .str _ => true
  | .split, .str _ => true
  | _, _ => false
def rng (lo hi : Int) : Option (List PV) := if (hi - lo).toNat ≤ SZ ∧ -4611686018427387904 ≤ lo ∧ lo < 4611686018427387904 ∧ -4611686018427387904 ≤ hi ∧ hi < 4611686018427387904 then some ((List.range (hi - lo).toNat).map fun (i : Nat) => PV.int (lo + (i : Int))) else none
def items : PV → Option (List PV)
  | .tup l => some l
  | .lst l => some l
  | .str x => some (x.map fun c => .str [c])
  | _ => none
def enum (i : Nat) : List PV → List PV
  | [] => []
  | x :: r => .tup [.int i, x] :: enum (i + 1) r
def zipP : List PV → List PV → List PV
  | x :: l, y :: r => .tup [x, y] :: zipP l r
  | _, _ => []

/-- a value in a dict of texts -/
def getD : List PV → List PV → List Nat → Option (Option PV)
  | [], vs, _ => (match vs with | [] => some none | _ => none)
  | k :: ks, vs, t => (match vs with | v :: vs => (match k with | .str x => if x == t then some (some v) else getD ks vs t | _ => none) | [] => none)
def hasD (ks : List PV) (t : List Nat) : Bool := ks.any fun k => match k with | .str x => x == t | _ => false
/-- a dict of texts from pairs: no key twice -/
def mkG : List (PV × PV) → List PV → Bool
  | [], _ => true
  | (k, _) :: r, seen => (match k with | .str t => !(hasD seen t) && mkG r (.str t :: seen) | _ => false)
def mkD (l : List (PV × PV)) : Option PV := if mkG l [] && Nat.ble l.length 15 then some (.dic (l.map (·.1)) (l.map (·.2))) else none
def prs : List PV → Option (List (PV × PV))
  | [] => some []
  | k :: r => (match r with | v :: r => (prs r).map ((k, v) :: ·) | [] => none)
def pPairs : List PV → Option (List (PV × PV))
  | [] => some []
  | p :: r => (match p with | .tup [k, v] => (pPairs r).map ((k, v) :: ·) | _ => none)
/-- keys of a dict of one's own: tuples of ints and texts -/
def keyB : PV → Bool
  | .int _ => true
  | .str _ => true
  | _ => false
def inK (c x : PV) : Option Bool := match c with
  | .dic ks [] => (match x with | .tup l => if l.all keyB then some (ks.any fun z => eqP z x) else none | _ => none)
  | _ => none
def putDK (c x : PV) : Option PV := match c with
  | .dic ks [] => (match x with | .tup l => if l.all keyB && Nat.blt ks.length SZ then some (.dic (if ks.any fun z => eqP z x then ks else ks ++ [x]) []) else none | _ => none)
  | _ => none
mutual
inductive Tg where
  | nm (i : Nat)
  | tp (ts : Tgs)
inductive Tgs where
  | nil
  | cons (t : Tg) (ts : Tgs)
end
def setS (s : List Sl) (i : Nat) (p : PV) : List Sl := s.set i (.va p)
mutual
def asg : Tg → PV → List Sl → Option (List Sl)
  | .nm i, p, s => some (setS s i p)
  | .tp ts, p, s => (match p with | .tup l => asgs ts l s | _ => none)
def asgs : Tgs → List PV → List Sl → Option (List Sl)
  | .nil, l, s => (match l with | [] => some s | _ => none)
  | .cons t ts, l, s => (match l with | x :: r => (asg t x s).bind fun s => asgs ts r s | [] => none)
end

mutual
inductive Ex where
  | non
  | bl (b : Bool)
  | int (i : Int)
  | str (x : List Nat)
  | loc (i : Nat)
  | glo (g : Nat)
  | tup (es : Exs)
  | lst (es : Exs)
  | op (o : O2) (a b : Ex)
  | neg (a : Ex)
  | and (a b : Ex)
  | or (a b : Ex)
  | nt (a : Ex)
  | cmp (o : C2) (a b : Ex)
  | chn (o o' : C2) (a b c : Ex)
  | isn (neg : Bool) (a : Ex)
  | isi (t : Ty) (a : Ex)
  | ife (t : Tt) (a b : Ex)
  | idx (a b : Ex)
  | sli (a : Ex) (lo hi : Oe)
  | call (f : Nat) (es : Exs)
  | cld (f : Nat) (es : Exs) (ds : List Int)
  | cfr (f : Nat) (es : Exs)
  | bi (b : Bi) (es : Exs)
  | mt (m : Mt) (a : Ex) (es : Exs)
  | lc (own : List Nat) (elt : Ex) (tg : Tg) (it : It) (ifs : Tts)
  | lrg (it : It)
  | dcd (kvs : Exs)
  | dix (d k : Ex)
  | dof (e : Ex)
  | dgt (d k x : Ex)
  | rev (e : Ex)
  | stk
  | fnv (f : Nat)
  | clv (i : Nat) (es : Exs)
  | tst (bs : List Bool) (es : Exs)
  | new (c f : Nat) (es : Exs)
  | att (c x : Nat) (a : Ex)
  | mth (c f : Nat) (a : Ex) (es : Exs)
  | exf (i c x : Nat)
  | lsc (e : Ex)
  | pop (a : Ex)
  | rpe (a b : Ex)
  | lam (k f : Nat)
  | bmt (c f : Nat) (a : Ex)
  | oem (neg : Bool) (i : Nat)
  | lsx (bs : List Bool) (es : Exs)
  | din (neg : Bool) (a b : Ex)
  | xnw (c : Nat) (ks : List Bool) (es : Exs)
  | xat (tb : List (Nat × Nat)) (a : Ex)
  | xis (k : Nat) (tb : List (Nat × Bool)) (a : Ex)
  | xie (i k : Nat) (tb : List (Nat × Bool))
inductive It where
  | val (e : Ex)
  | rg1 (e : Ex)
  | rg2 (a b : Ex)
  | enu (e : Ex)
  | enk (k : Nat) (e : Ex)
  | zip (a b : Ex)
inductive Exs where
  | nil
  | cons (e : Ex) (es : Exs)
inductive Tt where
  | v (e : Ex)
  | all (ts : Tts)
  | any (ts : Tts)
  | nt (t : Tt)
inductive Tts where
  | nil
  | cons (t : Tt) (ts : Tts)
inductive Oe where
  | no
  | so (e : Ex)
end
mutual
inductive Sm where
  | asg (i : Nat) (e : Ex)
  | cell (i : Nat) (es : Exs)
  | own (i : Nat) (es : Exs)
  | ast (tg : Tg) (e : Ex)
  | par (i j : Nat) (a b : Ex)
  | par3 (i j k : Nat) (a b c : Ex)
  | aug (i : Nat) (o : O2) (e : Ex)
  | stc (a k v : Ex)
  | ift (t : Tt) (a b : Sms)
  | whl (t : Tt) (b : Sms)
  | for (tg : Tg) (it : It) (b : Sms)
  | ret (e : Ex)
  | exp (e : Ex)
  | pas
  | brk
  | cnt
  | mat (e : Ex) (cs : Mcs)
  | rai (c : Nat) (ks : List Bool) (es : Exs)
  | try (b : Sms) (c : Nat) (i : Option Nat) (h : Sms)
  | app (i : Nat) (e : Ex)
  | sat (c x : Nat) (a v : Ex)
  | aat (c x : Nat) (a : Ex) (o : O2) (v : Ex)
  | exd (i : Nat) (e : Ex)
  | pow (i j : Nat) (k : Int)
  | dst (a k : Ex)
  | owd (i j : Nat)
  | owl (i : Nat) (e : Ex)
  | owe (i j : Nat) (e : Ex)
  | asl (i : Nat) (own : List Nat) (elt : Ex) (tg : Tg) (it : It) (ifs : Tts)
  | stk
  | frz (i : Nat)
inductive Sms where
  | nil
  | cons (s : Sm) (r : Sms)
inductive Mcs where
  | nil
  | cons (ks : List (List Nat)) (b : Sms) (r : Mcs)
end
structure Fn where
  np : Nat
  ns : Nat
  body : Sms

inductive Fl where
  | nx
  | rt (p : PV)
  | bk
  | ct

/-- what the arguments of an exception must be: true a number that is shown -/
def okX : List Bool → List PV → Bool
  | [], l => l.isEmpty
  | b :: bs, l => (match l with
    | x :: r => (if b then (match x with | .int i => decide (0 ≤ i) && decide (i.toNat < 10 ^ 200) | _ => false) else true) && okX bs r
    | [] => false)
mutual
/-- no cell at or behind n is spoken of -/
def rbd (n : Nat) : PV → Bool
  | .ref i => Nat.blt i n
  | .tup l => rbds n l
  | .lst l => rbds n l
  | .exc _ l => rbds n l
  | .dic ks vs => rbds n ks && rbds n vs
  | .obj _ l => rbds n l
  | _ => true
def rbds (n : Nat) : List PV → Bool
  | [] => true
  | x :: r => rbd n x && rbds n r
end
def plainS : List Sl → Bool
  | [] => true
  | x :: r => (match x with | .un => true | .va _ => true | _ => false) && plainS r
/-- read a name: a container of one's own is one's own no more -/
def getS (s : List Sl) (i : Nat) (m : List PV) : Res PV :=
  match s[i]? with
  | some (.va p) => .ok p s m
  | some (.ow p) => .ok p (s.set i (.va p)) m
  | _ => .stk
def wipe (s : List Sl) : List Nat → List Sl
  | [] => s
  | v :: vs => (wipe s vs).set v .un
def rest (s0 s : List Sl) : List Nat → List Sl
  | [] => s
  | v :: vs => (rest s0 s vs).set v (match s0[v]? with | some (.va p) => .va p | _ => .un)
/-- a comprehension's turns -/
def lcL (g : PV → List Sl → List PV → Res (Option PV)) : List PV → List Sl → List PV → Res (List PV)
  | [], s, m => .ok [] s m
  | x :: r, s, m => (g x s m).bnd fun o s m => (lcL g r s m).bnd fun ys s m => .ok (match o with | some y => y :: ys | none => ys) s m
def forL (b : PV → List Sl → List PV → Res Fl) : List PV → List Sl → List PV → Res Fl
  | [], s, m => .ok .nx s m
  | x :: r, s, m => (b x s m).bnd fun f s m =>
    match f with
    | .nx => forL b r s m
    | .ct => forL b r s m
    | .bk => .ok .nx s m
    | .rt p => .ok (.rt p) s m
def whlN (t : List Sl → List PV → Res Bool) (b : List Sl → List PV → Res Fl) : Nat → List Sl → List PV → Res Fl
  | 0, _, _ => .stk
  | n + 1, s, m => (t s m).bnd fun c s m =>
    if c then (b s m).bnd fun f s m =>
      match f with
      | .nx => whlN t b n s m
      | .ct => whlN t b n s m
      | .bk => .ok .nx s m
      | .rt p => .ok (.rt p) s m
    else .ok .nx s m
/-- what an exception leaves of the slots where it comes out of a comprehension -/
def Res.unx {α : Type} : Res α → Res α
  | .exc e s m => .exc e (s.map fun _ => .un) m
  | r => r
/-- what a comprehension's element raises is not served -/
def Res.nox {α : Type} : Res α → Res α
  | .exc _ _ _ => .stk
  | r => r

section
variable (G : List PV) (cf : Nat → List PV → List PV → CR)
mutual
def ev : Ex → List Sl → List PV → Res PV
  | .non, s, m => .ok .non s m
  | .bl b, s, m => .ok (.bl b) s m
  | .int i, s, m => .ok (.int i) s m
  | .str x, s, m => .ok (.str x) s m
  | .loc i, s, m => getS s i m
  | .glo g, s, m => lift G[g]? s m
  | .tup es, s, m => (evs es s m).bnd fun l s m => .ok (.tup l) s m
  | .lst es, s, m => (evs es s m).bnd fun l s m => .ok (.lst l) s m
  | .op o a b, s, m => (ev a s m).bnd fun x s m => (ev b s m).bnd fun y s m => lift (op2 o x y) s m
  | .neg a, s, m => (ev a s m).bnd fun x s m => lift (match x with | .int i => some (.int (-i)) | _ => none) s m
  | .and a b, s, m => (ev a s m).bnd fun x s m => (match x with | .bl true => ev b s m | .bl false => .ok (.bl false) s m | _ => .stk)
  | .or a b, s, m => (ev a s m).bnd fun x s m => (match x with | .bl false => ev b s m | .bl true => .ok (.bl true) s m | _ => .stk)
  | .nt a, s, m => (ev a s m).bnd fun x s m => lift ((asBl x).map fun b => .bl !b) s m
  | .cmp o a b, s, m => (ev a s m).bnd fun x s m => (ev b s m).bnd fun y s m => lift ((cmp o x y).map .bl) s m
  | .chn o o' a b c, s, m => (ev a s m).bnd fun x s m => (ev b s m).bnd fun y s m => (lift (cmp o x y) s m).bnd fun k s m =>
    if k then (ev c s m).bnd fun z s m => lift ((cmp o' y z).map .bl) s m else .ok (.bl false) s m
  | .isn n a, s, m => (ev a s m).bnd fun x s m => .ok (.bl ((match x with | .non => true | _ => false) != n)) s m
  | .isi t a, s, m => (ev a s m).bnd fun x s m => if isD x then .ok (.bl (isTy t x)) s m else .stk
  | .ife t a b, s, m => (evt t s m).bnd fun c s m => if c then ev a s m else ev b s m
  | .idx a b, s, m => (ev a s m).bnd fun x s m => (ev b s m).bnd fun y s m => lift (match x with | .ref n => (m[n]?).bind fun c => idxP c y | _ => idxP x y) s m
  | .sli a lo hi, s, m => (ev a s m).bnd fun x s m => (evo lo s m).bnd fun l s m => (evo hi s m).bnd fun h s m => lift (sliP x l h) s m
  | .call f es, s, m => (evs es s m).bnd fun l s m => (match cf f l m with | .stk => .stk | .ok p m => .ok p s m | .exc e m => .exc e s m)
  | .cfr f es, s, m => (evs es s m).bnd fun l s m => (match cf f l m with | .stk => .stk | .ok p m' => if plainS s && isD p && rbds m.length (m'.take m.length) then .ok p s (m'.take m.length) else .stk | .exc e m' => .exc e s m')
  | .cld f es ds, s, m => (evs es s m).bnd fun l s m => (match cf f (l ++ ds.map .int) m with | .stk => .stk | .ok p m => .ok p s m | .exc e m => .exc e s m)
  | .bi b es, s, m => (evs es s m).bnd fun l s m => lift (bi b l) s m
  | .mt k a es, s, m => (ev a s m).bnd fun x s m => if recv k x then (evs es s m).bnd fun l s m => lift (mt k x l) s m else .stk
  | .lc own elt tg it ifs, s, m => (evi it s m).bnd fun xs s m => if Nat.ble xs.length SZ then
    ((lcL (fun x s1 m => (lift (asg tg x s1) s1 m).bnd fun s2 _ m => (evall ifs s2 m).bnd fun c s3 m => if c then (ev elt s3 m).bnd fun y s4 m => .ok (some y) (wipe s4 own) m else .ok none (wipe s3 own) m) xs (wipe s own) m).nox).bnd fun ys s1 m =>
      .ok (.lst ys) (rest s s1 own) m else .stk
  | .lrg it, s, m => (evi it s m).bnd fun xs s m => .ok (.lst xs) s m
  | .dcd kvs, s, m => (evs kvs s m).bnd fun l s m => lift ((prs l).bind mkD) s m
  | .dix d k, s, m => (ev d s m).bnd fun y s m => (ev k s m).bnd fun z s m => lift (match y, z with | .dic ks vs, .str t => (getD ks vs t).bind fun o => o | _, _ => none) s m
  | .dof e, s, m => (ev e s m).bnd fun x s m => lift (match x with | .tup l => (pPairs l).bind mkD | _ => none) s m
  | .dgt d k x, s, m => (ev d s m).bnd fun y s m => (match y with
    | .dic ks vs => (ev k s m).bnd fun z s m => (ev x s m).bnd fun w s m => lift (match z with | .str t => (getD ks vs t).map fun o => o.getD w | _ => none) s m
    | _ => .stk)
  | .rev e, s, m => (ev e s m).bnd fun x s m => lift (match x with | .str t => some (.str t.reverse) | _ => none) s m
  | .stk, _, _ => .stk
  | .fnv f, s, m => .ok (.fn f) s m
  | .clv i es, s, m => (match s[i]? with
    | some (.va (.fn f)) => (evs es s m).bnd fun l s m => (match cf f l m with | .stk => .stk | .ok p m => .ok p s m | .exc e m => .exc e s m)
    | some (.va (.obj f cs)) => (evs es s m).bnd fun l s m => (match cf f (cs ++ l) m with | .stk => .stk | .ok p m => .ok p s m | .exc e m => .exc e s m)
    | _ => .stk)
  | .lam k f, s, m => lift (match m[k]? with | some (.cl j) => if j == k then some (.obj f []) else none | _ => none) s m
  | .bmt c f a, s, m => (ev a s m).bnd fun v s m => lift (match v with
    | .ref n => (match m[n]? with
      | some (.obj c' _) => if c' == c then some (.obj f [.ref n]) else none
      | _ => none)
    | _ => none) s m
  | .oem neg i, s, m => lift (match s[i]? with | some (.ow (.lst l)) => some (.bl (l.isEmpty != neg)) | _ => none) s m
  | .tst bs es, s, m => (evst es bs s m).bnd fun l s m => if l.length ≤ SZ then .ok (.tup l) s m else .stk
  | .new c f es, s, m => (evs es s m).bnd fun l s m => (match cf f (.ref m.length :: l) (m ++ [.obj c []]) with | .stk => .stk | .ok .non m1 => .ok (.ref m.length) s m1 | .ok _ _ => .stk | .exc e m1 => .exc e s m1)
  | .att c x a, s, m => (ev a s m).bnd fun v s m => lift (match v with
    | .ref n => (match m[n]? with
      | some (.obj c' fs) => if c' == c then fs[x]? else none
      | _ => none)
    | _ => none) s m
  | .mth c f a es, s, m => (ev a s m).bnd fun v s m => (match v with
    | .ref n => (match m[n]? with
      | some (.obj c' _) => if c' == c then (evs es s m).bnd fun l s m => (match cf f (.ref n :: l) m with | .stk => .stk | .ok p m => .ok p s m | .exc e m => .exc e s m) else .stk
      | _ => .stk)
    | _ => .stk)
  | .exf i c x, s, m => (match s[i]? with
    | some (.ex c' fs) => if c' == c then lift fs[x]? s m else .stk
    | _ => .stk)
  | .lsc e, s, m => (ev e s m).bnd fun v s m => (match v with
    | .tup l => .ok (.ref m.length) s (m ++ [.lst l])
    | .lst l => .ok (.ref m.length) s (m ++ [.lst l])
    | _ => .stk)
  | .pop a, s, m => (ev a s m).bnd fun v s m => (match v with
    | .ref n => (match m[n]? with
      | some (.lst (x :: r)) => .ok x s (m.set n (.lst r))
      | _ => .stk)
    | _ => .stk)
  | .xnw c ks es, s, m => (evs es s m).bnd fun l s m => if okX ks l then .ok (.exc c l.reverse) s m else .stk
  | .xat tb a, s, m => (ev a s m).bnd fun v s m => lift (match v with
    | .exc c fs => (tb.lookup c).bind fun x => fs[x]?
    | _ => none) s m
  | .xis _ tb a, s, m => (ev a s m).bnd fun v s m => lift (match v with
    | .exc c _ => (tb.lookup c).map .bl
    | _ => none) s m
  | .xie i _ tb, s, m => (match s[i]? with
    | some (.ex c _) => lift ((tb.lookup c).map .bl) s m
    | _ => .stk)
  | .lsx bs es, s, m => (evst es bs s m).bnd fun l s m => if l.length ≤ SZ then .ok (.lst l) s m else .stk
  | .din neg a b, s, m => (ev a s m).bnd fun x s m => (ev b s m).bnd fun y s m => lift (match y with | .ref n => (m[n]?).bind fun c => (inK c x).map fun z => .bl (z != neg) | _ => none) s m
  | .rpe a b, s, m => (ev a s m).bnd fun x s m => if isD x && shw x then (ev b s m).bnd fun y s m => lift (if isD y && sameP x y then some (.bl true) else none) s m else .stk
def evi : It → List Sl → List PV → Res (List PV)
  | .val e, s, m => (ev e s m).bnd fun x s m => lift (items x) s m
  | .rg1 e, s, m => (ev e s m).bnd fun x s m => lift (match x with | .int j => rng 0 j | _ => none) s m
  | .rg2 a b, s, m => (ev a s m).bnd fun x s m => (ev b s m).bnd fun y s m => lift (match x, y with | .int i, .int j => rng i j | _, _ => none) s m
  | .enu e, s, m => (ev e s m).bnd fun x s m => lift ((items x).map (enum 0)) s m
  | .enk k e, s, m => (ev e s m).bnd fun x s m => lift ((items x).map (enum k)) s m
  | .zip a b, s, m => (ev a s m).bnd fun x s m => (ev b s m).bnd fun y s m => lift ((items x).bind fun l => (items y).map fun r => zipP l r) s m
def evs : Exs → List Sl → List PV → Res (List PV)
  | .nil, s, m => .ok [] s m
  | .cons e es, s, m => (ev e s m).bnd fun x s m => (evs es s m).bnd fun l s m => .ok (x :: l) s m
/-- items beside each other, some with a star -/
def evst : Exs → List Bool → List Sl → List PV → Res (List PV)
  | .nil, bs, s, m => (match bs with | [] => .ok [] s m | _ :: _ => .stk)
  | .cons e es, bs, s, m => (match bs with
    | [] => .stk
    | b :: bs => (ev e s m).bnd fun x s m => (match b with
      | false => (evst es bs s m).bnd fun l s m => .ok (x :: l) s m
      | true => (match x with
        | .tup y => (evst es bs s m).bnd fun l s m => .ok (y ++ l) s m
        | .lst y => (evst es bs s m).bnd fun l s m => .ok (y ++ l) s m
        | _ => .stk)))
def evt : Tt → List Sl → List PV → Res Bool
  | .v e, s, m => (ev e s m).bnd fun x s m => lift (asBl x) s m
  | .all ts, s, m => evall ts s m
  | .any ts, s, m => evany ts s m
  | .nt t, s, m => (evt t s m).bnd fun c s m => .ok (!c) s m
def evall : Tts → List Sl → List PV → Res Bool
  | .nil, s, m => .ok true s m
  | .cons t ts, s, m => (evt t s m).bnd fun c s m => if c then evall ts s m else .ok false s m
def evany : Tts → List Sl → List PV → Res Bool
  | .nil, s, m => .ok false s m
  | .cons t ts, s, m => (evt t s m).bnd fun c s m => if c then .ok true s m else evany ts s m
def evo : Oe → List Sl → List PV → Res (Option Int)
  | .no, s, m => .ok none s m
  | .so e, s, m => (ev e s m).bnd fun x s m => lift (match x with | .int i => some (some i) | _ => none) s m
end

/-- of a while's turns -/
abbrev WF : Nat := 1000000
mutual
def xs : Sm → List Sl → List PV → Res Fl
  | .asg i e, s, m => (ev G cf e s m).bnd fun x s m => .ok .nx (setS s i x) m
  | .cell i es, s, m => (evs G cf es s m).bnd fun l s m => .ok .nx (setS s i (.ref m.length)) (m ++ [.lst l])
  | .own i es, s, m => (evs G cf es s m).bnd fun l s m => .ok .nx (s.set i (.ow (.lst l))) m
  | .ast tg e, s, m => (ev G cf e s m).bnd fun x s m => (lift (asg tg x s) s m).bnd fun s' _ m => .ok .nx s' m
  | .par i j a b, s, m => (ev G cf a s m).bnd fun x s m => (ev G cf b s m).bnd fun y s m => .ok .nx (setS (setS s i x) j y) m
  | .par3 i j k a b c, s, m => (ev G cf a s m).bnd fun x s m => (ev G cf b s m).bnd fun y s m => (ev G cf c s m).bnd fun z s m => .ok .nx (setS (setS (setS s i x) j y) k z) m
  | .aug i o e, s, m => (getS s i m).bnd fun x s m => (ev G cf e s m).bnd fun y s m => (lift (augP o x y) s m).bnd fun z s m => .ok .nx (setS s i z) m
  | .stc a k v, s, m => (ev G cf v s m).bnd fun z s m => (ev G cf a s m).bnd fun x s m => (ev G cf k s m).bnd fun y s m => (match x, y with
    | .ref n, .int i => (match m[n]? with
      | some (.lst l) => (match pIx l.length i with
        | some j => .ok .nx s (m.set n (.lst (l.set j z)))
        | none => .stk)
      | _ => .stk)
    | _, _ => .stk)
  | .ift t a b, s, m => (evt G cf t s m).bnd fun c s m => if c then xss a s m else xss b s m
  | .whl t b, s, m => whlN (fun s m => evt G cf t s m) (fun s m => xss b s m) WF s m
  | .for tg it b, s, m => (evi G cf it s m).bnd fun l s m => forL (fun x s m => (lift (asg tg x s) s m).bnd fun s' _ m => xss b s' m) l s m
  | .ret e, s, m => (ev G cf e s m).bnd fun x s m => .ok (.rt x) s m
  | .exp e, s, m => (ev G cf e s m).bnd fun _ s m => .ok .nx s m
  | .pas, s, m => .ok .nx s m
  | .brk, s, m => .ok .bk s m
  | .cnt, s, m => .ok .ct s m
  | .mat e cs, s, m => (ev G cf e s m).bnd fun x s m => (match x with
    | .str z => xm cs z s m
    | _ => .stk)
  | .rai c ks es, s, m => (evs G cf es s m).bnd fun l s m => if okX ks l then .exc (.exc c l.reverse) s m else .stk
  | .try b c i h, s, m => (match xss b s m with
    | .exc (.exc c' fs) s m => if c' == c then (match i with
        | some i => (xss h (s.set i (.ex c' fs)) m).nox.bnd fun f s m => .ok f (s.set i .un) m
        | none => (xss h s m).nox) else .exc (.exc c' fs) s m
    | r => r)
  | .app i e, s, m => (match s[i]? with
    | some (.ow (.lst _)) => (ev G cf e s m).bnd fun x s m => (match s[i]? with
      | some (.ow (.lst l)) => if Nat.blt l.length SZ then .ok .nx (s.set i (.ow (.lst (l ++ [x])))) m else .stk
      | _ => .stk)
    | _ => .stk)
  | .frz i, s, m => (getS s i m).bnd fun _ s m => .ok .nx s m
  | .sat c x a v, s, m => (ev G cf v s m).bnd fun z s m => (ev G cf a s m).bnd fun y s m => (match y with
    | .ref n => (match m[n]? with
      | some (.obj c' fs) => if c' == c then (if x < fs.length then .ok .nx s (m.set n (.obj c (fs.set x z))) else if x = fs.length then .ok .nx s (m.set n (.obj c (fs ++ [z]))) else .stk) else .stk
      | _ => .stk)
    | _ => .stk)
  | .aat c x a o v, s, m => (ev G cf a s m).bnd fun y s m => (match y with
    | .ref n => (match m[n]? with
      | some (.obj c' fs) => if c' == c then (match fs[x]? with
        | some z0 => (ev G cf v s m).bnd fun z s m => (match m[n]? with
          | some (.obj c2 fs2) => if c2 == c && x < fs2.length then (lift (augP o z0 z) s m).bnd fun u s m => .ok .nx s (m.set n (.obj c (fs2.set x u))) else .stk
          | _ => .stk)
        | none => .stk) else .stk
      | _ => .stk)
    | _ => .stk)
  | .exd i e, s, m => (match s[i]? with
    | some (.ow (.lst _)) => (ev G cf e s m).bnd fun x s m => (match s[i]? with
      | some (.ow (.lst l)) => (match x with
        | .lst y => if l.length + y.length ≤ SZ then .ok .nx (s.set i (.ow (.lst (l ++ y)))) m else .stk
        | _ => .stk)
      | _ => .stk)
    | _ => .stk)
  | .pow i j k, s, m => .ok .nx (setS (s.set i (.ow (.lst []))) j (.int k)) m
  | .dst a k, s, m => (ev G cf a s m).bnd fun x s m => (ev G cf k s m).bnd fun y s m => (match x with
    | .ref n => (match (m[n]?).bind fun c => putDK c y with
      | some c => .ok .nx s (m.set n c)
      | none => .stk)
    | _ => .stk)
  | .owl i e, s, m => (ev G cf e s m).bnd fun x s m => (match x with
    | .str t => .ok .nx (s.set i (.ow (.lst (t.map fun c => .str [c])))) m
    | _ => .stk)
  | .owe i j e, s, m => (ev G cf e s m).bnd fun y s m => .ok .nx (setS (s.set i (.ow (.lst []))) j y) m
  | .asl i own elt tg it ifs, s, m => (evi G cf it s m).bnd fun xs s m => if Nat.ble xs.length SZ then
    ((lcL (fun x s1 m => (lift (asg tg x s1) s1 m).bnd fun s2 _ m => (evall G cf ifs s2 m).nox.bnd fun c s3 m => if c then (ev G cf elt s3 m).bnd fun y s4 m => .ok (some y) (wipe s4 own) m else .ok none (wipe s3 own) m) xs (wipe s own) m).unx).bnd fun ys s1 m =>
      .ok .nx (setS (rest s s1 own) i (.lst ys)) m else .stk
  | .owd i j, s, m => .ok .nx (setS (s.set i (.ow (.lst []))) j (.ref m.length)) (m ++ [.dic [] []])
  | .stk, _, _ => .stk
def xss : Sms → List Sl → List PV → Res Fl
  | .nil, s, m => .ok .nx s m
  | .cons c r, s, m => (xs c s m).bnd fun f s m => (match f with
    | .nx => xss r s m
    | f => .ok f s m)
def xm : Mcs → List Nat → List Sl → List PV → Res Fl
  | .nil, _, s, m => .ok .nx s m
  | .cons ks b r, z, s, m => if ks.contains z then xss b s m else xm r z s m
end
end

/-- a call, so many calls deep at most -/
def callN (G : List PV) (F : List Fn) : Nat → Nat → List PV → List PV → CR
  | 0, _, _, _ => .stk
  | k + 1, f, as, m => match F[f]? with
    | none => .stk
    | some fn => if as.length == fn.np then (match xss G (callN G F k) fn.body (as.map .va ++ List.replicate (fn.ns - fn.np) .un) m with
      | .ok (.rt p) _ m => .ok p m
      | .ok .nx _ m => .ok .non m
      | .exc e _ m => .exc e m
      | _ => .stk) else .stk
end RA

/-! How own values lie in the abstract heap, how worlds grow, what a result wishes for. -/
namespace RA
open PySem L2

def KT (K : PySem.W.Frag) (a : Addr) (xs : List V) : Prop := ∃ (o : Obj) (its : Array Value) (n : Nat), K.lookup a = some o ∧ o.cls = .type "tuple" ∧ o.dict = none ∧ o.data = .seq its n ∧ its.size ≤ sizeLine ∧ Vals xs its.toList
def KL (K : PySem.W.Frag) (a : Addr) (xs : List V) : Prop := ∃ (o : Obj) (its : Array Value) (n : Nat), K.lookup a = some o ∧ o.cls = .type "list" ∧ o.dict = none ∧ o.data = .seq its n ∧ its.size ≤ sizeLine ∧ Vals xs its.toList

/-- a world: the abstract heap, the cells, what may be written here, what may be written at all, the exceptions that are held -/
structure Wd where
  H : Hp
  m : List Addr
  wr : Addr → Prop
  mb : Addr → Prop
  xs : List (Addr × Nat × Addr)

structure WOk (w : Wd) : Prop where
  sub : ∀ a, w.wr a → w.mb a
  mtr : ∀ a, w.mb a → w.H a ≠ none

structure Ext (w w' : Wd) : Prop where
  pre : ∀ (n : Nat) a, w.m[n]? = some a → w'.m[n]? = some a
  keep : ∀ a o, w.H a = some o → ¬ w.wr a → w'.H a = some o
  trk : ∀ a, w.H a ≠ none → w'.H a ≠ none
  mt : ∀ a, w'.mb a → w.mb a ∨ w.H a = none
  mkp : ∀ a, w.mb a → ¬ w.wr a → w'.mb a
  ws : ∀ a, w'.wr a → w.wr a ∨ w.H a = none
  xs : w'.xs = w.xs

theorem Ext.refl (w : Wd) : Ext w w := ⟨fun _ _ h => h, fun _ _ h _ => h, fun _ h => h, fun _ h => .inl h, fun _ h _ => h, fun _ h => .inl h, rfl⟩
theorem Ext.trans {a b c : Wd} (ok : WOk a) (e : Ext a b) (f : Ext b c) : Ext a c where
  pre := fun n x h => f.pre n x (e.pre n x h)
  keep := fun x o h hw => f.keep x o (e.keep x o h hw) fun z => (e.ws x z).elim hw fun q => by rw [q] at h; cases h
  trk := fun x h => f.trk x (e.trk x h)
  mt := fun x h => by
    rcases f.mt x h with z | z
    · exact e.mt x z
    · by_cases q : a.H x = none
      · exact .inr q
      · exact absurd z (e.trk x q)
  mkp := fun x h hw => f.mkp x (e.mkp x h hw) fun z => (e.ws x z).elim hw fun q => ok.mtr x h q
  ws := fun x h => by
    rcases f.ws x h with z | z
    · exact e.ws x z
    · by_cases q : a.H x = none
      · exact .inr q
      · exact absurd z (e.trk x q)
  xs := f.xs.trans e.xs

def StT (K : PySem.W.Frag) (w : Wd) (a : Addr) (xs : List V) : Prop := (∃ O, TPl O ∧ w.H a = some (.frz O (.tup xs)) ∧ ¬ w.mb a) ∨ KT K a xs
def StL (K : PySem.W.Frag) (w : Wd) (a : Addr) (xs : List V) : Prop := (Rd w.H a (.lst xs) ∧ ¬ w.mb a) ∨ KL K a xs
theorem StT.sq {K : PySem.W.Frag} {w : Wd} {a : Addr} {xs : List V} (h : StT K w a xs) : SqT K w.H a xs := h.elim (fun ⟨O, _, h, _⟩ => .inl (.inr ⟨O, h⟩)) fun ⟨o, its, n, h1, h2, _, h4⟩ => .inr ⟨o, its, n, h1, h2, h4⟩
theorem StL.sq {K : PySem.W.Frag} {w : Wd} {a : Addr} {xs : List V} (h : StL K w a xs) : SqL K w.H a xs := h.elim (fun z => .inl z.1) fun z => .inr z
theorem Ext.kept {w w' : Wd} (ok : WOk w) (e : Ext w w') {a : Addr} {o : HO} (h : w.H a = some o) (hm : ¬ w.mb a) : w'.H a = some o ∧ ¬ w'.mb a :=
  ⟨e.keep a o h fun z => hm (ok.sub a z), fun z => (e.mt a z).elim hm fun q => by rw [q] at h; cases h⟩
theorem Ext.rd {w w' : Wd} (ok : WOk w) (e : Ext w w') {a : Addr} {u : HO} (h : Rd w.H a u) (hm : ¬ w.mb a) : Rd w'.H a u ∧ ¬ w'.mb a := by
  rcases h with h | ⟨o, h⟩
  · obtain ⟨h1, h2⟩ := e.kept ok h hm
    exact ⟨.inl h1, h2⟩
  · obtain ⟨h1, h2⟩ := e.kept ok h hm
    exact ⟨.inr ⟨o, h1⟩, h2⟩
theorem StT.ext {K : PySem.W.Frag} {w w' : Wd} {a : Addr} {xs : List V} (ok : WOk w) (e : Ext w w') (h : StT K w a xs) : StT K w' a xs := by
  rcases h with ⟨O, h0, h1, h2⟩ | h
  · exact .inl ⟨O, h0, e.kept ok h1 h2⟩
  · exact .inr h
theorem StL.ext {K : PySem.W.Frag} {w w' : Wd} {a : Addr} {xs : List V} (ok : WOk w) (e : Ext w w') (h : StL K w a xs) : StL K w' a xs := by
  rcases h with ⟨h1, h2⟩ | h
  · exact .inl (e.rd ok h1 h2)
  · exact .inr h

/-- a key of ints and texts -/
def kP : L2.Key → PV
  | .inl i => .int i
  | .inr x => .str x.cps.toList
/-- the tables: the written part, the names of the fields of the own exception classes -/
structure Tb where
  K : PySem.W.Frag
  fld : Nat → List Str
  fa : Nat → Option Addr := fun _ => none
  cla : Nat → Addr := fun _ => 0
  atn : Nat → List Str := fun _ => []
  xs : List (Nat × Addr × Nat × Addr) := []
  nx : Nat := 0
  xca : Nat → Addr := fun _ => 0
  pr : Program
  wl : World
  lm : Nat → LamD → Prop := fun _ _ => False
  bm : Nat → Bool := fun _ => false
  tbs : List (Addr × Addr × Str) := []

/-- a lambda of no captures, a bound method -/
def ObV (T : Tb) (w : Wd) (f : Nat) : List PV → V → Prop
  | [], v => ∃ a c' ld, v = .ref a ∧ T.lm f ld ∧ w.H a = some (LamO ld a c') ∧ ¬ w.mb a ∧ w.H c' = some (LamX.CodeO c' ld.qual) ∧ ¬ w.mb c'
  | [.ref n], v => ∃ a b g, v = .ref a ∧ w.m[n]? = some b ∧ (T.fa f = some g ∧ T.bm f = true) ∧ w.H a = some (.met g b) ∧ ¬ w.mb a
  | _, _ => False
theorem ObV.ext {T : Tb} {w w' : Wd} (ok : WOk w) (e : Ext w w') {f : Nat} {l : List PV} {v : V} (h : ObV T w f l v) : ObV T w' f l v := by
  unfold ObV at h ⊢
  split at h
  · obtain ⟨a, c', ld, h1, h2, h3, h4, h5, h6⟩ := h
    obtain ⟨k1, k2⟩ := e.kept ok h3 h4
    obtain ⟨k3, k4⟩ := e.kept ok h5 h6
    exact ⟨a, c', ld, h1, h2, k1, k2, k3, k4⟩
  · obtain ⟨a, b, g, h1, h2, h3, h4, h5⟩ := h
    obtain ⟨k1, k2⟩ := e.kept ok h4 h5
    exact ⟨a, b, g, h1, e.pre _ _ h2, h3, k1, k2⟩
  · exact h.elim

theorem ObV.ref {T : Tb} {w : Wd} {f : Nat} {l : List PV} {v : V} (h : ObV T w f l v) : ∃ a, v = .ref a := by
  unfold ObV at h
  split at h
  · obtain ⟨a, _, _, h1, _⟩ := h; exact ⟨a, h1⟩
  · obtain ⟨a, _, _, h1, _⟩ := h; exact ⟨a, h1⟩
  · exact h.elim
mutual
def RepV (T : Tb) (w : Wd) : PV → V → Prop
  | .non, v => v = .non
  | .bl b, v => v = .bl b
  | .int i, v => v = .int i
  | .str x, v => v = .str ⟨x.toArray⟩ ∧ x.length ≤ SZ
  | .tup l, v => ∃ a xs, v = .ref a ∧ StT T.K w a xs ∧ Reps T w l xs
  | .lst l, v => ∃ a xs, v = .ref a ∧ w.H a = some (.lst xs) ∧ ¬ w.mb a ∧ Reps T w l xs
  | .fro l, v => ∃ a, v = .ref a ∧ StL T.K w a (l.map V.int)
  | .ref n, v => ∃ a, v = .ref a ∧ w.m[n]? = some a
  | .exc c fs, v => ∃ a d vs, v = .ref a ∧ w.H a = some (exo a (T.xca c) (some d)) ∧ ¬ w.mb a ∧ w.H d = some (exd d ((T.fld c).zip vs)) ∧ ¬ w.mb d ∧ (T.fld c).length = vs.length ∧ Reps T w fs vs
  | .dic ks vs, v => ∃ a kvs, v = .ref a ∧ w.H a = some (.dK kvs) ∧ ¬ w.mb a ∧ Reps T w ks (kvs.map fun p => kV p.1) ∧ Reps T w vs (kvs.map (·.2))
  | .fn f, v => ∃ a, v = .ref a ∧ T.fa f = some a
  | .obj f l, v => ObV T w f l v
  | _, _ => False
def Reps (T : Tb) (w : Wd) : List PV → List V → Prop
  | [], vs => vs = []
  | p :: ps, vs => ∃ v r, vs = v :: r ∧ RepV T w p v ∧ Reps T w ps r
end

mutual
theorem RepV.ext {T : Tb} {w w' : Wd} (ok : WOk w) (e : Ext w w') : ∀ (p : PV) (v : V), RepV T w p v → RepV T w' p v
  | .non, _, h => h
  | .bl _, _, h => h
  | .int _, _, h => h
  | .str _, _, h => h
  | .tup l, v, h => by
    simp only [RepV] at h ⊢
    obtain ⟨a, xs, h1, h2, h3⟩ := h
    exact ⟨a, xs, h1, h2.ext ok e, Reps.ext ok e l xs h3⟩
  | .lst l, v, h => by
    simp only [RepV] at h ⊢
    obtain ⟨a, xs, h1, h2, h3, h4⟩ := h
    obtain ⟨k1, k2⟩ := e.kept ok h2 h3
    exact ⟨a, xs, h1, k1, k2, Reps.ext ok e l xs h4⟩
  | .fro l, v, h => by
    simp only [RepV] at h ⊢
    obtain ⟨a, h1, h2⟩ := h
    exact ⟨a, h1, h2.ext ok e⟩
  | .ref n, v, h => by
    simp only [RepV] at h ⊢
    obtain ⟨a, h1, h2⟩ := h
    exact ⟨a, h1, e.pre _ _ h2⟩
  | .exc c fs, v, h => by
    simp only [RepV] at h ⊢
    obtain ⟨a, d, vs, h1, h2, h3, h4, h5, h6, h7⟩ := h
    obtain ⟨k1, k2⟩ := e.kept ok h2 h3
    obtain ⟨k3, k4⟩ := e.kept ok h4 h5
    exact ⟨a, d, vs, h1, k1, k2, k3, k4, h6, Reps.ext ok e fs vs h7⟩
  | .dic ks vs, v, h => by
    simp only [RepV] at h ⊢
    obtain ⟨a, kvs, h1, h2, h3, h4, h5⟩ := h
    obtain ⟨k1, k2⟩ := e.kept ok h2 h3
    exact ⟨a, kvs, h1, k1, k2, Reps.ext ok e ks _ h4, Reps.ext ok e vs _ h5⟩
  | .fn _, _, h => by simp only [RepV] at h ⊢; exact h
  | .cl _, _, h => by simp only [RepV] at h
  | .obj _ _, _, h => by simp only [RepV] at h ⊢; exact h.ext ok e
theorem Reps.ext {T : Tb} {w w' : Wd} (ok : WOk w) (e : Ext w w') : ∀ (ps : List PV) (vs : List V), Reps T w ps vs → Reps T w' ps vs
  | [], _, h => h
  | p :: ps, vs, h => by
    simp only [Reps] at h ⊢
    obtain ⟨v, r, h1, h2, h3⟩ := h
    exact ⟨v, r, h1, RepV.ext ok e p v h2, Reps.ext ok e ps r h3⟩
end

/-- a container of one's own -/
def ORep (T : Tb) (w : Wd) (a : Addr) : PV → Prop
  | .lst l => ∃ xs, w.H a = some (.lst xs) ∧ Reps T w l xs
  | _ => False
/-- a cell -/
def CRep (T : Tb) (w : Wd) (a : Addr) : PV → Prop
  | .lst l => ∃ xs, w.H a = some (.lst xs) ∧ Reps T w l xs
  | .obj c fs => ∃ dx vs, w.H a = some (.ins (T.cla c) dx ((T.atn c).zip vs)) ∧ vs.length ≤ (T.atn c).length ∧ Reps T w fs vs
  | .dic ks vs => vs = [] ∧ ∃ es : List Ent, w.H a = some (dctO T.pr T.wl a es) ∧ ks = es.map (fun e => PV.tup (e.1.map kP)) ∧ (es.map (·.1)).Nodup ∧ (a == sysModules) = false ∧ Reps T w ks (es.map fun e => V.ref e.2.1)
  | .cl k => ∃ c q, T.tbs[k]? = some (c, a, q) ∧ ∃ ps : Array Value, w.H a = some (.tbl ps) ∧ TriplesOk ps.toList ∧ ∀ (p' : Pos) (cv : Value), codeAmong p' ps.toList = some cv → ∃ c', cv = .ref c' ∧ w.H c' = some (LamX.CodeO c' q) ∧ ¬ w.mb c'
  | _ => False

structure CRel (T : Tb) (w : Wd) (mu : List PV) : Prop where
  mlen : w.m.length = mu.length
  cl : ∀ (n : Nat) c a, mu[n]? = some c → w.m[n]? = some a → CRep T w a c ∧ w.wr a
  inj : ∀ (n n' : Nat) a, w.m[n]? = some a → w.m[n']? = some a → n = n'

structure FRel (T : Tb) (w : Wd) (σ : St) (sl : List Sl) (mu : List PV) : Prop where
  wok : WOk w
  len : sl.length = σ.length
  va : ∀ (i : Nat) p, sl[i]? = some (.va p) → ∃ v, σ[i]? = some (some v) ∧ RepV T w p v
  ow : ∀ (i : Nat) p, sl[i]? = some (.ow p) → ∃ a, σ[i]? = some (some (.ref a)) ∧ ORep T w a p ∧ w.wr a ∧ a ∉ w.m
  ows : ∀ (i j : Nat) p q a, sl[i]? = some (.ow p) → sl[j]? = some (.ow q) → σ[i]? = some (some (.ref a)) → σ[j]? = some (some (.ref a)) → i = j
  cel : CRel T w mu
  ex : ∀ (i : Nat) c fs, sl[i]? = some (.ex c fs) → ∃ a d vs, σ[i]? = some (some (.ref a)) ∧ (i, a, c, d) ∈ T.xs ∧ w.H d = some (.xd ((T.fld c).zip vs)) ∧ (T.fld c).length = vs.length ∧ ¬ w.mb d ∧ Reps T w fs vs

/-- an exception that flies: its class's value, its own dict -/
structure Xc where
  cls : Nat → Option Value
def RepX (T : Tb) (C : Nat → Value) (w : Wd) (e : PV) (cls : Value) (d : Option Addr) : Prop :=
  ∃ c fs d' vs, e = .exc c fs ∧ c < T.nx ∧ cls = C c ∧ d = some d' ∧ w.H d' = some (.xd ((T.fld c).zip vs)) ∧ (T.fld c).length = vs.length ∧ ¬ w.mb d' ∧ Reps T w fs vs

section
variable (T : Tb) (C : Nat → Value) (W : WX) (σ : St)
/-- what a result wishes for -/
def Pst {α : Type} (w : Wd) (r : Res α) (Q : α → List Sl → List PV → Wd → Prop) : Prop :=
  match r with
  | .stk => False
  | .ok a sl mu => ∀ w', Ext w w' → FRel T w' σ sl mu → Q a sl mu w'
  | .exc e sl mu => ∀ cls d w', Ext w w' → FRel T w' σ sl mu → RepX T C w' e cls d → W cls d σ w'.H
variable {T C W σ}
theorem Pst.mono {α : Type} {w : Wd} {r : Res α} {Q Q' : α → List Sl → List PV → Wd → Prop} (h : Pst T C W σ w r Q) (f : ∀ a sl mu w', Ext w w' → FRel T w' σ sl mu → Q a sl mu w' → Q' a sl mu w') : Pst T C W σ w r Q' := by
  cases r with
  | stk => exact h
  | ok a sl mu => exact fun w' e F => f a sl mu w' e F (h w' e F)
  | exc x sl mu => exact h
theorem Pst.bnd {α β : Type} {w : Wd} {r : Res α} {f : α → List Sl → List PV → Res β} {Q : β → List Sl → List PV → Wd → Prop} (ok : WOk w) (h : Pst T C W σ w (r.bnd f) Q) : Pst T C W σ w r fun a sl mu w1 => Pst T C W σ w1 (f a sl mu) Q := by
  cases r with
  | stk => exact h
  | ok a sl mu =>
    intro w1 e1 F1
    have h' : Pst T C W σ w (f a sl mu) Q := h
    generalize f a sl mu = q at h' ⊢
    cases q with
    | stk => exact h'
    | ok b sl' mu' => exact fun w2 e2 F2 => h' w2 (e1.trans ok e2) F2
    | exc x sl' mu' => exact fun cls d w2 e2 F2 rx => h' cls d w2 (e1.trans ok e2) F2 rx
  | exc x sl mu => exact h
theorem Pst.lift {α : Type} {w : Wd} {o : Option α} {sl : List Sl} {mu : List PV} {Q : α → List Sl → List PV → Wd → Prop} (h : Pst T C W σ w (lift o sl mu) Q) : ∃ a, o = some a ∧ ∀ w', Ext w w' → FRel T w' σ sl mu → Q a sl mu w' := by
  cases o with
  | none => exact h.elim
  | some a => exact ⟨a, rfl, h⟩
end

/-- an expression's reading by the interpreter -/
def tE (T : Tb) (C : Nat → Value) (W : WX) (m : List Sl → List PV → Res PV) : TE := fun σ H Q => ∃ w sl mu, w.H = H ∧ FRel T w σ sl mu ∧ Pst T C W σ w (m sl mu) fun p _ _ w' => ∀ v, RepV T w' p v → Q v w'.H
def tA (T : Tb) (C : Nat → Value) (W : WX) (m : List Sl → List PV → Res (List PV)) : TA := fun σ H Q => ∃ w sl mu, w.H = H ∧ FRel T w σ sl mu ∧ Pst T C W σ w (m sl mu) fun ps _ _ w' => ∀ vs, Reps T w' ps vs → Q vs w'.H
def tT (T : Tb) (C : Nat → Value) (W : WX) (m : List Sl → List PV → Res Bool) : TT := fun σ H Q => ∃ w sl mu, w.H = H ∧ FRel T w σ sl mu ∧ Pst T C W σ w (m sl mu) fun b _ _ w' => Q b w'.H

theorem PE.imp {X : Cx} {e : Expr} {t t' : TE} (h : PE X e t) (f : ∀ σ H Q, t' σ H Q → t σ H Q) : PE X e t' := ⟨fun pins s σ H Q I q => h.run pins s σ H Q I (f σ H Q q)⟩
theorem PA.imp {X : Cx} {e : List Expr} {t t' : TA} (h : PA X e t) (f : ∀ σ H Q, t' σ H Q → t σ H Q) : PA X e t' := ⟨fun p pins s σ H Q I q => h.run p pins s σ H Q I (f σ H Q q)⟩
theorem PT.imp {X : Cx} {e : Expr} {t t' : TT} (h : PT X e t) (f : ∀ σ H Q, t' σ H Q → t σ H Q) : PT X e t' := ⟨fun pins s σ H Q I q => h.run pins s σ H Q I (f σ H Q q)⟩

/-- the handlers' names do not matter to values -/
def Tb.at (T : Tb) (E : List (Nat × Addr × Nat × Addr)) : Tb := { T with xs := E }
mutual
theorem RepV.at {T : Tb} {E : List (Nat × Addr × Nat × Addr)} {w : Wd} : ∀ (p : PV) (v : V), RepV (T.at E) w p v ↔ RepV T w p v
  | .non, _ => by simp only [RepV]
  | .bl _, _ => by simp only [RepV]
  | .int _, _ => by simp only [RepV]
  | .str _, _ => by simp only [RepV]
  | .tup l, v => by
    simp only [RepV]
    exact ⟨fun ⟨a, xs, h1, h2, h3⟩ => ⟨a, xs, h1, h2, (Reps.at l xs).mp h3⟩, fun ⟨a, xs, h1, h2, h3⟩ => ⟨a, xs, h1, h2, (Reps.at l xs).mpr h3⟩⟩
  | .lst l, v => by
    simp only [RepV]
    exact ⟨fun ⟨a, xs, h1, h2, h3, h4⟩ => ⟨a, xs, h1, h2, h3, (Reps.at l xs).mp h4⟩, fun ⟨a, xs, h1, h2, h3, h4⟩ => ⟨a, xs, h1, h2, h3, (Reps.at l xs).mpr h4⟩⟩
  | .fro l, v => by simp only [RepV]; exact Iff.rfl
  | .ref n, v => by simp only [RepV]
  | .exc c fs, v => by
    simp only [RepV]
    exact ⟨fun ⟨a, d, vs, h1, h2, h3, h4, h5, h6, h7⟩ => ⟨a, d, vs, h1, h2, h3, h4, h5, h6, (Reps.at fs vs).mp h7⟩, fun ⟨a, d, vs, h1, h2, h3, h4, h5, h6, h7⟩ => ⟨a, d, vs, h1, h2, h3, h4, h5, h6, (Reps.at fs vs).mpr h7⟩⟩
  | .dic ks vs, v => by
    simp only [RepV]
    exact ⟨fun ⟨a, kvs, h1, h2, h3, h4, h5⟩ => ⟨a, kvs, h1, h2, h3, (Reps.at ks _).mp h4, (Reps.at vs _).mp h5⟩, fun ⟨a, kvs, h1, h2, h3, h4, h5⟩ => ⟨a, kvs, h1, h2, h3, (Reps.at ks _).mpr h4, (Reps.at vs _).mpr h5⟩⟩
  | .fn _, _ => by simp only [RepV]; exact Iff.rfl
  | .cl _, _ => by simp only [RepV]
  | .obj _ _, _ => by simp only [RepV]; exact Iff.rfl
theorem Reps.at {T : Tb} {E : List (Nat × Addr × Nat × Addr)} {w : Wd} : ∀ (ps : List PV) (vs : List V), Reps (T.at E) w ps vs ↔ Reps T w ps vs
  | [], _ => by simp only [Reps]
  | p :: ps, vs => by
    simp only [Reps]
    exact ⟨fun ⟨v, r, h1, h2, h3⟩ => ⟨v, r, h1, (RepV.at p v).mp h2, (Reps.at ps r).mp h3⟩, fun ⟨v, r, h1, h2, h3⟩ => ⟨v, r, h1, (RepV.at p v).mpr h2, (Reps.at ps r).mpr h3⟩⟩
end
theorem ORep.at {T : Tb} {E : List (Nat × Addr × Nat × Addr)} {w : Wd} {a : Addr} {c : PV} : ORep (T.at E) w a c ↔ ORep T w a c := by
  cases c with
  | lst l => exact ⟨fun ⟨xs, h1, h2⟩ => ⟨xs, h1, (Reps.at l xs).mp h2⟩, fun ⟨xs, h1, h2⟩ => ⟨xs, h1, (Reps.at l xs).mpr h2⟩⟩
  | _ => exact Iff.rfl
theorem CRep.at {T : Tb} {E : List (Nat × Addr × Nat × Addr)} {w : Wd} {a : Addr} {c : PV} : CRep (T.at E) w a c ↔ CRep T w a c := by
  cases c with
  | lst l => exact ⟨fun ⟨xs, h1, h2⟩ => ⟨xs, h1, (Reps.at l xs).mp h2⟩, fun ⟨xs, h1, h2⟩ => ⟨xs, h1, (Reps.at l xs).mpr h2⟩⟩
  | obj c fs => exact ⟨fun ⟨dx, vs, h1, h2, h3⟩ => ⟨dx, vs, h1, h2, (Reps.at fs vs).mp h3⟩, fun ⟨dx, vs, h1, h2, h3⟩ => ⟨dx, vs, h1, h2, (Reps.at fs vs).mpr h3⟩⟩
  | dic ks vs => exact ⟨fun ⟨h0, es, h1, h2, h3, h4, h5⟩ => ⟨h0, es, h1, h2, h3, h4, (Reps.at ks _).mp h5⟩, fun ⟨h0, es, h1, h2, h3, h4, h5⟩ => ⟨h0, es, h1, h2, h3, h4, (Reps.at ks _).mpr h5⟩⟩
  | _ => exact Iff.rfl
theorem CRel.at {T : Tb} {E : List (Nat × Addr × Nat × Addr)} {w : Wd} {mu : List PV} : CRel (T.at E) w mu ↔ CRel T w mu :=
  ⟨fun h => ⟨h.mlen, fun n c a h1 h2 => ⟨CRep.at.mp (h.cl n c a h1 h2).1, (h.cl n c a h1 h2).2⟩, h.inj⟩, fun h => ⟨h.mlen, fun n c a h1 h2 => ⟨CRep.at.mpr (h.cl n c a h1 h2).1, (h.cl n c a h1 h2).2⟩, h.inj⟩⟩
/-- into a handler with a name -/
theorem FRel.into {T : Tb} {w : Wd} {σ : St} {sl : List Sl} {mu : List PV} {i c : Nat} {fs : List PV} {a d : Addr} {vs : List V} (F : FRel T w σ sl mu) (h3 : w.H d = some (.xd ((T.fld c).zip vs))) (h4 : (T.fld c).length = vs.length) (h5 : ¬ w.mb d) (h6 : Reps T w fs vs) :
    FRel (T.at ((i, a, c, d) :: T.xs)) w (σ.set i (some (.ref a))) (sl.set i (.ex c fs)) mu := by
  have hl := F.len
  refine ⟨F.wok, by simp [hl], fun j q hj => ?_, fun j q hj => ?_, fun j j' q q' a' hj hj' s1 s2 => ?_, CRel.at.mpr F.cel, fun j c' fs' hj => ?_⟩
  · by_cases e : i = j
    · subst e
      by_cases z : i < sl.length
      · rw [List.getElem?_set_self z] at hj; cases hj
      · rw [List.getElem?_eq_none (by simp; omega)] at hj; cases hj
    · rw [List.getElem?_set_ne e] at hj
      rw [List.getElem?_set_ne e]
      obtain ⟨v, k1, k2⟩ := F.va j q hj
      exact ⟨v, k1, (RepV.at q v).mpr k2⟩
  · by_cases e : i = j
    · subst e
      by_cases z : i < sl.length
      · rw [List.getElem?_set_self z] at hj; cases hj
      · rw [List.getElem?_eq_none (by simp; omega)] at hj; cases hj
    · rw [List.getElem?_set_ne e] at hj
      rw [List.getElem?_set_ne e]
      obtain ⟨b, k1, k2, k3⟩ := F.ow j q hj
      exact ⟨b, k1, ORep.at.mpr k2, k3⟩
  · have ne : ∀ {k : Nat} {q : PV}, (sl.set i (.ex c fs))[k]? = some (.ow q) → i ≠ k := fun {k q} h e => by
      subst e
      by_cases z : i < sl.length
      · rw [List.getElem?_set_self z] at h; cases h
      · rw [List.getElem?_eq_none (by simp; omega)] at h; cases h
    have n1 := ne hj
    have n2 := ne hj'
    rw [List.getElem?_set_ne n1] at hj s1
    rw [List.getElem?_set_ne n2] at hj' s2
    exact F.ows j j' q q' a' hj hj' s1 s2
  · by_cases e : i = j
    · subst e
      by_cases z : i < sl.length
      · rw [List.getElem?_set_self z] at hj
        cases hj
        exact ⟨a, d, vs, by rw [List.getElem?_set_self (by omega)], List.mem_cons_self, h3, h4, h5, (Reps.at fs vs).mpr h6⟩
      · rw [List.getElem?_eq_none (by simp; omega)] at hj; cases hj
    · rw [List.getElem?_set_ne e] at hj
      rw [List.getElem?_set_ne e]
      obtain ⟨b, d', vs', k1, k2, k3, k4, k5, k6⟩ := F.ex j c' fs' hj
      exact ⟨b, d', vs', k1, List.mem_cons_of_mem _ k2, k3, k4, k5, (Reps.at fs' vs').mpr k6⟩
/-- and out of it -/
theorem FRel.outof {T : Tb} {w : Wd} {σ : St} {sl : List Sl} {mu : List PV} {i c : Nat} {a d : Addr} (F : FRel (T.at ((i, a, c, d) :: T.xs)) w σ sl mu) : FRel T w (σ.set i none) (sl.set i .un) mu := by
  have hl := F.len
  refine ⟨F.wok, by simp [hl], fun j q hj => ?_, fun j q hj => ?_, fun j j' q q' a' hj hj' s1 s2 => ?_, CRel.at.mp F.cel, fun j c' fs' hj => ?_⟩
  · by_cases e : i = j
    · subst e
      by_cases z : i < sl.length
      · rw [List.getElem?_set_self z] at hj; cases hj
      · rw [List.getElem?_eq_none (by simp; omega)] at hj; cases hj
    · rw [List.getElem?_set_ne e] at hj
      rw [List.getElem?_set_ne e]
      obtain ⟨v, k1, k2⟩ := F.va j q hj
      exact ⟨v, k1, (RepV.at q v).mp k2⟩
  · by_cases e : i = j
    · subst e
      by_cases z : i < sl.length
      · rw [List.getElem?_set_self z] at hj; cases hj
      · rw [List.getElem?_eq_none (by simp; omega)] at hj; cases hj
    · rw [List.getElem?_set_ne e] at hj
      rw [List.getElem?_set_ne e]
      obtain ⟨b, k1, k2, k3⟩ := F.ow j q hj
      exact ⟨b, k1, ORep.at.mp k2, k3⟩
  · have ne : ∀ {k : Nat} {q : PV}, (sl.set i .un)[k]? = some (.ow q) → i ≠ k := fun {k q} h e => by
      subst e
      by_cases z : i < sl.length
      · rw [List.getElem?_set_self z] at h; cases h
      · rw [List.getElem?_eq_none (by simp; omega)] at h; cases h
    have n1 := ne hj
    have n2 := ne hj'
    rw [List.getElem?_set_ne n1] at hj s1
    rw [List.getElem?_set_ne n2] at hj' s2
    exact F.ows j j' q q' a' hj hj' s1 s2
  · by_cases e : i = j
    · subst e
      by_cases z : i < sl.length
      · rw [List.getElem?_set_self z] at hj; cases hj
      · rw [List.getElem?_eq_none (by simp; omega)] at hj; cases hj
    · rw [List.getElem?_set_ne e] at hj
      rw [List.getElem?_set_ne e]
      obtain ⟨b, d', vs', k1, k2, k3, k4, k5, k6⟩ := F.ex j c' fs' hj
      refine ⟨b, d', vs', k1, ?_, k3, k4, k5, (Reps.at fs' vs').mp k6⟩
      rcases List.mem_cons.mp k2 with z | z
      · cases z; exact absurd rfl e
      · exact z

/-! ### the world changes -/
/-- a new thing that never changes -/
def Wd.put (w : Wd) (p : Addr) (o : HO) : Wd := { w with H := upd w.H p o }
theorem Wd.put_ext {w : Wd} {p : Addr} {o : HO} (hp : w.H p = none) : Ext w (w.put p o) where
  pre := fun _ _ h => h
  keep := fun a u h _ => by show upd w.H p o a = _; rw [upd_ne (ne_of_none h hp)]; exact h
  trk := fun a h => by
    show upd w.H p o a ≠ none
    by_cases e : a = p
    · rw [e, upd_same]; simp
    · rw [upd_ne e]; exact h
  mt := fun _ h => .inl h
  mkp := fun _ h _ => h
  ws := fun _ h => .inl h
  xs := rfl
theorem Wd.put_ok {w : Wd} {p : Addr} {o : HO} (ok : WOk w) (hp : w.H p = none) : WOk (w.put p o) := ⟨ok.sub, fun a h => (Wd.put_ext (o := o) hp).trk a (ok.mtr a h)⟩
theorem CRep.ext_keep {T : Tb} {w w' : Wd} (ok : WOk w) (e : Ext w w') {a : Addr} {c : PV} (h : CRep T w a c) (k : ∀ o, w.H a = some o → w'.H a = some o) : CRep T w' a c := by
  cases c with
  | lst l =>
    obtain ⟨xs, h1, h2⟩ := h
    exact ⟨xs, k _ h1, Reps.ext ok e l xs h2⟩
  | obj c fs =>
    obtain ⟨dx, vs, h1, h2, h3⟩ := h
    exact ⟨dx, vs, k _ h1, h2, Reps.ext ok e fs vs h3⟩
  | dic ks vs =>
    obtain ⟨h0, es, h1, h2, h3, h4, h5⟩ := h
    exact ⟨h0, es, k _ h1, h2, h3, h4, Reps.ext ok e ks _ h5⟩
  | cl j =>
    obtain ⟨c, q, h1, ps, h2, h3, h4⟩ := h
    refine ⟨c, q, h1, ps, k _ h2, h3, fun p' cv hc => ?_⟩
    obtain ⟨c', e1, e2, e3⟩ := h4 p' cv hc
    obtain ⟨k1, k2⟩ := e.kept ok e2 e3
    exact ⟨c', e1, k1, k2⟩
  | _ => exact h.elim
theorem ORep.ext_keep {T : Tb} {w w' : Wd} (ok : WOk w) (e : Ext w w') {a : Addr} {c : PV} (h : ORep T w a c) (k : ∀ o, w.H a = some o → w'.H a = some o) : ORep T w' a c := by
  cases c with
  | lst l =>
    obtain ⟨xs, h1, h2⟩ := h
    exact ⟨xs, k _ h1, Reps.ext ok e l xs h2⟩
  | _ => exact h.elim
/-- what a handler's name holds stays -/
theorem ex_ext {T : Tb} {w w' : Wd} {σ : St} {i c : Nat} {fs : List PV} (ok : WOk w) (e : Ext w w')
    (h : ∃ a d vs, σ[i]? = some (some (V.ref a)) ∧ (i, a, c, d) ∈ T.xs ∧ w.H d = some (.xd ((T.fld c).zip vs)) ∧ (T.fld c).length = vs.length ∧ ¬ w.mb d ∧ Reps T w fs vs) :
    ∃ a d vs, σ[i]? = some (some (V.ref a)) ∧ (i, a, c, d) ∈ T.xs ∧ w'.H d = some (.xd ((T.fld c).zip vs)) ∧ (T.fld c).length = vs.length ∧ ¬ w'.mb d ∧ Reps T w' fs vs := by
  obtain ⟨a, d, vs, h1, h2, h3, h4, h5, h6⟩ := h
  obtain ⟨k1, k2⟩ := e.kept ok h3 h5
  exact ⟨a, d, vs, h1, h2, k1, h4, k2, Reps.ext ok e fs vs h6⟩
theorem FRel.put {T : Tb} {w : Wd} {σ : St} {sl : List Sl} {mu : List PV} {p : Addr} {o : HO} (F : FRel T w σ sl mu) (hp : w.H p = none) : FRel T (w.put p o) σ sl mu := by
  have e := Wd.put_ext (o := o) hp
  have k : ∀ a u, w.H a = some u → (w.put p o).H a = some u := fun a u h => by show upd w.H p o a = _; rw [upd_ne (ne_of_none h hp)]; exact h
  refine ⟨Wd.put_ok F.wok hp, F.len, fun i q h => ?_, fun i q h => ?_, F.ows, ⟨F.cel.mlen, fun n c a h1 h2 => ?_, F.cel.inj⟩, fun i c fs h => ex_ext F.wok e (F.ex i c fs h)⟩
  · obtain ⟨v, h1, h2⟩ := F.va i q h
    exact ⟨v, h1, RepV.ext F.wok e q v h2⟩
  · obtain ⟨a, h1, h2, h3, h4⟩ := F.ow i q h
    exact ⟨a, h1, h2.ext_keep F.wok e (k a), h3, h4⟩
  · obtain ⟨h3, h4⟩ := F.cel.cl n c a h1 h2
    exact ⟨h3.ext_keep F.wok e (k a), h4⟩
theorem FRel.fresh {T : Tb} {w : Wd} {σ : St} {sl : List Sl} {mu : List PV} {p : Addr} (F : FRel T w σ sl mu) (hp : w.H p = none) : ¬ w.mb p := fun h => F.wok.mtr p h hp

theorem Reps.nil_iff {T : Tb} {w : Wd} {vs : List V} : Reps T w [] vs ↔ vs = [] := by simp only [Reps]
theorem Reps.len {T : Tb} {w : Wd} : ∀ {ps : List PV} {vs : List V}, Reps T w ps vs → ps.length = vs.length
  | [], vs, h => by simp only [Reps] at h; rw [h]; rfl
  | p :: ps, vs, h => by
    simp only [Reps] at h
    obtain ⟨v, r, rfl, _, h2⟩ := h
    rw [List.length_cons, List.length_cons, Reps.len h2]
theorem Reps.get {T : Tb} {w : Wd} : ∀ {ps : List PV} {vs : List V} {i : Nat} {p : PV}, Reps T w ps vs → ps[i]? = some p → ∃ v, vs[i]? = some v ∧ RepV T w p v
  | [], _, _, _, _, e => by simp at e
  | q :: ps, vs, 0, p, h, e => by
    simp only [Reps] at h
    obtain ⟨v, r, rfl, h1, _⟩ := h
    simp at e; subst e
    exact ⟨v, rfl, h1⟩
  | q :: ps, vs, i + 1, p, h, e => by
    simp only [Reps] at h
    obtain ⟨v, r, rfl, _, h2⟩ := h
    obtain ⟨u, h3, h4⟩ := Reps.get (i := i) h2 (by simpa using e)
    exact ⟨u, by simpa using h3, h4⟩
theorem Reps.append {T : Tb} {w : Wd} : ∀ {ps qs : List PV} {vs us : List V}, Reps T w ps vs → Reps T w qs us → Reps T w (ps ++ qs) (vs ++ us)
  | [], _, vs, _, h, k => by simp only [Reps] at h; subst h; exact k
  | p :: ps, qs, vs, us, h, k => by
    simp only [Reps] at h
    obtain ⟨v, r, rfl, h1, h2⟩ := h
    simp only [List.cons_append, Reps]
    exact ⟨v, r ++ us, rfl, h1, Reps.append h2 k⟩
theorem Reps.drop {T : Tb} {w : Wd} : ∀ {ps : List PV} {vs : List V} (n : Nat), Reps T w ps vs → Reps T w (ps.drop n) (vs.drop n)
  | _, _, 0, h => h
  | [], vs, n + 1, h => by simp only [Reps] at h; subst h; simp [Reps]
  | p :: ps, vs, n + 1, h => by
    simp only [Reps] at h
    obtain ⟨v, r, rfl, _, h2⟩ := h
    exact Reps.drop n h2
theorem Reps.take {T : Tb} {w : Wd} : ∀ {ps : List PV} {vs : List V} (n : Nat), Reps T w ps vs → Reps T w (ps.take n) (vs.take n)
  | _, _, 0, _ => by simp [Reps]
  | [], vs, n + 1, h => by simp only [Reps] at h; subst h; simp [Reps]
  | p :: ps, vs, n + 1, h => by
    simp only [Reps] at h
    obtain ⟨v, r, rfl, h1, h2⟩ := h
    simp only [List.take_succ_cons, Reps]
    exact ⟨v, r.take n, rfl, h1, Reps.take n h2⟩
theorem Reps.set {T : Tb} {w : Wd} {p : PV} {v : V} (hv : RepV T w p v) : ∀ {ps : List PV} {vs : List V} (i : Nat), Reps T w ps vs → Reps T w (ps.set i p) (vs.set i v)
  | [], vs, i, h => by simp only [Reps] at h; subst h; simp [Reps]
  | q :: ps, vs, 0, h => by
    simp only [Reps] at h
    obtain ⟨u, r, rfl, h1, h2⟩ := h
    simp only [List.set_cons_zero, Reps]
    exact ⟨v, r, rfl, hv, h2⟩
  | q :: ps, vs, i + 1, h => by
    simp only [Reps] at h
    obtain ⟨u, r, rfl, h1, h2⟩ := h
    simp only [List.set_cons_succ, Reps]
    exact ⟨u, _, rfl, h1, Reps.set hv i h2⟩
theorem Reps.ofInts {T : Tb} {w : Wd} : ∀ {l : List PV} {ns : List Int} {vs : List V}, pInts l = some ns → Reps T w l vs → vs = ns.map V.int
  | [], ns, vs, e, h => by simp only [pInts, Option.some.injEq] at e; subst e; simp only [Reps] at h; exact h
  | p :: l, ns, vs, e, h => by
    cases p with
    | int i =>
      simp only [RA.pInts, Option.map_eq_some_iff] at e
      obtain ⟨ns', e', rfl⟩ := e
      simp only [Reps] at h
      obtain ⟨v, r, rfl, h1, h2⟩ := h
      simp only [RepV] at h1
      subst h1
      rw [Reps.ofInts e' h2]; rfl
    | _ => simp [RA.pInts] at e
theorem Reps.ofBls {T : Tb} {w : Wd} : ∀ {l : List PV} {ns : List Bool} {vs : List V}, pBls l = some ns → Reps T w l vs → vs = ns.map V.bl
  | [], ns, vs, e, h => by simp only [pBls, Option.some.injEq] at e; subst e; simp only [Reps] at h; exact h
  | p :: l, ns, vs, e, h => by
    cases p with
    | bl i =>
      simp only [RA.pBls, Option.map_eq_some_iff] at e
      obtain ⟨ns', e', rfl⟩ := e
      simp only [Reps] at h
      obtain ⟨v, r, rfl, h1, h2⟩ := h
      simp only [RepV] at h1
      subst h1
      rw [Reps.ofBls e' h2]; rfl
    | _ => simp [RA.pBls] at e
theorem Reps.ofStrs {T : Tb} {w : Wd} : ∀ {l : List PV} {ns : List (List Nat)} {vs : List V}, pStrs l = some ns → Reps T w l vs → vs = ns.map (fun x => V.str ⟨x.toArray⟩) ∧ ∀ x ∈ ns, x.length ≤ SZ
  | [], ns, vs, e, h => by simp only [pStrs, Option.some.injEq] at e; subst e; simp only [Reps] at h; exact ⟨h, by simp⟩
  | p :: l, ns, vs, e, h => by
    cases p with
    | str i =>
      simp only [RA.pStrs, Option.map_eq_some_iff] at e
      obtain ⟨ns', e', rfl⟩ := e
      simp only [Reps] at h
      obtain ⟨v, r, rfl, h1, h2⟩ := h
      simp only [RepV] at h1
      obtain ⟨h1, h3⟩ := h1
      subst h1
      obtain ⟨q1, q2⟩ := Reps.ofStrs e' h2
      rw [q1]
      exact ⟨rfl, by simp only [List.mem_cons]; rintro x (rfl | hx); exact h3; exact q2 x hx⟩
    | _ => simp [RA.pStrs] at e

/-! ### as data of the library -/
mutual
def toD : PV → PyData
  | .non => .none
  | .bl b => .bool b
  | .int i => .int i
  | .str x => .str ⟨x.toArray⟩
  | .tup l => .tuple (toDs l)
  | .lst l => .list (toDs l)
  | _ => .none
def toDs : List PV → List PyData
  | [] => []
  | x :: r => toD x :: toDs r
end
mutual
theorem RepV.dp {T : Tb} {w : Wd} : ∀ (p : PV) (v : V), isD p = true → RepV T w p v → Dp T.K w.H v (toD p)
  | .non, v, _, h => by simp only [RepV] at h; subst h; simp only [toD]; exact .non
  | .bl b, v, _, h => by simp only [RepV] at h; subst h; simp only [toD]; exact .bl b
  | .int i, v, _, h => by simp only [RepV] at h; subst h; simp only [toD]; exact .int i
  | .str x, v, _, h => by simp only [RepV] at h; obtain ⟨rfl, _⟩ := h; simp only [toD]; exact .str _
  | .tup l, v, d, h => by
    simp only [isD] at d
    simp only [RepV] at h
    obtain ⟨a, xs, rfl, h2, h3⟩ := h
    simp only [toD]
    exact .tup h2.sq (Reps.dp l xs d h3)
  | .lst l, v, d, h => by
    simp only [isD] at d
    simp only [RepV] at h
    obtain ⟨a, xs, rfl, h2, _, h3⟩ := h
    simp only [toD]
    exact .lst (SqL.of h2) (Reps.dp l xs d h3)
  | .fro _, _, d, _ => by simp [isD] at d
  | .ref _, _, d, _ => by simp [isD] at d
  | .exc _ _, _, d, _ => by simp [isD] at d
  | .dic _ _, _, d, _ => by simp [isD] at d
  | .fn _, _, d, _ => by simp [isD] at d
  | .cl _, _, d, _ => by simp [isD] at d
  | .obj _ _, _, d, _ => by simp [isD] at d
theorem Reps.dp {T : Tb} {w : Wd} : ∀ (ps : List PV) (vs : List V), isDs ps = true → Reps T w ps vs → DpAll T.K w.H vs (toDs ps)
  | [], vs, _, h => by simp only [Reps] at h; subst h; simp only [toDs]; exact .nil
  | p :: ps, vs, d, h => by
    simp only [isDs, Bool.and_eq_true] at d
    simp only [Reps] at h
    obtain ⟨v, r, rfl, h1, h2⟩ := h
    simp only [toDs]
    exact .cons (RepV.dp p v d.1 h1) (Reps.dp ps r d.2 h2)
end
theorem str_beq (x y : List Nat) : ((⟨x.toArray⟩ : Str) == ⟨y.toArray⟩) = (x == y) := by
  rw [Bool.eq_iff_iff]
  simp
mutual
theorem eqP_eqv : ∀ (p q : PV), isD p = true → isD q = true → eqP p q = PyData.eqv (toD p) (toD q)
  | .non, q, _, d => by cases q <;> first | (simp [isD] at d; done) | simp [eqP, toD, PyData.eqv]
  | .bl b, q, _, d => by cases q <;> first | (simp [isD] at d; done) | simp [eqP, toD, PyData.eqv, b2i]
  | .int b, q, _, d => by cases q <;> first | (simp [isD] at d; done) | simp [eqP, toD, PyData.eqv, b2i]
  | .str b, q, _, d => by
    cases q <;> first | (simp [isD] at d; done) | (simp [eqP, toD, PyData.eqv]; done) | skip
    simp only [eqP, toD, PyData.eqv]
    exact (str_beq _ _).symm
  | .tup l, q, d1, d => by
    cases q <;> first | (simp [isD] at d; done) | (simp [eqP, toD, PyData.eqv]; done) | skip
    simp only [isD] at d1 d
    simp only [eqP, toD, PyData.eqv]
    exact eqPs_eqv _ _ d1 d
  | .lst l, q, d1, d => by
    cases q <;> first | (simp [isD] at d; done) | (simp [eqP, toD, PyData.eqv]; done) | skip
    simp only [isD] at d1 d
    simp only [eqP, toD, PyData.eqv]
    exact eqPs_eqv _ _ d1 d
  | .fro _, _, d, _ => by simp [isD] at d
  | .ref _, _, d, _ => by simp [isD] at d
  | .exc _ _, _, d, _ => by simp [isD] at d
  | .dic _ _, _, d, _ => by simp [isD] at d
  | .fn _, _, d, _ => by simp [isD] at d
  | .cl _, _, d, _ => by simp [isD] at d
  | .obj _ _, _, d, _ => by simp [isD] at d
theorem eqPs_eqv : ∀ (p q : List PV), isDs p = true → isDs q = true → eqPs p q = PyData.eqvAll (toDs p) (toDs q)
  | [], [], _, _ => by simp [eqPs, toDs, PyData.eqvAll]
  | [], _ :: _, _, _ => by simp [eqPs, toDs, PyData.eqvAll]
  | _ :: _, [], _, _ => by simp [eqPs, toDs, PyData.eqvAll]
  | p :: ps, q :: qs, d1, d2 => by
    simp only [isDs, Bool.and_eq_true] at d1 d2
    simp only [eqPs, toDs, PyData.eqvAll]
    rw [eqP_eqv p q d1.1 d2.1, eqPs_eqv ps qs d1.2 d2.2]
end
mutual
theorem dep_toD : ∀ (p : PV), isD p = true → dep p = (toD p).depth
  | .non, _ => by simp [dep, toD, PyData.depth]
  | .bl b, _ => by simp [dep, toD, PyData.depth]
  | .int b, _ => by simp [dep, toD, PyData.depth]
  | .str b, _ => by simp [dep, toD, PyData.depth]
  | .tup l, d => by
    simp only [isD] at d
    have := deps_toD l d
    simp only [dep, toD, PyData.depth]
    omega
  | .lst l, d => by
    simp only [isD] at d
    have := deps_toD l d
    simp only [dep, toD, PyData.depth]
    omega
  | .fro _, d => by simp [isD] at d
  | .ref _, d => by simp [isD] at d
  | .exc _ _, d => by simp [isD] at d
  | .dic _ _, d => by simp [isD] at d
  | .fn _, d => by simp [isD] at d
  | .cl _, d => by simp [isD] at d
  | .obj _ _, d => by simp [isD] at d
theorem deps_toD : ∀ (p : List PV), isDs p = true → deps p = PyData.depthAll (toDs p)
  | [], _ => by simp [deps, toDs, PyData.depthAll]
  | p :: ps, d => by
    simp only [isDs, Bool.and_eq_true] at d
    simp only [deps, toDs, PyData.depthAll]
    rw [dep_toD p d.1, deps_toD ps d.2]
end
mutual
theorem plain_toD : ∀ (p : PV), isD p = true → (toD p).plain = true
  | .non, _ => by simp [toD, PyData.plain]
  | .bl b, _ => by simp [toD, PyData.plain]
  | .int b, _ => by simp [toD, PyData.plain]
  | .str b, _ => by simp [toD, PyData.plain]
  | .tup l, d => by
    simp only [isD] at d
    simp only [toD, PyData.plain]
    exact plains_toD l d
  | .lst l, d => by
    simp only [isD] at d
    simp only [toD, PyData.plain]
    exact plains_toD l d
  | .fro _, d => by simp [isD] at d
  | .ref _, d => by simp [isD] at d
  | .exc _ _, d => by simp [isD] at d
  | .dic _ _, d => by simp [isD] at d
  | .fn _, d => by simp [isD] at d
  | .cl _, d => by simp [isD] at d
  | .obj _ _, d => by simp [isD] at d
theorem plains_toD : ∀ (p : List PV), isDs p = true → PyData.plainAll (toDs p) = true
  | [], _ => by simp [toDs, PyData.plainAll]
  | p :: ps, d => by
    simp only [isDs, Bool.and_eq_true] at d
    simp only [toDs, PyData.plainAll, plain_toD p d.1, plains_toD ps d.2, Bool.and_self]
end
end RA

/-! Operations on own values, by the rules of the hand layer. -/
namespace RA
open PySem L2 PyProof.Rows

def opE : O2 → Operator
  | .add => .Add | .sub => .Sub | .mul => .Mult | .fdv => .FloorDiv | .mod => .Mod | .pow => .Pow
def cmE : C2 → CmpOp
  | .eq => .Eq | .ne => .NotEq | .lt => .Lt | .le => .LtE | .gt => .Gt | .ge => .GtE | .inn => .In | .nin => .NotIn

theorem SZ_line : SZ = sizeLine := by rw [sizeLine_eq]
/-- what a two-place operation wishes -/
def rP2 (T : Tb) (f : PV → PV → Option PV) : R2 := fun x y H Q => ∃ w σ sl mu p q z, w.H = H ∧ FRel T w σ sl mu ∧ RepV T w p x ∧ RepV T w q y ∧ f p q = some z ∧ ∀ w', Ext w w' → FRel T w' σ sl mu → ∀ v, RepV T w' z v → Q v w'.H
/-- a result without a new thing -/
theorem P2.here {T : Tb} {w : Wd} {σ : L2.St} {sl : List Sl} {mu : List PV} {z : PV} {Q : VK} {v : V} (F : FRel T w σ sl mu) (h : ∀ w', Ext w w' → FRel T w' σ sl mu → ∀ v, RepV T w' z v → Q v w'.H) (r : RepV T w z v) : Q v w.H := h w (Ext.refl w) F v r
/-- a new list, a new tuple -/
theorem P2.lst {T : Tb} {w : Wd} {σ : L2.St} {sl : List Sl} {mu : List PV} {l : List PV} {xs : List V} {Q : VK} {p : Addr} (F : FRel T w σ sl mu) (h : ∀ w', Ext w w' → FRel T w' σ sl mu → ∀ v, RepV T w' (.lst l) v → Q v w'.H) (r : Reps T w l xs) (hp : w.H p = none) : Q (.ref p) (upd w.H p (.lst xs)) := by
  refine h (w.put p (.lst xs)) (Wd.put_ext hp) (F.put hp) (.ref p) ?_
  simp only [RepV]
  exact ⟨p, xs, rfl, upd_same, F.fresh hp, Reps.ext F.wok (Wd.put_ext hp) l xs r⟩
theorem P2.tup {T : Tb} {w : Wd} {σ : L2.St} {sl : List Sl} {mu : List PV} {l : List PV} {xs : List V} {Q : VK} {p : Addr} {O : Obj} (F : FRel T w σ sl mu) (h : ∀ w', Ext w w' → FRel T w' σ sl mu → ∀ v, RepV T w' (.tup l) v → Q v w'.H) (r : Reps T w l xs) (hp : w.H p = none) (hO : TPl O) : Q (.ref p) (upd w.H p (.frz O (.tup xs))) := by
  refine h (w.put p (.frz O (.tup xs))) (Wd.put_ext hp) (F.put hp) (.ref p) ?_
  simp only [RepV]
  exact ⟨p, xs, rfl, .inl ⟨O, hO, upd_same, F.fresh hp⟩, Reps.ext F.wok (Wd.put_ext hp) l xs r⟩

theorem str_append (x y : List Nat) : ((⟨x.toArray⟩ : Str) ++ (⟨y.toArray⟩ : Str)) = ⟨(x ++ y).toArray⟩ := by
  show Str.append _ _ = _
  simp [Str.append]
theorem str_len (x : List Nat) : (⟨x.toArray⟩ : Str).length = x.length := by simp [Str.length]

section
variable {T : Tb} {X : Cx}
theorem snd_add (hK : T.K = X.K) : OpR X (binaryOp .Add) (rP2 T addP) := by
  intro pins s σ H x y v u Q I rx ry h
  obtain ⟨w, σ', sl, mu, p, q, z, rfl, F, rp, rq, e, h⟩ := h
  cases p with
  | int i =>
    cases q <;> simp [addP] at e
    subst e
    simp only [RepV] at rp rq
    subst rp rq
    exact op_add pins s σ _ _ _ v u Q I rx ry ⟨_, _, rfl, rfl, P2.here F h (by simp only [RepV])⟩
  | str i =>
    cases q <;> simp [addP] at e
    obtain ⟨hl, rfl⟩ := e
    simp only [RepV] at rp rq
    obtain ⟨rfl, _⟩ := rp
    obtain ⟨rfl, _⟩ := rq
    refine op_add_str pins s σ _ _ _ v u Q I rx ry ⟨_, _, rfl, rfl, by rw [str_len, str_len, ← SZ_line]; exact hl, ?_⟩
    rw [str_append]
    exact P2.here F h (by simp only [RepV]; exact ⟨trivial, by rw [List.length_append]; exact hl⟩)
  | lst i =>
    cases q <;> simp [addP] at e
    obtain ⟨hl, rfl⟩ := e
    simp only [RepV] at rp rq
    obtain ⟨a, xs, rfl, h1, h2, h3⟩ := rp
    obtain ⟨b, ys, rfl, k1, k2, k3⟩ := rq
    refine op_cat pins s σ _ _ _ v u Q I rx ry ⟨a, b, xs, ys, rfl, rfl, h1, k1, by rw [← h3.len, ← k3.len, ← SZ_line]; exact hl, fun p hp => ?_⟩
    exact P2.lst F h (h3.append k3) hp
  | tup i =>
    rcases q with _ | _ | _ | _ | l2 | _ | _ | _ | _ | _ | _ | _ <;> simp [addP] at e
    obtain ⟨hl, rfl⟩ := e
    simp only [RepV] at rp rq
    obtain ⟨a, xs, rfl, h1, h3⟩ := rp
    obtain ⟨b, ys, rfl, k1, k3⟩ := rq
    refine op_catP pins s σ _ _ _ v u Q I rx ry ⟨a, b, xs, ys, rfl, rfl, hK ▸ h1.sq, hK ▸ k1.sq, by rw [← h3.len, ← k3.len, ← SZ_line]; exact hl, fun e1 => ?_, fun e1 e2 => ?_, fun e1 e2 p O hp hO => ?_⟩
    · subst e1
      have : i = [] := List.eq_nil_of_length_eq_zero h3.len
      subst this
      exact P2.here F h (by simp only [RepV, List.nil_append]; exact ⟨b, ys, rfl, k1, k3⟩)
    · subst e2
      have : l2 = [] := List.eq_nil_of_length_eq_zero k3.len
      subst this
      exact P2.here F h (by simp only [RepV, List.append_nil]; exact ⟨a, xs, rfl, h1, h3⟩)
    · exact P2.tup F h (h3.append k3) hp hO
  | _ => cases q <;> simp [addP] at e

theorem small_iff {i : Int} : small i = true ↔ (-(2 ^ 64) < i ∧ i < 2 ^ 64) := by
  unfold small B64
  rw [Bool.and_eq_true, decide_eq_true_eq, decide_eq_true_eq]
  constructor <;> (intro h; omega)
theorem flat_rep (x : List Nat) : ∀ (k : Nat) (acc : Array Nat), (List.replicate k x.toArray).foldl (· ++ ·) acc = acc ++ (List.replicate k x).flatten.toArray
  | 0, acc => by simp
  | k + 1, acc => by rw [List.replicate_succ, List.foldl_cons, flat_rep x k, List.replicate_succ, List.flatten_cons]; simp
theorem len_flat_rep (x : List Nat) (k : Nat) : (List.replicate k x).flatten.length = x.length * k := by
  rw [List.length_flatten, List.map_replicate, List.sum_replicate_nat, Nat.mul_comm]
theorem mul_txt (x : List Nat) (j : Int) : Txt.mul ⟨x.toArray⟩ j = ⟨(List.replicate j.toNat x).flatten.toArray⟩ := by
  unfold Txt.mul
  by_cases h1 : j < 1
  · rw [if_pos h1]
    have : j.toNat = 0 := by omega
    rw [this]; simp [Str.empty]
  · rw [if_neg h1]
    split
    · rename_i hc
      rw [Bool.or_eq_true, beq_iff_eq, beq_iff_eq] at hc
      rcases hc with rfl | hc
      · simp
      · rw [str_len] at hc
        have : x = [] := List.eq_nil_of_length_eq_zero hc
        subst this; simp
    · rw [flat_rep]; simp
theorem mul_ok_str {x : List Nat} {j : Int} (h1 : x.length * j.toNat ≤ SZ) (h2 : -(2 ^ 63 : Int) ≤ j) (h3 : j < 2 ^ 63) : MulOk ⟨x.toArray⟩ j := by
  refine ⟨?_, fun q1 q2 => ?_, fun q1 _ => ?_⟩
  · have a1 : ¬ j < -(2 ^ 63 : Int) := by omega
    have a2 : ¬ j ≥ (2 ^ 63 : Int) := by omega
    rw [decide_eq_false a1, decide_eq_false a2]; rfl
  · rw [str_len]
    have hpos : 0 < j := by omega
    have e : ((x.length * j.toNat : Nat) : Int) = (x.length : Int) * j := by
      rw [Int.natCast_mul, Int.toNat_of_nonneg (by omega)]
    have h4 : (x.length : Int) * j ≤ 2 ^ 63 - 1 := by rw [← e]; unfold SZ at h1; omega
    have h5 : (x.length : Int) ≤ (2 ^ 63 - 1) / j := (Int.le_ediv_iff_mul_le hpos).mpr h4
    omega
  · rw [str_len]
    exact short24 h1
theorem snd_mul (hK : T.K = X.K) : OpR X (binaryOp .Mult) (rP2 T mulP) := by
  intro pins s σ H x y v u Q I rx ry h
  obtain ⟨w, σ', sl, mu, p, q, z, rfl, F, rp, rq, e, h⟩ := h
  cases p with
  | int i =>
    cases q with
    | int j =>
      simp only [mulP] at e
      simp only [RepV] at rp rq
      subst rp rq
      split at e
      · rename_i hs
        simp only [Option.some.injEq] at e
        subst e
        rw [Bool.or_eq_true, small_iff, small_iff] at hs
        exact op_mul pins s σ _ _ _ v u Q I rx ry ⟨_, _, rfl, rfl, hs, P2.here F h (by simp only [RepV])⟩
      · split at e
        · rename_i hs
          simp only [Option.some.injEq] at e
          subst e
          exact op_mulW pins s σ _ _ _ v u Q I rx ry ⟨_, _, rfl, rfl, wide_mul hs.1 hs.2 (by decide) (by decide) (by decide), P2.here F h (by simp only [RepV])⟩
        · cases e
    | _ => simp [mulP] at e
  | str i =>
    cases q with
    | int j =>
      simp only [mulP] at e
      simp only [RepV] at rp rq
      obtain ⟨rfl, _⟩ := rp
      subst rq
      split at e
      · rename_i hs
        simp only [Option.some.injEq] at e
        subst e
        obtain ⟨h1, h2, h3⟩ := hs
        obtain ⟨t, rfl⟩ := rx
        obtain ⟨t', rfl⟩ := ry
        refine SB.mul (mul_ok_str h1 (by omega) (by omega)) fun t2 k => ?_
        refine ⟨.str (Txt.mul ⟨i.toArray⟩ j), w.H, I.tok _, ⟨_, rfl⟩, ?_⟩
        rw [mul_txt]
        exact P2.here F h (by simp only [RepV]; exact ⟨trivial, by rw [len_flat_rep]; exact h1⟩)
      · cases e
    | _ => simp [mulP] at e
  | lst i =>
    cases q with
    | int j =>
      simp only [mulP] at e
      simp only [RepV] at rp rq
      obtain ⟨a, xs, rfl, h1, _, h3⟩ := rp
      subst rq
      split at e
      · rename_i hs
        simp only [Option.some.injEq] at e
        subst e
        obtain ⟨k1, k2, k3⟩ := hs
        refine op_rep pins s σ _ _ _ v u Q I rx ry ⟨a, j, xs, rfl, rfl, h1, by omega, by omega, by rw [← h3.len, sizeLine_eq]; exact k1, fun p hp => ?_⟩
        refine P2.lst F h ?_ hp
        generalize j.toNat = n
        induction n with
        | zero => simp [Reps]
        | succ n ih => rw [List.replicate_succ, List.replicate_succ, List.flatten_cons, List.flatten_cons]; exact h3.append ih
      · cases e
    | _ => simp [mulP] at e
  | tup i =>
    cases q with
    | int j =>
      simp only [mulP] at e
      simp only [RepV] at rp rq
      obtain ⟨a, xs, rfl, h1, h3⟩ := rp
      subst rq
      split at e
      · rename_i hs
        simp only [Option.some.injEq] at e
        subst e
        obtain ⟨k1, k2, k3, k4⟩ := hs
        have hne : xs ≠ [] := fun z => by rw [z] at h3; have := h3.len; simp at this; rw [this] at k1; simp at k1
        refine op_repP pins s σ _ _ _ v u Q I rx ry ⟨a, j, xs, rfl, rfl, hK ▸ h1.sq, hne, k2, k3, by rw [← h3.len]; exact k4, fun p O hp hO => ?_⟩
        refine P2.tup F h ?_ hp hO
        generalize j.toNat = n
        induction n with
        | zero => simp [Reps]
        | succ n ih => rw [List.replicate_succ, List.replicate_succ, List.flatten_cons, List.flatten_cons]; exact h3.append ih
      · split at e
        · rename_i hj
          cases e
          subst hj
          exact op_rep1 pins s σ _ _ _ v u Q I rx ry ⟨a, xs, rfl, rfl, hK ▸ h1.sq, P2.here F h (by simp only [RepV]; exact ⟨a, xs, rfl, h1, h3⟩)⟩
        · cases e
    | _ => simp [mulP] at e
  | _ => cases q <;> simp [mulP] at e
theorem snd_op (hK : T.K = X.K) (o : O2) : OpR X (binaryOp (opE o)) (rP2 T (op2 o)) := by
  cases o with
  | add => exact snd_add hK
  | mul => exact snd_mul hK
  | sub =>
    intro pins s σ H x y v u Q I rx ry h
    obtain ⟨w, σ', sl, mu, p, q, z, rfl, F, rp, rq, e, h⟩ := h
    cases p <;> cases q <;> simp [op2] at e
    subst e
    simp only [RepV] at rp rq
    subst rp rq
    exact op_sub pins s σ _ _ _ v u Q I rx ry ⟨_, _, rfl, rfl, P2.here F h (by simp only [RepV])⟩
  | fdv =>
    intro pins s σ H x y v u Q I rx ry h
    obtain ⟨w, σ', sl, mu, p, q, z, rfl, F, rp, rq, e, h⟩ := h
    cases p <;> cases q <;> simp only [op2] at e <;> try cases e
    split at e
    · rename_i hs
      simp only [Option.some.injEq] at e
      subst e
      simp only [RepV] at rp rq
      subst rp rq
      exact op_fdivW pins s σ _ _ _ v u Q I rx ry ⟨_, _, rfl, rfl, wide_div hs.1 hs.2 (by decide) (by decide), P2.here F h (by simp only [RepV])⟩
    · cases e
  | mod =>
    intro pins s σ H x y v u Q I rx ry h
    obtain ⟨w, σ', sl, mu, p, q, z, rfl, F, rp, rq, e, h⟩ := h
    cases p <;> cases q <;> simp only [op2] at e <;> try cases e
    split at e
    · rename_i hs
      simp only [Option.some.injEq] at e
      subst e
      simp only [RepV] at rp rq
      subst rp rq
      exact op_mod pins s σ _ _ _ v u Q I rx ry ⟨_, _, rfl, rfl, hs, P2.here F h (by simp only [RepV])⟩
    · cases e
  | pow =>
    intro pins s σ H x y v u Q I rx ry h
    obtain ⟨w, σ', sl, mu, p, q, z, rfl, F, rp, rq, e, h⟩ := h
    cases p <;> cases q <;> simp only [op2] at e <;> try cases e
    split at e
    · rename_i hs
      simp only [Option.some.injEq] at e
      subst e
      simp only [RepV] at rp rq
      subst rp rq
      obtain ⟨h0, h1, h2⟩ := hs
      rw [small_iff] at h2
      exact op_pow pins s σ _ _ _ v u Q I rx ry ⟨_, _, rfl, rfl, ⟨h0, h1, by omega⟩, P2.here F h (by simp only [RepV])⟩
    · cases e

/-! ### comparisons -/
def rC2 (T : Tb) (f : PV → PV → Option Bool) : R2 := rP2 T fun p q => (f p q).map .bl
theorem any_toDs (a : PV) (ha : isD a = true) : ∀ (l : List PV), isDs l = true → (l.any fun z => eqP z a) = (toDs l).any fun z => PyData.eqv z (toD a)
  | [], _ => rfl
  | x :: l, h => by
    simp only [isDs, Bool.and_eq_true] at h
    simp only [toDs, List.any_cons]
    rw [any_toDs a ha l h.2, eqP_eqv x a h.1 ha]
theorem one_sign {x : List Nat} {c : Nat} (h : x = [c]) : (⟨x.toArray⟩ : Str) = ⟨#[c]⟩ := by subst h; rfl
theorem snd_inn (hK : T.K = X.K) (hr : X.A.units + 66 < cLine) : OpR X (compareOp .In) (rC2 T inP) := by
  intro pins s σ H x y v u Q I rx ry h
  obtain ⟨w, σ', sl, mu, p, q, z, rfl, F, rp, rq, e, h⟩ := h
  simp only [Option.map_eq_some_iff] at e
  obtain ⟨b, e, rfl⟩ := e
  have fin : ∀ {b' : Bool} {σ'' : L2.St} {s' : Shared}, b' = b → Q (.bl b') w.H := fun {b' _ _} e' => by subst e'; exact P2.here F h (by simp only [RepV])
  cases q with
  | str ys =>
    cases p with
    | str xs =>
      match xs, e, rp with
      | [c], e, rp =>
        simp only [inP, Option.some.injEq] at e
        simp only [RepV] at rp rq
        obtain ⟨rfl, _⟩ := rp
        obtain ⟨rfl, _⟩ := rq
        refine op_in_sign pins s σ _ _ _ v u Q I rx ry ⟨c, _, rfl, rfl, ?_⟩
        refine P2.here F h ?_
        simp only [RepV, V.bl.injEq]
        rw [← e]
        simp
      | [], e, _ => simp [inP] at e
      | _ :: _ :: _, e, _ => simp [inP] at e
    | _ => simp [inP] at e
  | tup l =>
    simp only [inP] at e
    split at e
    · rename_i hs
      simp only [Bool.and_eq_true] at hs
      obtain ⟨⟨d1, d2⟩, d3⟩ := hs
      simp only [Option.some.injEq] at e
      have D1 := RepV.dp p x d1 rp
      have D2 := RepV.dp (.tup l) y (by simpa [isD] using d2) rq
      simp only [toD] at D2
      obtain ⟨as, r1⟩ := Dp.reads I _ _ _ (hK ▸ D1) rx
      obtain ⟨bs, r2⟩ := Dp.reads I _ _ _ (hK ▸ D2) ry
      refine PySem.SeqAt.in_tuple_data r2 r1 (plains_toD l d2) (plain_toD p d1) ?_ ?_
      · rw [← deps_toD l d2, ← dep_toD p d1]
        have := Nat.le_of_ble_eq_true d3
        omega
      · refine ⟨.bl _, w.H, I, rfl, ?_⟩
        refine P2.here F h ?_
        simp only [RepV, V.bl.injEq]
        rw [← e, any_toDs p d1 l d2]
    · cases e
  | lst l =>
    simp only [inP] at e
    split at e
    · rename_i hs
      simp only [Bool.and_eq_true] at hs
      obtain ⟨⟨d1, d2⟩, d3⟩ := hs
      simp only [Option.some.injEq] at e
      have D1 := RepV.dp p x d1 rp
      have D2 := RepV.dp (.lst l) y (by simpa [isD] using d2) rq
      simp only [toD] at D2
      obtain ⟨as, r1⟩ := Dp.reads I _ _ _ (hK ▸ D1) rx
      obtain ⟨bs, r2⟩ := Dp.reads I _ _ _ (hK ▸ D2) ry
      refine PySem.SeqAt.in_list_data r2 r1 (plains_toD l d2) (plain_toD p d1) ?_ ?_
      · rw [← deps_toD l d2, ← dep_toD p d1]
        have := Nat.le_of_ble_eq_true d3
        omega
      · refine ⟨.bl _, w.H, I, rfl, ?_⟩
        refine P2.here F h ?_
        simp only [RepV, V.bl.injEq]
        rw [← e, any_toDs p d1 l d2]
    · cases e
  | _ => simp [inP] at e
theorem snd_nin (hK : T.K = X.K) (hr : X.A.units + 66 < cLine) : OpR X (compareOp .NotIn) (rC2 T fun p q => (inP p q).map not) := by
  intro pins s σ H x y v u Q I rx ry h
  obtain ⟨w, σ', sl, mu, p, q, z, rfl, F, rp, rq, e, h⟩ := h
  simp only [Option.map_eq_some_iff] at e
  obtain ⟨b, ⟨b0, e, rfl⟩, rfl⟩ := e
  cases q with
  | str ys =>
    cases p with
    | str xs =>
      match xs, e, rp with
      | [c], e, rp =>
        simp only [inP, Option.some.injEq] at e
        simp only [RepV] at rp rq
        obtain ⟨rfl, _⟩ := rp
        obtain ⟨rfl, _⟩ := rq
        refine op_notIn_sign pins s σ _ _ _ v u Q I rx ry ⟨c, _, rfl, rfl, ?_⟩
        refine P2.here F h ?_
        simp only [RepV, V.bl.injEq]
        rw [← e]
        simp
      | [], e, _ => simp [inP] at e
      | _ :: _ :: _, e, _ => simp [inP] at e
    | _ => simp [inP] at e
  | tup l =>
    simp only [inP] at e
    split at e
    · rename_i hs
      simp only [Bool.and_eq_true] at hs
      obtain ⟨⟨d1, d2⟩, d3⟩ := hs
      simp only [Option.some.injEq] at e
      have D1 := RepV.dp p x d1 rp
      have D2 := RepV.dp (.tup l) y (by simpa [isD] using d2) rq
      simp only [toD] at D2
      obtain ⟨as, r1⟩ := Dp.reads I _ _ _ (hK ▸ D1) rx
      obtain ⟨bs, r2⟩ := Dp.reads I _ _ _ (hK ▸ D2) ry
      refine PySem.SeqAt.notIn_tuple_data r2 r1 (plains_toD l d2) (plain_toD p d1) ?_ ?_
      · rw [← deps_toD l d2, ← dep_toD p d1]
        have := Nat.le_of_ble_eq_true d3
        omega
      · refine ⟨.bl _, w.H, I, rfl, ?_⟩
        refine P2.here F h ?_
        simp only [RepV, V.bl.injEq]
        rw [← e, any_toDs p d1 l d2]
    · cases e
  | lst l =>
    simp only [inP] at e
    split at e
    · rename_i hs
      simp only [Bool.and_eq_true] at hs
      obtain ⟨⟨d1, d2⟩, d3⟩ := hs
      simp only [Option.some.injEq] at e
      have D1 := RepV.dp p x d1 rp
      have D2 := RepV.dp (.lst l) y (by simpa [isD] using d2) rq
      simp only [toD] at D2
      obtain ⟨as, r1⟩ := Dp.reads I _ _ _ (hK ▸ D1) rx
      obtain ⟨bs, r2⟩ := Dp.reads I _ _ _ (hK ▸ D2) ry
      refine PySem.SeqAt.notIn_list_data r2 r1 (plains_toD l d2) (plain_toD p d1) ?_ ?_
      · rw [← deps_toD l d2, ← dep_toD p d1]
        have := Nat.le_of_ble_eq_true d3
        omega
      · refine ⟨.bl _, w.H, I, rfl, ?_⟩
        refine P2.here F h ?_
        simp only [RepV, V.bl.injEq]
        rw [← e, any_toDs p d1 l d2]
    · cases e
  | _ => simp [inP] at e
theorem eqC_parts {p q : PV} {b : Bool} (e : eqC p q = some b) : isD p = true ∧ isD q = true ∧ min (dep p) (dep q) ≤ 64 ∧ eqP p q = b := by
  unfold eqC at e
  split at e
  · rename_i hs
    simp only [Bool.and_eq_true] at hs
    exact ⟨hs.1.1, hs.1.2, Nat.le_of_ble_eq_true hs.2, Option.some.inj e⟩
  · cases e
theorem snd_cmp (hK : T.K = X.K) (hr : X.A.units + 66 < cLine) (o : C2) : OpR X (compareOp (cmE o)) (rC2 T (cmp o)) := by
  cases o with
  | inn => exact snd_inn hK hr
  | nin => exact snd_nin hK hr
  | eq =>
    intro pins s σ H x y v u Q I rx ry h
    obtain ⟨w, σ', sl, mu, p, q, z, rfl, F, rp, rq, e, h⟩ := h
    simp only [Option.map_eq_some_iff, cmp] at e
    obtain ⟨b, e, rfl⟩ := e
    obtain ⟨d1, d2, d3, e⟩ := eqC_parts e
    obtain ⟨as, r1⟩ := Dp.reads I _ _ _ (hK ▸ RepV.dp p x d1 rp) rx
    obtain ⟨bs, r2⟩ := Dp.reads I _ _ _ (hK ▸ RepV.dp q y d2 rq) ry
    refine PySem.SeqAt.eq_plain r1 r2 (plain_toD p d1) (plain_toD q d2) (by rw [← dep_toD p d1, ← dep_toD q d2]; omega) ⟨.bl _, w.H, I, rfl, ?_⟩
    rw [← eqP_eqv p q d1 d2, e]
    exact P2.here F h (by simp only [RepV])
  | ne =>
    intro pins s σ H x y v u Q I rx ry h
    obtain ⟨w, σ', sl, mu, p, q, z, rfl, F, rp, rq, e, h⟩ := h
    simp only [Option.map_eq_some_iff, cmp] at e
    obtain ⟨b, ⟨b0, e, rfl⟩, rfl⟩ := e
    obtain ⟨d1, d2, d3, e⟩ := eqC_parts e
    obtain ⟨as, r1⟩ := Dp.reads I _ _ _ (hK ▸ RepV.dp p x d1 rp) rx
    obtain ⟨bs, r2⟩ := Dp.reads I _ _ _ (hK ▸ RepV.dp q y d2 rq) ry
    refine PySem.SeqAt.ne_plain r1 r2 (plain_toD p d1) (plain_toD q d2) (by rw [← dep_toD p d1, ← dep_toD q d2]; omega) ⟨.bl _, w.H, I, rfl, ?_⟩
    rw [← eqP_eqv p q d1 d2, e]
    exact P2.here F h (by simp only [RepV])
  | lt =>
    intro pins s σ H x y v u Q I rx ry h
    obtain ⟨w, σ', sl, mu, p, q, z, rfl, F, rp, rq, e, h⟩ := h
    simp only [Option.map_eq_some_iff] at e
    obtain ⟨b, e, rfl⟩ := e
    cases p with
    | int i =>
      cases q <;> simp [cmp] at e
      subst e
      simp only [RepV] at rp rq
      subst rp rq
      exact op_lt pins s σ _ _ _ v u Q I rx ry ⟨_, _, rfl, rfl, P2.here F h (by simp only [RepV])⟩
    | str i =>
      cases q <;> simp [cmp] at e
      subst e
      simp only [RepV] at rp rq
      obtain ⟨rfl, _⟩ := rp
      obtain ⟨rfl, _⟩ := rq
      exact op_lt_str pins s σ _ _ _ v u Q I rx ry ⟨_, _, rfl, rfl, P2.here F h (by simp only [RepV, ltS])⟩
    | _ => cases q <;> simp [cmp] at e
  | le =>
    intro pins s σ H x y v u Q I rx ry h
    obtain ⟨w, σ', sl, mu, p, q, z, rfl, F, rp, rq, e, h⟩ := h
    simp only [Option.map_eq_some_iff] at e
    obtain ⟨b, e, rfl⟩ := e
    cases p <;> cases q <;> simp [cmp] at e
    subst e
    simp only [RepV] at rp rq
    subst rp rq
    exact op_le pins s σ _ _ _ v u Q I rx ry ⟨_, _, rfl, rfl, P2.here F h (by simp only [RepV])⟩
  | gt =>
    intro pins s σ H x y v u Q I rx ry h
    obtain ⟨w, σ', sl, mu, p, q, z, rfl, F, rp, rq, e, h⟩ := h
    simp only [Option.map_eq_some_iff] at e
    obtain ⟨b, e, rfl⟩ := e
    cases p <;> cases q <;> simp [cmp] at e
    subst e
    simp only [RepV] at rp rq
    subst rp rq
    exact op_gt pins s σ _ _ _ v u Q I rx ry ⟨_, _, rfl, rfl, P2.here F h (by simp only [RepV])⟩
  | ge =>
    intro pins s σ H x y v u Q I rx ry h
    obtain ⟨w, σ', sl, mu, p, q, z, rfl, F, rp, rq, e, h⟩ := h
    simp only [Option.map_eq_some_iff] at e
    obtain ⟨b, e, rfl⟩ := e
    cases p <;> cases q <;> simp [cmp] at e
    subst e
    simp only [RepV] at rp rq
    subst rp rq
    exact op_ge pins s σ _ _ _ v u Q I rx ry ⟨_, _, rfl, rfl, P2.here F h (by simp only [RepV])⟩
end
end RA

/-! Subscripts, slices, isinstance, built-ins on own values. -/
namespace RA
open PySem L2 PyProof.Rows PySem.SeqAt

theorem IxR.imp {X : Cx} {r r' : R2} (h : IxR X r) (f : ∀ x y H Q, r' x y H Q → r x y H Q) : IxR X r' := fun value slice pins s σ H x y v u Q I rx ry q hs => h value slice pins s σ H x y v u Q I rx ry (f x y H Q q) hs
theorem SlR.imp {X : Cx} {r r' : V → Option Int → Option Int → Hp → VK → Prop} (h : SlR X r) (f : ∀ x lo hi H Q, r' x lo hi H Q → r x lo hi H Q) : SlR X r' := fun pins s σ H x v vl vu lo hi sl Q I rx hs pl pu q => h pins s σ H x v vl vu lo hi sl Q I rx hs pl pu (f x lo hi H Q q)
theorem CallR.imp {X : Cx} {g : Value} {r r' : List V → Hp → VK → Prop} (h : CallR X g r) (f : ∀ xs H Q, r' xs H Q → r xs H Q) : CallR X g r' := fun pins s σ H xs us Q I rs q => h pins s σ H xs us Q I rs (f xs H Q q)
theorem MtR.imp {X : Cx} {id : String} {r r' : V → List V → Hp → VK → Prop} (h : MtR X id r) (f : ∀ x xs H Q, r' x xs H Q → r x xs H Q) : MtR X id r' := fun pins s σ H x xs v us Q I rx rs q => h pins s σ H x xs v us Q I rx rs (f x xs H Q q)

/-- what an operation of a receiver and arguments wishes -/
def rPs (T : Tb) (f : List PV → Option PV) : List V → Hp → VK → Prop := fun vs H Q => ∃ w σ sl mu ps z, w.H = H ∧ FRel T w σ sl mu ∧ Reps T w ps vs ∧ f ps = some z ∧ ∀ w', Ext w w' → FRel T w' σ sl mu → ∀ v, RepV T w' z v → Q v w'.H

theorem pIx_at {α : Type} {n : Nat} {i : Int} {j : Nat} {xs : List α} (h : pIx n i = some j) (hn : n = xs.length) : atI xs i = xs[j]? := by
  subst hn
  have e : ixN xs.length i = some j := h
  unfold atI
  rw [e]; rfl
theorem vint_get {l : List Int} {j : Nat} {i : Int} (h : l[j]? = some i) : (l.map V.int)[j]? = some (.int i) := by rw [List.getElem?_map, h]; rfl
section
variable {T : Tb} {X : Cx}
/-- a subscript where the container may be a cell -/
def idxM (mu : List PV) (x y : PV) : Option PV := match x with | .ref n => (mu[n]?).bind fun c => idxP c y | _ => idxP x y
def rIxP (T : Tb) : R2 := fun x y H Q => ∃ w σ sl mu p q z, w.H = H ∧ FRel T w σ sl mu ∧ RepV T w p x ∧ RepV T w q y ∧ idxM mu p q = some z ∧ ∀ w', Ext w w' → FRel T w' σ sl mu → ∀ v, RepV T w' z v → Q v w'.H
theorem idxP_lst {w : Wd} {σ : L2.St} {sl : List Sl} {mu : List PV} {l : List PV} {q z : PV} {y : V} {xs : List V} {Q : VK} (F : FRel T w σ sl mu) (h : ∀ w', Ext w w' → FRel T w' σ sl mu → ∀ v, RepV T w' z v → Q v w'.H) (rl : Reps T w l xs) (rq : RepV T w q y)
    (e : idxP (.lst l) q = some z) : ∃ i v, y = .int i ∧ atI xs i = some v ∧ Q v w.H := by
  cases q with
  | int i =>
    simp only [idxP, Option.bind_eq_some_iff] at e
    obtain ⟨j, e1, e2⟩ := e
    obtain ⟨v, h1, h2⟩ := rl.get e2
    simp only [RepV] at rq
    exact ⟨i, v, rq, by rw [pIx_at e1 rl.len]; exact h1, P2.here F h h2⟩
  | _ => simp [idxP] at e
theorem snd_idx (hK : T.K = X.K) : IxR X (rIxP T) := by
  refine IxR.imp ix_seq fun x y H Q h => ?_
  obtain ⟨w, σ', sl, mu, p, q, z, rfl, F, rp, rq, e, h⟩ := h
  cases p with
  | ref n =>
    simp only [idxM, Option.bind_eq_some_iff] at e
    obtain ⟨c, e0, e⟩ := e
    simp only [RepV] at rp
    obtain ⟨a, rfl, hm⟩ := rp
    obtain ⟨cr, _⟩ := F.cel.cl n c a e0 hm
    cases c with
    | lst l =>
      obtain ⟨xs, k1, k2⟩ := cr
      obtain ⟨i, v, rfl, h2, h3⟩ := idxP_lst F h k2 rq e
      exact .inl ⟨a, xs, i, v, rfl, rfl, SqL.of k1, h2, h3⟩
    | obj _ _ => simp [idxP] at e
    | dic _ _ => simp [idxP] at e
    | cl _ => simp [idxP] at e
    | _ => exact cr.elim
  | lst l =>
    simp only [idxM] at e
    simp only [RepV] at rp
    obtain ⟨a, xs, rfl, k1, _, k2⟩ := rp
    obtain ⟨i, v, rfl, h2, h3⟩ := idxP_lst F h k2 rq e
    exact .inl ⟨a, xs, i, v, rfl, rfl, SqL.of k1, h2, h3⟩
  | tup l =>
    simp only [idxM] at e
    simp only [RepV] at rp
    obtain ⟨a, xs, rfl, k1, k2⟩ := rp
    obtain ⟨i, v, rfl, h2, h3⟩ := idxP_lst F h k2 rq (by cases q <;> exact e)
    exact .inr (.inl ⟨a, xs, i, v, rfl, rfl, hK ▸ k1.sq, h2, h3⟩)
  | fro l =>
    simp only [idxM] at e
    simp only [RepV] at rp
    obtain ⟨a, rfl, k1⟩ := rp
    cases q with
    | int i =>
      simp only [idxP, Option.bind_eq_some_iff, Option.map_eq_some_iff] at e
      obtain ⟨j, e1, m, e2, rfl⟩ := e
      simp only [RepV] at rq
      exact .inl ⟨a, _, i, .int m, rfl, rq, hK ▸ k1.sq, by rw [pIx_at e1 (by rw [List.length_map])]; exact vint_get e2, P2.here F h (by simp only [RepV])⟩
    | _ => simp [idxP] at e
  | str l =>
    simp only [idxM] at e
    simp only [RepV] at rp
    obtain ⟨rfl, hl⟩ := rp
    cases q with
    | int i =>
      simp only [idxP, Option.bind_eq_some_iff, Option.map_eq_some_iff] at e
      obtain ⟨j, e1, m, e2, rfl⟩ := e
      simp only [RepV] at rq
      refine .inr (.inr ⟨_, i, m, rfl, rq, by rw [str_len, ← SZ_line]; exact hl, ?_, P2.here F h ?_⟩)
      · show atI l.toArray.toList i = some m
        rw [List.toList_toArray, pIx_at e1 rfl]; exact e2
      · simp only [RepV]; exact ⟨trivial, show 1 ≤ SZ by decide⟩
    | _ => simp [idxP] at e
  | _ => cases q <;> simp [idxM, idxP] at e

theorem sIx_eq (n d : Nat) (o : Option Int) : HT.sIx n d o = sIx n d o := by
  cases o with
  | none => rfl
  | some i => show (if i < 0 then (i + (n : Int)).toNat else min i.toNat n) = _ <;> rfl
theorem cut_map {α β : Type} (f : α → β) (l : List α) (lo hi : Option Int) : (cut l lo hi).map f = cut (l.map f) lo hi := by
  unfold cut
  rw [List.map_take, List.map_drop, List.length_map]
theorem cutV_eq (xs : List V) (lo hi : Option Int) : cutV xs lo hi = cut xs lo hi := by
  unfold cutV cut
  rw [sIx_eq, sIx_eq]
theorem Reps.cut {w : Wd} {l : List PV} {xs : List V} (h : Reps T w l xs) (lo hi : Option Int) : Reps T w (cut l lo hi) (RA.cut xs lo hi) := by
  unfold RA.cut
  rw [h.len]
  exact (h.drop _).take _
theorem cut_all {α : Type} {l : List α} {lo hi : Option Int} (h : sIx l.length 0 lo = 0 ∧ sIx l.length l.length hi = l.length) : cut l lo hi = l := by
  unfold cut
  rw [h.1, h.2]
  simp
theorem cut_len {α : Type} (l : List α) (lo hi : Option Int) : (cut l lo hi).length ≤ l.length := by
  unfold cut
  rw [List.length_take, List.length_drop]
  omega
def rSlP (T : Tb) : V → Option Int → Option Int → Hp → VK → Prop := fun x lo hi H Q => ∃ w σ sl mu p z, w.H = H ∧ FRel T w σ sl mu ∧ RepV T w p x ∧ sliP p lo hi = some z ∧ ∀ w', Ext w w' → FRel T w' σ sl mu → ∀ v, RepV T w' z v → Q v w'.H
theorem snd_sli (hK : T.K = X.K) : SlR X (rSlP T) := by
  refine SlR.imp (sl_list.or (sl_tupP.or C8.sl_txt)) fun x lo hi H Q h => ?_
  obtain ⟨w, σ', sl, mu, p, z, rfl, F, rp, e, h⟩ := h
  cases p with
  | lst l =>
    simp only [sliP, Option.some.injEq] at e
    subst e
    simp only [RepV] at rp
    obtain ⟨a, xs, rfl, k1, _, k2⟩ := rp
    refine .inl ⟨a, xs, rfl, SqL.of k1, fun p hp => ?_⟩
    rw [cutV_eq]
    exact P2.lst F h (k2.cut lo hi) hp
  | fro l =>
    simp only [sliP, Option.some.injEq] at e
    subst e
    simp only [RepV] at rp
    obtain ⟨a, rfl, k1⟩ := rp
    refine .inl ⟨a, _, rfl, hK ▸ k1.sq, fun p hp => ?_⟩
    rw [cutV_eq]
    refine P2.lst F h ?_ hp
    rw [← cut_map]
    generalize cut l lo hi = r
    induction r with
    | nil => simp [Reps]
    | cons i r ih => simp only [List.map_cons, Reps, RepV]; exact ⟨_, _, rfl, rfl, ih⟩
  | tup l =>
    simp only [sliP, Option.some.injEq] at e
    subst e
    simp only [RepV] at rp
    obtain ⟨a, xs, rfl, k1, k2⟩ := rp
    refine .inr (.inl ⟨a, xs, rfl, hK ▸ k1.sq, fun hw => ?_, fun hw p O hp hO => ?_⟩)
    · rw [sIx_eq, sIx_eq] at hw
      refine P2.here F h ?_
      simp only [RepV]
      rw [cut_all (by rw [k2.len]; exact hw)]
      exact ⟨a, xs, rfl, k1, k2⟩
    · rw [cutV_eq]
      exact P2.tup F h (k2.cut lo hi) hp hO
  | str l =>
    simp only [sliP, Option.some.injEq] at e
    subst e
    simp only [RepV] at rp
    obtain ⟨rfl, hl⟩ := rp
    refine .inr (.inr ⟨_, rfl, by rw [str_len, ← SZ_line]; exact hl, ?_⟩)
    rw [← C8.cutS_slice]
    have e : cutS ⟨l.toArray⟩ lo hi = ⟨(cut l lo hi).toArray⟩ := by
      unfold cutS cut
      rw [sIx_eq, sIx_eq, str_len]
    rw [e]
    exact P2.here F h (by simp only [RepV]; exact ⟨trivial, Nat.le_trans (cut_len _ _ _) hl⟩)
  | _ => simp [sliP] at e

/-! ### isinstance -/
def tyN : Ty → String
  | .int => "int" | .bool => "bool" | .str => "str" | .tup => "tuple" | .lst => "list"
def rIsi (T : Tb) (t : Ty) : List V → Hp → VK → Prop := fun vs H Q => ∃ w σ sl mu p x, w.H = H ∧ FRel T w σ sl mu ∧ vs = [x, .ty (tyN t)] ∧ RepV T w p x ∧ isD p = true ∧ Q (.bl (isTy t p)) H
theorem snd_isi (hK : T.K = X.K) (t : Ty) : CallR X (.builtin "isinstance") (rIsi T t) := by
  intro pins s σ H xs us Q I rs h
  obtain ⟨w, σ', sl, mu, p, x, rfl, F, rfl, rp, d, q⟩ := h
  obtain ⟨u, u2, rfl, r1, r2⟩ := Vals.two rs
  cases r2
  obtain ⟨as, rd⟩ := Dp.reads I _ _ _ (hK ▸ RepV.dp p x d rp) r1
  have fin : ∀ (k : Nat) (b : Bool), b = isTy t p → EP X pins σ Q (.bool b) { s with toks := k } := fun k b e => by subst e; exact ⟨.bl _, w.H, I.tok k, rfl, q⟩
  cases t with
  | int => exact PySem.W.isinstance_int_data rd fun k _ => fin k _ (by cases p <;> rfl)
  | bool => exact PySem.W.isinstance_bool_data rd fun k _ => fin k _ (by cases p <;> rfl)
  | str => exact PySem.W.isinstance_str_data rd fun k _ => fin k _ (by cases p <;> rfl)
  | tup => exact PySem.W.isinstance_tuple_data rd fun k _ => fin k _ (by cases p <;> rfl)
  | lst => exact PySem.W.isinstance_list_data rd fun k _ => fin k _ (by cases p <;> rfl)

/-! ### built-ins -/
theorem minI_mem : ∀ (a : Int) (r : List Int), minI a r ∈ a :: r ∧ ∀ y ∈ a :: r, minI a r ≤ y
  | a, [] => by simp [minI]
  | a, b :: r => by
    simp only [minI]
    obtain ⟨h1, h2⟩ := minI_mem (if b < a then b else a) r
    have hle : (if b < a then b else a) ≤ a ∧ (if b < a then b else a) ≤ b := by split <;> omega
    have h3 := h2 _ List.mem_cons_self
    refine ⟨?_, fun y hy => ?_⟩
    · rcases List.mem_cons.mp h1 with z | z
      · rw [z]; split <;> simp
      · simp [z]
    · rcases List.mem_cons.mp hy with z | z
      · subst z; exact Int.le_trans h3 hle.1
      · rcases List.mem_cons.mp z with z | z
        · subst z; exact Int.le_trans h3 hle.2
        · exact h2 y (List.mem_cons_of_mem _ z)
theorem maxI_mem : ∀ (a : Int) (r : List Int), maxI a r ∈ a :: r ∧ ∀ y ∈ a :: r, y ≤ maxI a r
  | a, [] => by simp [maxI]
  | a, b :: r => by
    simp only [maxI]
    obtain ⟨h1, h2⟩ := maxI_mem (if a < b then b else a) r
    have hle : a ≤ (if a < b then b else a) ∧ b ≤ (if a < b then b else a) := by split <;> omega
    have h3 := h2 _ List.mem_cons_self
    refine ⟨?_, fun y hy => ?_⟩
    · rcases List.mem_cons.mp h1 with z | z
      · rw [z]; split <;> simp
      · simp [z]
    · rcases List.mem_cons.mp hy with z | z
      · subst z; exact Int.le_trans hle.1 h3
      · rcases List.mem_cons.mp z with z | z
        · subst z; exact Int.le_trans hle.2 h3
        · exact h2 y (List.mem_cons_of_mem _ z)
theorem decN_num : ∀ (f n : Nat), n < 10 ^ (f + 1) → decN (f + 1) n = TL.numL n
  | f, n, h => by
    unfold decN
    by_cases h1 : n < 10
    · rw [if_pos h1, TL.numL_lt h1]
    · rw [if_neg h1, TL.numL_step (by omega)]
      cases f with
      | zero => simp at h; omega
      | succ f => rw [decN_num f (n / 10) (by rw [Nat.pow_succ] at h; omega)]
def biT : Bi → Value
  | .list => .type "list" | .lsth => .type "list" | .tuple => .type "tuple" | .str => .type "str" | .int => .type "int"
  | .len => .builtin "len" | .all => .builtin "all" | .any => .builtin "any" | .sum1 => .builtin "sum" | .sum2 => .builtin "sum" | .min => .builtin "min" | .max => .builtin "max" | .abs => .builtin "abs"
theorem reps1 {w : Wd} {p : PV} {vs : List V} (h : Reps T w [p] vs) : ∃ v, vs = [v] ∧ RepV T w p v := by
  simp only [Reps] at h
  obtain ⟨v, r, rfl, h1, rfl⟩ := h
  exact ⟨v, rfl, h1⟩
theorem reps2 {w : Wd} {p q : PV} {vs : List V} (h : Reps T w [p, q] vs) : ∃ v u, vs = [v, u] ∧ RepV T w p v ∧ RepV T w q u := by
  simp only [Reps] at h
  obtain ⟨v, r, rfl, h1, u, r2, rfl, h2, rfl⟩ := h
  exact ⟨v, u, rfl, h1, h2⟩
theorem strs_map (ns : List (List Nat)) : ns.map (fun x => V.str ⟨x.toArray⟩) = (ns.map SX.S).map V.str := by rw [List.map_map]; rfl
theorem joinS_eq (s : List Nat) : ∀ xs : List (List Nat), joinS s xs = TL.joinL s xs
  | [] => rfl
  | [_] => rfl
  | x :: y :: r => by
    show x ++ (s ++ joinS s (y :: r)) = x ++ (s ++ TL.joinL s (y :: r))
    rw [joinS_eq s (y :: r)]
theorem joinS_len (s : List Nat) : ∀ xs : List (List Nat), (joinS s xs).length ≤ (xs.map List.length).sum + xs.length * s.length
  | [] => by simp [joinS]
  | [x] => by simp [joinS]
  | x :: y :: r => by
    have h := joinS_len s (y :: r)
    simp only [joinS, List.length_append, List.map_cons, List.sum_cons, List.length_cons] at h ⊢
    have e : (r.length + 1 + 1) * s.length = (r.length + 1) * s.length + s.length := by rw [Nat.succ_mul]
    omega
theorem charsReps {w : Wd} : ∀ (x : List Nat), Reps T w (x.map fun c => PV.str [c]) (x.map fun c => V.str ⟨#[c]⟩)
  | [] => by simp [Reps]
  | c :: x => by
    simp only [List.map_cons, Reps, RepV]
    exact ⟨_, _, rfl, ⟨rfl, show 1 ≤ SZ by decide⟩, charsReps x⟩
end

theorem bi_all {ps : List PV} {z : PV} (e : bi .all ps = some z) : ∃ l bs, ps = [.lst l] ∧ pBls l = some bs ∧ z = .bl (bs.all id) := by
  unfold bi at e
  split at e <;> simp_all
  obtain ⟨a, h1, h2⟩ := e
  exact ⟨_, h1, h2.symm⟩
theorem bi_len {ps : List PV} {z : PV} (e : bi .len ps = some z) : (∃ l, ps = [.tup l] ∧ z = .int l.length) ∨ (∃ l, ps = [.lst l] ∧ z = .int l.length) ∨ (∃ l, ps = [.fro l] ∧ z = .int l.length) ∨ (∃ l, ps = [.str l] ∧ z = .int l.length) := by
  unfold bi at e
  split at e <;> simp_all
theorem bi_any {ps : List PV} {z : PV} (e : bi .any ps = some z) : ∃ l bs, ps = [.lst l] ∧ pBls l = some bs ∧ z = .bl (bs.any id) := by
  unfold bi at e
  split at e <;> simp_all
  obtain ⟨a, h1, h2⟩ := e
  exact ⟨_, h1, h2.symm⟩
theorem bi_sum1 {ps : List PV} {z : PV} (e : bi .sum1 ps = some z) : ∃ l bs, ps = [.lst l] ∧ pInts l = some bs ∧ z = .int bs.sum := by
  unfold bi at e
  split at e <;> simp_all
  obtain ⟨a, h1, h2⟩ := e
  exact ⟨_, h1, h2.symm⟩
theorem bi_min {ps : List PV} {z : PV} (e : bi .min ps = some z) : ∃ l a r, ps = [.lst l] ∧ pInts l = some (a :: r) ∧ z = .int (minI a r) := by
  unfold bi at e
  split at e <;> (try simp only [Option.bind_eq_some_iff] at e) <;> simp_all
  obtain ⟨ns, h1, h2⟩ := e
  cases ns <;> simp_all
  exact ⟨_, _, ⟨rfl, rfl⟩, h2.symm⟩
theorem bi_max {ps : List PV} {z : PV} (e : bi .max ps = some z) : ∃ l a r, ps = [.lst l] ∧ pInts l = some (a :: r) ∧ z = .int (maxI a r) := by
  unfold bi at e
  split at e <;> (try simp only [Option.bind_eq_some_iff] at e) <;> simp_all
  obtain ⟨ns, h1, h2⟩ := e
  cases ns <;> simp_all
  exact ⟨_, _, ⟨rfl, rfl⟩, h2.symm⟩
theorem bi_list {ps : List PV} {z : PV} (e : bi .list ps = some z) : (∃ l, ps = [.lst l] ∧ z = .lst l) ∨ (∃ l, ps = [.tup l] ∧ z = .lst l) ∨ (∃ x, ps = [.str x] ∧ z = .lst (x.map fun c => .str [c])) := by
  unfold bi at e
  split at e <;> simp_all
  subst e; simp
theorem bi_tuple {ps : List PV} {z : PV} (e : bi .tuple ps = some z) : (∃ l, ps = [.lst l] ∧ z = .tup l) ∨ (∃ l, ps = [.tup l] ∧ z = .tup l) := by
  unfold bi at e
  split at e <;> simp_all
  subst e; simp
theorem bi_str {ps : List PV} {z : PV} (e : bi .str ps = some z) : ∃ i : Int, ps = [.int i] ∧ 0 ≤ i ∧ i.toNat < 10 ^ 200 ∧ z = .str (decN 200 i.toNat) := by
  unfold bi at e
  split at e <;> simp_all
theorem bi_abs {ps : List PV} {z : PV} (e : bi .abs ps = some z) : ∃ i : Int, ps = [.int i] ∧ z = .int (if i < 0 then -i else i) := by
  unfold bi at e
  split at e <;> simp_all
theorem dgs_of : ∀ {t : List Nat} {n m : Nat}, dgs n t = some m → PySem.NumText.AllDigits t ∧ m = t.foldl (fun a c => a * 10 + (c - 48)) n
  | [], n, m, h => by
    cases h
    exact ⟨fun c hc => absurd hc (by simp), rfl⟩
  | d :: r, n, m, h => by
    unfold dgs at h
    split at h
    · rename_i q
      simp only [Bool.and_eq_true] at q
      have q1 := Nat.le_of_ble_eq_true q.1
      have q2 := Nat.le_of_ble_eq_true q.2
      obtain ⟨h1, h2⟩ := dgs_of h
      refine ⟨fun c hc => ?_, h2⟩
      rcases List.mem_cons.mp hc with rfl | hc
      · exact ⟨q1, q2⟩
      · exact h1 c hc
    · cases h
theorem decI_of {t : List Nat} {n : Int} (h : decI t = some n) : PySem.intText? ⟨t.toArray⟩ = some n ∧ t.length ≤ 600 := by
  unfold decI at h
  split at h
  · rename_i hl
    have hl := Nat.le_of_ble_eq_true hl
    have hz : (⟨t.toArray⟩ : PySem.Str).length ≤ 4300 := by
      show t.toArray.size ≤ 4300
      rw [List.size_toArray]
      omega
    refine ⟨?_, hl⟩
    match t, h, hz with
    | [], h, hz => cases h
    | c :: r, h, hz =>
      have h : (if (c == 45) = true then (if r.isEmpty = true then none else (dgs 0 r).map fun (n : Nat) => -(Int.ofNat n)) else (dgs 0 (c :: r)).map Int.ofNat) = some n := h
      by_cases hc : (c == 45) = true
      · rw [if_pos hc] at h
        have e := eq_of_beq hc
        by_cases he : r.isEmpty = true
        · rw [if_pos he] at h; cases h
        · rw [if_neg he, Option.map_eq_some_iff] at h
          obtain ⟨m, hm, rfl⟩ := h
          obtain ⟨h1, h2⟩ := dgs_of hm
          rw [PySem.intText_neg (cs := r) (by rw [e]) h1 (fun z => he (by rw [z]; rfl)) hz, h2]
          rfl
      · rw [if_neg hc, Option.map_eq_some_iff] at h
        obtain ⟨m, hm, rfl⟩ := h
        obtain ⟨h1, h2⟩ := dgs_of hm
        rw [PySem.intText_digits (x := ⟨(c :: r).toArray⟩) h1 (by simp) hz, h2]
        rfl
  · cases h
theorem bi_int {ps : List PV} {z : PV} (e : bi .int ps = some z) : (∃ i : Int, ps = [.int i] ∧ z = .int i) ∨ (∃ b : Bool, ps = [.bl b] ∧ z = .int (b2i b)) ∨ ∃ t n, ps = [.str t] ∧ decI t = some n ∧ z = .int n := by
  unfold bi at e
  split at e <;> simp_all
  · subst e; simp
  · obtain ⟨n, h1, h2⟩ := e
    exact ⟨n, h1, h2.symm⟩
theorem mt_join {x : PV} {ps : List PV} {z : PV} (e : mt .join x ps = some z) : ∃ s l xs, x = .str s ∧ (ps = [.lst l] ∨ ps = [.tup l]) ∧ pStrs l = some xs ∧ (xs.map List.length).sum + xs.length * s.length ≤ SZ ∧ z = .str (joinS s xs) := by
  unfold mt at e
  split at e <;> (try simp only [Option.bind_eq_some_iff] at e) <;> simp_all
  all_goals
    obtain ⟨a, h1, h2, h3⟩ := e
    exact ⟨a, h1, h2, h3.symm⟩

section
variable {T : Tb} {X : Cx}
/-- the built-ins that are served by values (list of a text and sum of lists apart) -/
def biV : Bi → List PV → Option PV
  | .sum2, _ => none
  | b, l => bi b l
theorem snd_bi (hK : T.K = X.K) (b : Bi) (hb : b ≠ .list) (hb2 : b ≠ .lsth) (cAll : b = .all → CallR X (.builtin "all") (rAll X.K)) (cSum : b = .sum1 → CallR X (.builtin "sum") (rSum X.K)) (hc : b = .any ∨ b = .min ∨ b = .max → X.calm = true) : CallR X (biT b) (rPs T (biV b)) := by
  intro pins s σ H vs us Q I rs h
  obtain ⟨w, σ', sl, mu, ps, z, rfl, F, rp, e, h⟩ := h
  have hz : SZ = sizeLine := SZ_line
  cases b with
  | sum2 => simp [biV] at e
  | list => exact absurd rfl hb
  | lsth => exact absurd rfl hb2
  | len =>
    rcases bi_len e with ⟨l, rfl, rfl⟩ | ⟨l, rfl, rfl⟩ | ⟨l, rfl, rfl⟩ | ⟨l, rfl, rfl⟩ <;> obtain ⟨v, rfl, r⟩ := reps1 rp <;> simp only [RepV] at r
    · obtain ⟨a, xs, rfl, k1, k2⟩ := r
      exact call_len_seq pins s σ _ _ us Q I rs ⟨a, xs, rfl, .inr (hK ▸ k1.sq), P2.here F h (by simp only [RepV]; rw [k2.len])⟩
    · obtain ⟨a, xs, rfl, k1, _, k2⟩ := r
      exact call_len_seq pins s σ _ _ us Q I rs ⟨a, xs, rfl, .inl (SqL.of k1), P2.here F h (by simp only [RepV]; rw [k2.len])⟩
    · obtain ⟨a, rfl, k1⟩ := r
      exact call_len_seq pins s σ _ _ us Q I rs ⟨a, _, rfl, .inl (hK ▸ k1.sq), P2.here F h (by simp only [RepV]; rw [List.length_map])⟩
    · obtain ⟨rfl, k1⟩ := r
      exact call_len_str pins s σ _ _ us Q I rs ⟨_, rfl, by rw [str_len, ← hz]; exact k1, P2.here F h (by simp only [RepV]; rw [str_len])⟩
  | all =>
    obtain ⟨l, bs, rfl, h1, rfl⟩ := bi_all e
    obtain ⟨v, rfl, r⟩ := reps1 rp
    simp only [RepV] at r
    obtain ⟨a, xs, rfl, k1, _, k2⟩ := r
    have e2 := k2.ofBls h1
    subst e2
    exact cAll rfl pins s σ _ _ us Q I rs ⟨a, bs, rfl, SqL.of k1, P2.here F h (by simp only [RepV])⟩
  | any =>
    obtain ⟨l, bs, rfl, h1, rfl⟩ := bi_any e
    obtain ⟨v, rfl, r⟩ := reps1 rp
    simp only [RepV] at r
    obtain ⟨a, xs, rfl, k1, _, k2⟩ := r
    have e2 := k2.ofBls h1
    subst e2
    exact cr_any (hc (.inl rfl)) pins s σ _ _ us Q I rs ⟨a, bs, rfl, SqL.of k1, P2.here F h (by simp only [RepV])⟩
  | sum1 =>
    obtain ⟨l, bs, rfl, h1, rfl⟩ := bi_sum1 e
    obtain ⟨v, rfl, r⟩ := reps1 rp
    simp only [RepV] at r
    obtain ⟨a, xs, rfl, k1, _, k2⟩ := r
    have e2 := k2.ofInts h1
    subst e2
    exact cSum rfl pins s σ _ _ us Q I rs ⟨a, bs, rfl, SqL.of k1, P2.here F h (by simp only [RepV])⟩
  | min =>
    obtain ⟨l, i, r', rfl, h1, rfl⟩ := bi_min e
    obtain ⟨v, rfl, r⟩ := reps1 rp
    simp only [RepV] at r
    obtain ⟨a, xs, rfl, k1, _, k2⟩ := r
    have e2 := k2.ofInts h1
    subst e2
    refine cr_min (hc (.inr (.inl rfl))) pins s σ _ _ us Q I rs ⟨a, i :: r', rfl, SqL.of k1, by simp, fun m hm hy => ?_⟩
    obtain ⟨q1, q2⟩ := minI_mem i r'
    have : m = minI i r' := Int.le_antisymm (hy _ q1) (q2 _ hm)
    subst this
    exact P2.here F h (by simp only [RepV])
  | max =>
    obtain ⟨l, i, r', rfl, h1, rfl⟩ := bi_max e
    obtain ⟨v, rfl, r⟩ := reps1 rp
    simp only [RepV] at r
    obtain ⟨a, xs, rfl, k1, _, k2⟩ := r
    have e2 := k2.ofInts h1
    subst e2
    refine cr_max (hc (.inr (.inr rfl))) pins s σ _ _ us Q I rs ⟨a, i :: r', rfl, SqL.of k1, by simp, fun m hm hy => ?_⟩
    obtain ⟨q1, q2⟩ := maxI_mem i r'
    have : m = maxI i r' := Int.le_antisymm (q2 _ hm) (hy _ q1)
    subst this
    exact P2.here F h (by simp only [RepV])
  | tuple =>
    rcases bi_tuple e with ⟨l, rfl, rfl⟩ | ⟨l, rfl, rfl⟩ <;> obtain ⟨v, rfl, r⟩ := reps1 rp <;> simp only [RepV] at r
    · obtain ⟨a, xs, rfl, k1, _, k2⟩ := r
      exact call_tupleP pins s σ _ _ us Q I rs ⟨a, xs, rfl, .inl ⟨SqL.of k1, fun p O hp hO => P2.tup F h k2 hp hO⟩⟩
    · obtain ⟨a, xs, rfl, k1, k2⟩ := r
      exact call_tupleP pins s σ _ _ us Q I rs ⟨a, xs, rfl, .inr ⟨hK ▸ k1.sq, P2.here F h (by simp only [RepV]; exact ⟨a, xs, rfl, k1, k2⟩)⟩⟩
  | str =>
    obtain ⟨i, rfl, h0, h1, rfl⟩ := bi_str e
    obtain ⟨v, rfl, r⟩ := reps1 rp
    simp only [RepV] at r
    subst r
    obtain ⟨n, rfl⟩ : ∃ n : Nat, i = (n : Int) := ⟨i.toNat, by omega⟩
    have hn : n < 10 ^ 200 := by simpa using h1
    refine call_str_int pins s σ _ _ us Q I rs ⟨_, rfl, ?_, ?_⟩
    · refine PySem.Flt.log2_lt_of (by decide) ?_
      have : (10 : Nat) ^ 200 ≤ 2 ^ 1920 := by decide +kernel
      simp only [Int.natAbs_natCast]
      omega
    · have e2 : ((toString ((n : Nat) : Int) : String) : Str) = ⟨(decN 200 n).toArray⟩ := by
        rw [decN_num 199 n hn]
        exact SX.num_S n
      rw [e2]
      refine P2.here F h ?_
      simp only [RepV, Int.toNat_natCast]
      refine ⟨trivial, ?_⟩
      rw [decN_num 199 n hn]
      exact Nat.le_trans (TL.numL_len (by decide) hn) (by decide)
  | abs =>
    obtain ⟨i, rfl, rfl⟩ := bi_abs e
    obtain ⟨v, rfl, r⟩ := reps1 rp
    simp only [RepV] at r
    subst r
    exact call_abs pins s σ _ _ us Q I rs ⟨i, rfl, P2.here F h (by simp only [RepV])⟩
  | int =>
    rcases bi_int e with ⟨i, rfl, rfl⟩ | ⟨b, rfl, rfl⟩ | ⟨t, n, rfl, hn, rfl⟩ <;> obtain ⟨v, rfl, r⟩ := reps1 rp <;> simp only [RepV] at r
    · subst r
      exact call_int1 pins s σ _ _ us Q I rs (.inl ⟨i, rfl, P2.here F h (by simp only [RepV])⟩)
    · subst r
      exact call_int1 pins s σ _ _ us Q I rs (.inr ⟨b, rfl, P2.here F h (by simp only [RepV, b2i])⟩)
    · obtain ⟨rfl, _⟩ := r
      obtain ⟨k1, k2⟩ := decI_of hn
      exact call_int_str pins s σ _ _ us Q I rs ⟨_, n, rfl, k1, by rw [str_len]; omega, P2.here F h (by simp only [RepV])⟩
/-- list(x) of a list or a tuple -/
def lsV : List PV → Option PV
  | [.lst l] => some (.lst l)
  | [.tup l] => some (.lst l)
  | _ => none
theorem snd_list (hK : T.K = X.K) : CallR X (.type "list") (rPs T lsV) := by
  intro pins s σ H vs us Q I rs h
  obtain ⟨w, σ', sl, mu, ps, z, rfl, F, rp, e, h⟩ := h
  unfold lsV at e
  split at e
  · simp only [Option.some.injEq] at e
    subst e
    obtain ⟨v, rfl, r⟩ := reps1 rp
    simp only [RepV] at r
    obtain ⟨a, xs, rfl, k1, _, k2⟩ := r
    exact call_list_of pins s σ _ _ us Q I rs ⟨a, xs, rfl, .inl (SqL.of k1), fun p hp => P2.lst F h k2 hp⟩
  · simp only [Option.some.injEq] at e
    subst e
    obtain ⟨v, rfl, r⟩ := reps1 rp
    simp only [RepV] at r
    obtain ⟨a, xs, rfl, k1, k2⟩ := r
    exact call_list_of pins s σ _ _ us Q I rs ⟨a, xs, rfl, .inr (hK ▸ k1.sq), fun p hp => P2.lst F h k2 hp⟩
  · cases e
/-- methods of texts -/
def rMt (T : Tb) (m : Mt) : V → List V → Hp → VK → Prop := fun x vs H Q => ∃ w σ sl mu p ps z, w.H = H ∧ FRel T w σ sl mu ∧ RepV T w p x ∧ Reps T w ps vs ∧ mt m p ps = some z ∧ ∀ w', Ext w w' → FRel T w' σ sl mu → ∀ v, RepV T w' z v → Q v w'.H
theorem snd_join (hK : T.K = X.K) : MtR X "str.join" (rMt T .join) := by
  intro pins s σ H x xs v us Q I rx rs h
  obtain ⟨w, σ', sl, mu, p, ps, z, rfl, F, rp, rps, e, h⟩ := h
  obtain ⟨y, l, ys, rfl, hps, h1, h2, rfl⟩ := mt_join e
  simp only [RepV] at rp
  obtain ⟨rfl, _⟩ := rp
  have fin : ∀ (a : Addr) (us' : List V), us' = (ys.map SX.S).map V.str → xs = [.ref a] → (SqL X.K w.H a us' ∨ SqT X.K w.H a us') → wpAny (model X.prog X.w) X.A (call (.builtin "str.join") (v :: us)) (EP X pins σ Q) X.xe s := fun a us' e2 e3 hsq => by
    subst e2 e3
    refine L2.mt_join pins s σ _ _ _ v us Q I rx rs ⟨_, a, ys.map SX.S, rfl, rfl, hsq, ?_, ?_⟩
    · rw [SX.lens, List.length_map, str_len]; exact h2
    · rw [SX.join_S, ← joinS_eq]
      exact P2.here F h (by simp only [RepV]; exact ⟨trivial, Nat.le_trans (joinS_len _ _) h2⟩)
  rcases hps with rfl | rfl <;> obtain ⟨u, rfl, r⟩ := reps1 rps
  · unfold RepV at r
    obtain ⟨a, xs', rfl, k1, _, k2⟩ := r
    obtain ⟨e2, e3⟩ := k2.ofStrs h1
    rw [strs_map] at e2
    exact fin a xs' e2 rfl (.inl (SqL.of k1))
  · unfold RepV at r
    obtain ⟨a, xs', rfl, k1, k2⟩ := r
    obtain ⟨e2, e3⟩ := k2.ofStrs h1
    rw [strs_map] at e2
    exact fin a xs' e2 rfl (.inr (hK ▸ k1.sq))
end
end RA

/-! The checker: an IR against the given syntax (positions apart). -/
namespace RA
open PySem L2

structure Ck where
  N : List Str
  gn : List Str
  fnm : List (Option Str)
  mtn : List (Option (Nat × Str)) := []
  cln : List Str := []
  atn : List (List Str) := []
  xcn : List (Str × List Bool) := []
  xfl : List (List Str) := []
  icl : List (Str × List (Nat × Bool)) := []
  hot : Bool := false
  hnd : List Nat := []
  hf : List Nat := []
  gd : Bool := false
  lam : Option (Nat × (Nat → Arguments → Expr → Scope → Bool)) := none
  bmn : List Nat := []
  dfl : List (List Int) := []

def vis (sc : Scope) (x : Str) : Bool := match sc.names.lookup x with | some .local => true | some .cell => true | some .free => true | _ => false
def glb (sc : Scope) (x : Str) : Bool := match sc.names.lookup x with | some .globalImplicit => true | _ => false
def okNm (x : Str) : Bool := !(x == ("__debug__" : Str)) && !(x == ("__classdict__" : Str)) && !(x == ("__name__" : Str))
def loc (sc : Scope) (fb : Str → Bool) (x : Str) : Bool := match sc.names.lookup x with | some .local => true | some .cell => fb x | _ => false
def notSet : Expr → Bool
  | .Set _ _ _ => false
  | _ => true
def notStar : Expr → Bool
  | .Starred _ _ => false
  | _ => true
def notSlice : Expr → Bool
  | .Slice _ _ _ _ => false
  | _ => true
/-- a test that is its value's truth -/
def plainT : Expr → Bool
  | .UnaryOp .Not _ _ => false
  | .BoolOp _ _ _ => false
  | .IfExp _ _ _ _ => false
  | .Compare _ _ _ _ => false
  | _ => true
def notSuper : Expr → Bool
  | .Call (.Name _ _) [] [] _ => false
  | _ => true
def biN : Bi → Str
  | .lsth => "list" | .len => "len" | .all => "all" | .any => "any" | .sum1 => "sum" | .sum2 => "sum" | .min => "min" | .max => "max" | .list => "list" | .tuple => "tuple" | .str => "str" | .abs => "abs" | .int => "int"
/-- a built-in that is served while an exception is handled -/
def Bi.hotOk : Bi → Bool
  | .len => true | .all => true | .sum1 => true | .lsth => true | .tuple => true | .str => true | .abs => true | .int => true
  | _ => false
def mtN : Mt → Str
  | .join => "join" | .index => "index" | .split => "split"
def tyS : Ty → Str
  | .int => "int" | .bool => "bool" | .str => "str" | .tup => "tuple" | .lst => "list"
def isName (sc : Scope) (n : Str) : Expr → Bool
  | .Name x _ => x == n && glb sc n
  | _ => false

mutual
def Tg.sl : Tg → List Nat
  | .nm i => [i]
  | .tp ts => ts.sls
def Tgs.sls : Tgs → List Nat
  | .nil => []
  | .cons t ts => t.sl ++ ts.sls
end
mutual
def ckG (N : List Str) (sc : Scope) (fb : Str → Bool) : Tg → Expr → Bool
  | .nm i, e => (match e with | .Name x _ => decide (N[i]? = some x) && loc sc fb x && okNm x | _ => false)
  | .tp ts, e => (match e with | .Tuple xs _ _ => ckGs N sc fb ts xs | _ => false)
def ckGs (N : List Str) (sc : Scope) (fb : Str → Bool) : Tgs → List Expr → Bool
  | .nil, xs => xs.isEmpty
  | .cons t ts, xs => (match xs with | x :: r => ckG N sc fb t x && notStar x && ckGs N sc fb ts r | [] => false)
end
def isTup : Expr → Bool
  | .Tuple _ _ _ => true
  | _ => false
/-- the block's own names with their slots -/
def ownOf (N : List Str) (own : List Nat) : List (Str × Nat) := own.filterMap fun i => (N[i]?).map fun x => (x, i)

mutual
def ckE (C : Ck) (sc : Scope) (fb : Str → Bool) : Ex → Expr → Bool
  | .non, e => (match e with | .Constant .none _ _ => true | _ => false)
  | .bl b, e => (match e with | .Constant (.bool c) _ _ => b == c | _ => false)
  | .int i, e => (match e with | .Constant (.int j) _ _ => i == j | _ => false)
  | .str x, e => (match e with | .Constant (.str y) _ _ => y.cps.toList == x && Nat.ble x.length SZ | _ => false)
  | .loc i, e => (match e with | .Name x _ => decide (C.N[i]? = some x) && vis sc x && okNm x | _ => false)
  | .glo g, e => (match e with | .Name x _ => decide (C.gn[g]? = some x) && glb sc x && okNm x | _ => false)
  | .tup es, e => (match e with | .Tuple xs _ _ => ckEs C sc fb es xs && Nat.ble xs.length 1000 | _ => false)
  | .lst es, e => (match e with | .List xs _ => ckEs C sc fb es xs && Nat.ble xs.length 1000 | _ => false)
  | .op o a b, e => (match e with | .BinOp x p y _ => decide (p = opE o) && ckE C sc fb a x && ckE C sc fb b y | _ => false)
  | .neg a, e => (match e with | .UnaryOp .USub x _ => ckE C sc fb a x | _ => false)
  | .and a b, e => (match e with
    | .BoolOp .And [x, y] _ => ckE C sc fb a x && ckE C sc fb b y
    | .BoolOp .And (x :: y :: z :: r) p => ckE C sc fb a x && ckE C sc fb b (.BoolOp .And (y :: z :: r) p)
    | _ => false)
  | .or a b, e => (match e with
    | .BoolOp .Or [x, y] _ => ckE C sc fb a x && ckE C sc fb b y
    | .BoolOp .Or (x :: y :: z :: r) p => ckE C sc fb a x && ckE C sc fb b (.BoolOp .Or (y :: z :: r) p)
    | _ => false)
  | .nt a, e => (match e with | .UnaryOp .Not x _ => ckE C sc fb a x | _ => false)
  | .cmp o a b, e => (match e with | .Compare x [p] [y] _ => decide (p = cmE o) && ckE C sc fb a x && ckE C sc fb b y && notSet y | _ => false)
  | .chn o o' a b c, e => (match e with | .Compare x [p, q] [y, z] _ => decide (p = cmE o) && decide (q = cmE o') && ckE C sc fb a x && ckE C sc fb b y && ckE C sc fb c z && notSet z | _ => false)
  | .isn n a, e => (match e with | .Compare x [p] [.Constant .none _ _] _ => decide (p = if n then .IsNot else .Is) && ckE C sc fb a x | _ => false)
  | .isi t a, e => (match e with | .Call f [x, y] [] _ => isName sc "isinstance" f && isName sc (tyS t) y && ckE C sc fb a x && notStar x | _ => false)
  | .ife t a b, e => (match e with | .IfExp x y z _ => ckT C sc fb t x && ckE C sc fb a y && ckE C sc fb b z | _ => false)
  | .idx a b, e => (match e with | .Subscript x y _ => ckE C sc fb a x && ckE C sc fb b y && notSlice y | _ => false)
  | .sli a lo hi, e => (match e with | .Subscript x (.Slice l h none _) _ => ckE C sc fb a x && ckO C sc fb lo l && ckO C sc fb hi h | _ => false)
  | .call f es, e => (match e with | .Call (.Name x _) xs [] _ => (!C.hot || (C.hf.contains f && !xs.isEmpty)) && decide (C.fnm[f]? = some (some x)) && glb sc x && okNm x && ckEs C sc fb es xs | _ => false)
  | .cfr f es, e => (match e with | .Call (.Name x _) xs [] _ => !C.hot && decide (C.fnm[f]? = some (some x)) && glb sc x && okNm x && ckEs C sc fb es xs | _ => false)
  | .cld f es ds, e => (match e with | .Call (.Name x _) (y :: ys) [] _ => !C.hot && decide (C.fnm[f]? = some (some x)) && glb sc x && okNm x && ckEs C sc fb es (y :: ys) && decide (C.dfl[f]? = some ds) && !ds.isEmpty | _ => false)
  | .bi b es, e => (match e with | .Call f (x :: xs) [] _ => (!C.hot || b.hotOk) && isName sc (biN b) f && ckEs C sc fb es (x :: xs) | _ => false)
  | .mt m a es, e => (match e with | .Call (.Attribute o n ap) (x :: xs) [] cp => decide (n = mtN m) && ckE C sc fb a o && notSuper o && ckEs C sc fb es (x :: xs) && Nat.ble xs.length 5 && ap.endLine == cp.line | _ => false)
  | .lc own elt tg it ifs, e => (match e with
    | .ListComp x [⟨t, i, fs, 0⟩] scope _ => blkC C.N sc scope (ownOf C.N own) && decide ((ownOf C.N own).map (·.2) = own) && tg.sl.all (fun i => own.contains i) && ckI C sc fb it i t && ckG C.N (relS scope sc) (fun y => scope.names.lookup y == some .cell) tg t
        && ckTs C (relS scope sc) (fun y => scope.names.lookup y == some .cell) ifs fs && Nat.ble fs.length 1 && ckE C (relS scope sc) (fun y => scope.names.lookup y == some .cell) elt x && notSet i
    | _ => false)
  | .lrg it, e => (match e with | .Call f [x] [] _ => isName sc "list" f && notStar x && ckR C sc fb it x | _ => false)
  | .dcd kvs, e => (match e with | .Dict keys values _ => ckD C sc fb kvs keys values && Nat.ble keys.length 15 | _ => false)
  | .dix a b, e => (match e with | .Subscript x y _ => ckE C sc fb a x && ckE C sc fb b y && notSlice y | _ => false)
  | .dof a, e => (match e with | .Call f [x] [] _ => !C.hot && isName sc "dict" f && ckE C sc fb a x && notStar x | _ => false)
  | .dgt d k x, e => (match e with | .Call (.Attribute o n ap) [a, b] [] cp => decide (n = "get") && ckE C sc fb d o && ckE C sc fb k a && ckE C sc fb x b && notSuper o && notStar a && notStar b && ap.endLine == cp.line | _ => false)
  | .rev a, e => (match e with | .Subscript x (.Slice none none (some (.UnaryOp .USub (.Constant (.int 1) _ _) _)) _) _ => ckE C sc fb a x | _ => false)
  | .stk, _ => true
  | .new c f es, e => (match e with | .Call (.Name x _) xs [] _ => !C.hot && decide (C.cln[c]? = some x) && decide (C.mtn[f]? = some (some (c, ("__init__" : Str)))) && glb sc x && okNm x && ckEs C sc fb es xs | _ => false)
  | .att c x a, e => (match e with | .Attribute o n _ => decide ((C.atn[c]?).bind (·[x]?) = some n) && ckE C sc fb a o && notSuper o | _ => false)
  | .mth c f a es, e => (match e with | .Call (.Attribute o m ap) xs [] pos => !C.hot && decide (C.mtn[f]? = some (some (c, m))) && ckE C sc fb a o && notSuper o && ckEs C sc fb es xs && Nat.ble xs.length 20 && ap.endLine == pos.line | _ => false)
  | .lsc a, e => (match e with | .Call f [x] [] _ => isName sc "list" f && ckE C sc fb a x && notStar x | _ => false)
  | .pop a, e => (match e with | .Call (.Attribute o n ap) [.Constant (.int i) _ _] [] pos => decide (n = "pop") && i == 0 && ckE C sc fb a o && notSuper o && ap.endLine == pos.line | _ => false)
  | .rpe a b, e => (match e with | .Compare (.Call f [x] [] _) [p] [.Call g [y] [] _] _ => C.gd && decide (p = .Eq) && isName sc "repr" f && isName sc "repr" g && ckE C sc fb a x && ckE C sc fb b y && notStar x && notStar y | _ => false)
  | .fnv f, e => (match e with | .Name x _ => decide (C.fnm[f]? = some (some x)) && glb sc x && okNm x | _ => false)
  | .clv i es, e => (match e with | .Call (.Name x _) ys [] _ => !C.hot && decide (C.N[i]? = some x) && vis sc x && okNm x && ckEs C sc fb es ys | _ => false)
  | .lam k f, e => (match e with | .Lambda params body scope _ => !C.hot && (match C.lam with | some (j, c) => j == k && c f params body scope | none => false) | _ => false)
  | .bmt c f a, e => (match e with | .Attribute o m _ => !C.hot && decide (C.mtn[f]? = some (some (c, m))) && C.bmn.contains f && ckE C sc fb a o && notSuper o | _ => false)
  | .oem n i, e => (match e with | .Compare (.Name x _) [p] [.List [] _] _ => !C.hot && decide (p = if n then .NotEq else .Eq) && decide (C.N[i]? = some x) && vis sc x && okNm x | _ => false)
  | .tst bs es, e => (match e with | .Tuple xs _ _ => ckSt C sc fb bs es xs && Nat.ble xs.length 1000 | _ => false)
  | .lsx bs es, e => (match e with | .List xs _ => ckSt C sc fb bs es xs && Nat.ble xs.length 1000 | _ => false)
  | .din n a b, e => (match e with | .Compare x [p] [y] _ => decide (p = if n then .NotIn else .In) && ckE C sc fb a x && ckE C sc fb b y && notSet y | _ => false)
  | .xnw c ks es, e => (match e with | .Call (.Name x _) (y :: ys) [] _ => !C.hot && decide (C.xcn[c]? = some (x, ks)) && glb sc x && okNm x && ckEs C sc fb es (y :: ys) && Nat.ble (y :: ys).length 900 | _ => false)
  | .xat tb a, e => (match e with | .Attribute o n _ => tb.all (fun p => decide ((C.xfl[p.1]?).bind (·[p.2]?) = some n) && Nat.blt p.1 C.xcn.length) && ckE C sc fb a o && notSuper o | _ => false)
  | .exf i c k, e => (match e with | .Attribute (.Name x _) n _ => decide (C.N[i]? = some x) && vis sc x && okNm x && decide ((C.xfl[c]?).bind (·[k]?) = some n) | _ => false)
  | .xie i k tb, e => (match e with | .Call f [.Name z _, .Name y _] [] _ => isName sc "isinstance" f && decide (C.N[i]? = some z) && vis sc z && okNm z && decide (C.icl[k]? = some (y, tb)) && glb sc y && okNm y | _ => false)
  | .xis k tb a, e => (match e with | .Call f [x, .Name y _] [] _ => isName sc "isinstance" f && decide (C.icl[k]? = some (y, tb)) && glb sc y && okNm y && ckE C sc fb a x && notStar x | _ => false)
/-- items beside each other, some with a star -/
def ckSt (C : Ck) (sc : Scope) (fb : Str → Bool) : List Bool → Exs → List Expr → Bool
  | [], es, xs => (match es with | .nil => xs.isEmpty | _ => false)
  | b :: bs, es, xs => (match es with
    | .nil => false
    | .cons e es => (match xs with
      | x :: r => (match b, x with
        | true, .Starred y _ => ckE C sc fb e y
        | false, x => ckE C sc fb e x && notStar x
        | _, _ => false) && ckSt C sc fb bs es r
      | [] => false))
def ckD (C : Ck) (sc : Scope) (fb : Str → Bool) : Exs → List (Option Expr) → List Expr → Bool
  | .nil, ks, vs => ks.isEmpty && vs.isEmpty
  | .cons k r, ks, vs => (match r with
    | .nil => false
    | .cons v r => (match ks, vs with
      | some a :: ks, b :: vs => ckE C sc fb k a && ckE C sc fb v b && ckD C sc fb r ks vs
      | _, _ => false))
/-- a range -/
def ckR (C : Ck) (sc : Scope) (fb : Str → Bool) : It → Expr → Bool
  | .rg1 a, e => (match e with | .Call f [x] [] _ => isName sc "range" f && ckE C sc fb a x && notStar x | _ => false)
  | .rg2 a b, e => (match e with | .Call f [x, y] [] _ => isName sc "range" f && ckE C sc fb a x && ckE C sc fb b y && notStar x && notStar y | _ => false)
  | _, _ => false
/-- what is walked; its target -/
def ckI (C : Ck) (sc : Scope) (fb : Str → Bool) : It → Expr → Expr → Bool
  | .val a, e, _ => ckE C sc fb a e
  | .rg1 a, e, _ => (match e with | .Call f [x] [] _ => isName sc "range" f && ckE C sc fb a x && notStar x | _ => false)
  | .rg2 a b, e, _ => (match e with | .Call f [x, y] [] _ => !C.hot && isName sc "range" f && ckE C sc fb a x && ckE C sc fb b y && notStar x && notStar y | _ => false)
  | .enu a, e, t => (match e with | .Call f [x] [] _ => !C.hot && isName sc "enumerate" f && ckE C sc fb a x && notStar x && isTup t | _ => false)
  | .enk k a, e, t => (match e with | .Call f [x, .Constant (.int j) _ _] [] _ => !C.hot && isName sc "enumerate" f && ckE C sc fb a x && notStar x && isTup t && decide (j = (k : Int)) && Nat.ble k 1000000 | _ => false)
  | .zip a b, e, t => (match e with | .Call f [x, y] [] _ => isName sc "zip" f && ckE C sc fb a x && ckE C sc fb b y && notStar x && notStar y && isTup t | _ => false)
def ckEs (C : Ck) (sc : Scope) (fb : Str → Bool) : Exs → List Expr → Bool
  | .nil, xs => xs.isEmpty
  | .cons e es, xs => (match xs with | x :: r => ckE C sc fb e x && notStar x && ckEs C sc fb es r | [] => false)
def ckT (C : Ck) (sc : Scope) (fb : Str → Bool) : Tt → Expr → Bool
  | .v a, e => ckE C sc fb a e && (plainT e || (match a with | .cmp _ _ _ => true | .chn _ _ _ _ _ => true | .isn _ _ => true | .din _ _ _ => true | .oem _ _ => true | _ => false))
  | .all ts, e => (match e with | .BoolOp .And xs _ => ckTs C sc fb ts xs && !xs.isEmpty | _ => false)
  | .any ts, e => (match e with | .BoolOp .Or xs _ => ckTs C sc fb ts xs && !xs.isEmpty | _ => false)
  | .nt t, e => (match e with | .UnaryOp .Not x _ => ckT C sc fb t x | _ => false)
def ckTs (C : Ck) (sc : Scope) (fb : Str → Bool) : Tts → List Expr → Bool
  | .nil, xs => xs.isEmpty
  | .cons t ts, xs => (match xs with | x :: r => ckT C sc fb t x && ckTs C sc fb ts r | [] => false)
def ckO (C : Ck) (sc : Scope) (fb : Str → Bool) : Oe → Option Expr → Bool
  | .no, e => e.isNone
  | .so a, e => (match e with | some x => ckE C sc fb a x | none => false)
end
end RA

set_option maxHeartbeats 2000000
/-! Own exceptions made: held as values, or raised where nothing is handled (their context is None). -/
namespace RA
open PySem PySem.Spec PyProof.Rows L2
/-- the heap with the tuple of the arguments and the new exception behind it -/
abbrev hpX (h : Heap) (us : List Value) (C : Addr) : Heap := (h.push (PySem.W.kdv_tup us)).push (PySem.HandSPX.excO C h.objs.size)
section
variable {X : Cx} {C fI : Addr} {CX : CXT} {k : Nat} {fd : FuncData} {ps : List Str} {sp : Sp}
theorem hpX_inv {pins : List (Addr × Obj)} {σ : L2.St} {H : Hp} {s : Shared} (I : Inv X pins σ H s) (us : List Value) (C : Addr) :
    Inv X pins σ (upd H (s.heap.objs.size + 1) (exo (s.heap.objs.size + 1) C none)) { s with heap := hpX s.heap us C } := by
  have at2 : (hpX s.heap us C).get? (s.heap.objs.size + 1) = some (PySem.HandSPX.excO C s.heap.objs.size) := by
    unfold hpX
    heap_get
  exact I.laid (t' := s.toks) (fun b o z => Heap.get?_push_of_some _ (Heap.get?_push_of_some _ z)) (Nat.le_succ _) (exo_ok at2)
/-- an own exception is made by a call of its class: what is to be shown behind its initializer -/
theorem made_by {pins : List (Addr × Obj)} {σ : L2.St} {H : Hp} {s : Shared} {us : List Value} {vs : List V} {Qv : VK} {P : Value → Shared → Prop} (T : OexC X.K C)
    (iC : PySem.W.findIn X.K (.ref C) "__init__" = some (some (.ref fI))) (tI : PySem.W.typeIn X.K (.ref fI) = some (.type "function"))
    (F : FnOk X.prog X.w X.K X.mg X.base CX k fI fd ps sp) (hr : Room (k + 1) X.A) (hb : Binds X.K fd ps []) (no : ∀ H s e s', ¬ CX X.stack H s (fun _ _ _ => False) e s') (I : Inv X pins σ H s) (r : Vals vs us) (hz : vs.length ≤ 1000)
    (asked : sp (.ref (s.heap.objs.size + 1) :: vs) (upd H (s.heap.objs.size + 1) (exo (s.heap.objs.size + 1) C none)) Qv fun _ _ _ => False)
    (next : ∀ u s', CE X.stack X.prog X.w (upd H (s.heap.objs.size + 1) (exo (s.heap.objs.size + 1) C none)) { s with heap := hpX s.heap us C } Qv u s' → u = .none ∧ P (.ref (s.heap.objs.size + 1)) s') :
    wpAny (model X.prog X.w) X.A (call (.ref C) us) P X.xe s := by
  obtain ⟨nm, qn, N, bs, bm, sn, sub, ab, col, dd, c0, c1, c2, c3, c5, hC, hbm⟩ := T.cls
  have J := hpX_inv I us C
  have rr : Vals (V.ref (s.heap.objs.size + 1) :: vs) (Value.ref (s.heap.objs.size + 1) :: us) := .cons rfl r
  have len : (Value.ref (s.heap.objs.size + 1) :: us).length = ps.length := rr.length.symm.trans (F.len _ _ _ _ asked)
  have few : us.length ≤ sizeLine := by
    have := r.length
    rw [sizeLine_eq]; omega
  have bind := hb { s with heap := hpX s.heap us C } (Value.ref (s.heap.objs.size + 1) :: us) J.kIn (by rw [List.append_nil]; exact len)
  rw [List.append_nil] at bind
  refine wpAny_call (PySem.HandSPX.call_own PySem.F.excBase_ValueError (fun Y => PySem.HandSPX.refsVE_contains Y bm hbm) (I.kIn _ _ hC) (PySem.W.looks_findIn I.kIn iC) (fun x => PySem.W.bind_fn I.kIn x tI) few
    (codeAny_mono (F.run _ X.stack _ _ ⟨Value.ref (s.heap.objs.size + 1) :: us, []⟩ (Value.ref (s.heap.objs.size + 1) :: us) _ _ (fun _ _ _ => False) (hr.make C us []) (J.env0.make C us []) bind rr asked) fun res s2 got => ?_))
  cases res with
  | error er => exact (no _ _ _ _ got).elim
  | ok fl =>
    cases fl with
    | ret u => exact next u s2 got
    | _ => exact got.elim
/-- raise C(..): what the exception's place is, is not told -/
theorem pmk_oexN {x : Str} {e : Expr} {es : List Expr} {p pos : Pos} {ta : TA} (T : OexC X.K C) (iC : PySem.W.findIn X.K (.ref C) "__init__" = some (some (.ref fI))) (tI : PySem.W.typeIn X.K (.ref fI) = some (.type "function"))
    (F : FnOk X.prog X.w X.K X.mg X.base CX k fI fd ps sp) (hr : Room (k + 1) X.A) (hb : Binds X.K fd ps []) (no : ∀ H s e s', ¬ CX X.stack H s (fun _ _ _ => False) e s') (hg : Gl X x) (hm : X.mg x = some (.ref C)) (ha : PA X (e :: es) ta)
    (hdb : (x == ("__debug__" : Str)) = false) (he : starEach (e :: es) X.env = (false, eval e X.env) :: starEach es X.env) (hpl : (backTo pos (starEach es X.env)).any (·.1) = false) :
    L2N.PMk X (.Call (.Name x p) (e :: es) [] pos) (tMkO C sp [] ta) := by
  intro pins s σ H Q I h
  refine wpAny_Call_Name_kw (ld_glob I hg hm (PySem.W.callWith_K (h₀ := X.base) I.ok.mod.kin T.kC (thn (ha.run pos pins s σ H _ I h) fun us s1 ⟨vs, H1, I1, r1, hz, q1⟩ => ⟨I1.kIn, ?_⟩) he hpl) hdb)
  obtain ⟨h1, g1, d1, t1, o1⟩ := s1
  have asked := q1 (h1.objs.size + 1) (I1.hok.fresh (Nat.le_succ _))
  rw [List.append_nil] at asked
  refine made_by (s := ⟨h1, g1, d1, t1, o1⟩) T iC tI F hr hb no I1 r1 hz asked fun u s2 got => ?_
  obtain ⟨v, H2, e1, e2, e3, e4, rv, ev, d, fs, ea, ed, nd, q2⟩ := got
  obtain ⟨h2, g2, d2, t2, o2⟩ := s2
  subst ev
  obtain ⟨t0, G, K1, K2, K3, K4, K5⟩ := mk_end0 (d2 := d2) (t2 := t2) I1 (Nat.le_succ _) (fun b o z => Heap.get?_push_of_some _ (Heap.get?_push_of_some _ z)) e3 e4 e1 e2 ea ed nd
  exact ⟨rv, _, _, _, ⟨G, g2, d2, t2, o2⟩, _, _, _, rfl, K1, K2, K3, K4, ⟨rfl, rfl, fun ws e => by cases e; rfl⟩, rfl, rfl, K5, rfl, e2, raises_own T.exC T.tyC, q2⟩
/-- one clause without a name -/
theorem ps_try_onlyN {x : Str} {c : Value} {body suite : List Stmt} {b0 : Stmt} {np p1 p2 : Pos} {tb : WX → TS} {ts : Addr → Value → Option Addr → TS} {Wout : WX} (hs : X.stack = X.env :: X.outer) (hf : X.env.frame = some X.env.locals) (hc : Names X x c) (tk : L2N.Takes X Wout)
    (hb : ∀ (W' : WX) (pn : List (Addr × Obj)) (xe : Value → Shared → Prop), L2N.Takes (X.tr pn xe) W' → PassesOwn (model X.prog X.w) X.A X.env xe → PSs (X.tr pn xe) body (tb W'))
    (hsu : ∀ (a : Addr) (oe : Obj) (cls : Value) (d : Option Addr) (pn : List (Addr × Obj)), L2N.Zn cls d oe → (∃ vs, oe.data = .fields vs) → PSs (X.suite a ((a, oe) :: pn)) (b0 :: suite) (ts a cls d)) :
    PS X (.Try body [.ExceptHandler (some (.Name x np)) none (b0 :: suite) p1] [] [] p2) (fun D σ H => tb (wMany X.K Wout D [(c, ts)]) D σ H) :=
  L2N.ps_try_many hs hf tk hb (.cons hc hsu .nil)
end
end RA

/-! While an exception is handled: the ends of iterators. -/
namespace RA
open PySem PySem.Spec PyProof.Rows L2 HotX

section
variable {prog : Program} {w : World} {A : Around} {E : Value → Shared → Prop} {s : Shared}
/-- StopIteration is raised while x1 is handled -/
theorem stop_hot {α : Type} {x1 : Addr} {Q : α → Shared → Prop} (hot : HotAt A x1 s.heap)
    (k : ∀ h' e, (∀ b o, s.heap.get? b = some o → h'.get? b = some o) → (∃ o, h'.get? e = some o ∧ o.cls = .type "StopIteration") → E (.ref e) { s with heap := h' }) :
    wpAny (model prog w) A (newExc (.type "StopIteration") [] >>= fun e => (raiseNew e : Sem α)) Q E s := by
  obtain ⟨hh, o1, v1, g1, d1, c1⟩ := hot
  simp only [newExc, newTuple]
  refine wpAny_bind (wpAny_bind (wpAny_newObj_type ?_ (by size_fits)))
  refine wpAny_bind (m := firstArgMember _ _) (wpAny_of_eq (a := Value.none) (by first | rfl | (simp only [firstArgMember]; rfl)) ?_)
  refine wpAny_newObj_type ?_ (by size_fits)
  refine raiseNew_hot ⟨hh, o1, v1, Heap.get?_push_of_some _ (Heap.get?_push_of_some _ g1), d1, c1⟩ (Nat.ne_of_lt (Heap.lt_size (Heap.get?_push_of_some _ g1))) (Heap.get?_push_size _ rfl) rfl (by first | (simp; done) | (simp; omega) | (simp only [Array.size_append]; simp; omega)) ?_
  refine k _ _ (fun b o z => ?_) ⟨_, Heap.get?_update_self _ (Heap.get?_push_size _ rfl) rfl, rfl⟩
  exact (Heap.get?_update_other _ _ (Nat.ne_of_gt (Heap.lt_size (Heap.get?_push_of_some _ z)))).trans (Heap.get?_push_of_some _ (Heap.get?_push_of_some _ z))

theorem hot_set {x1 it : Addr} {h h' : Heap} (hot : HotAt A x1 h) (hn : x1 ≠ it) (sb : Heap.SameBut it h h') : HotAt A x1 h' := by
  obtain ⟨hh, o, v, g, r⟩ := hot
  exact ⟨hh, o, v, (sb.2 x1 hn).trans g, r⟩
theorem ext_stop {it : Addr} {h h1 h2 : Heap} (sb : Heap.SameBut it h h1) (k : ∀ b o, h1.get? b = some o → h2.get? b = some o) : Heap.ExtBut it h h2 := fun b o hb z => k b o ((sb.2 b hb).trans z)

theorem li_stop {it l x1 : Addr} {i : Nat} {items : Array Value} {Q : Fin → Shared → Prop} (hot : HotAt A x1 s.heap) (hn : x1 ≠ it) (hit : s.heap.IsListIter it l i) (hl : s.heap.IsList l items) (hx : items[i]? = none)
    (k : ∀ h' e, Heap.ExtBut it s.heap h' → (∃ o, h'.get? e = some o ∧ o.cls = .type "StopIteration") → E (.ref e) { s with heap := h' }) : wpAny (model prog w) A (Builtin.«list_iterator.__next__» ⟨[.ref it], []⟩) Q E s := by
  obtain ⟨oi, g1, g2, g3⟩ := hit
  obtain ⟨ol, g4, _, nl, g5⟩ := hl
  show wpAny _ _ (field (.ref it) 0 >>= _) _ _ s
  refine wpAny_bind (wpAny_field g1 g3 (x := .ref l) rfl ?_)
  show wpAny _ _ (if (Value.ref l == Value.none) = true then _ else _) _ _ s
  rw [if_neg (by simp : ¬ ((Value.ref l == Value.none) = true))]
  show wpAny _ _ (field (.ref it) 1 >>= _) _ _ s
  refine wpAny_bind (wpAny_field g1 g3 (x := .int i 0) rfl ?_)
  show wpAny _ _ (seqItems? (.ref l) >>= _) _ _ s
  refine wpAny_bind (wpAny_seqItems g4 g5 ?_)
  simp only [Int.toNat_natCast, hx]
  refine wpAny_bind (wpAny_rule (wpAny_bind (wpAny_setField g1 g3 (by simp) ?_)))
  exact stop_hot (hot_set hot hn (Heap.SameBut.update ..)) fun h' e kp q => k h' e (ext_stop (Heap.SameBut.update ..) kp) q

theorem li_nx {it l x1 : Addr} {i : Nat} {items : Array Value} {Q : Value → Shared → Prop} (hot : HotAt A x1 s.heap) (hn : x1 ≠ it) (hit : s.heap.IsListIter it l i) (hl : s.heap.IsList l items) (hx : items[i]? = none)
    (k : ∀ h' e, Heap.ExtBut it s.heap h' → (∃ o, h'.get? e = some o ∧ o.cls = .type "StopIteration") → E (.ref e) { s with heap := h' }) : wpAny (model prog w) A (Builtin.SmallTypes.nextOf (.ref it)) Q E s := by
  unfold Builtin.SmallTypes.nextOf
  exact wpAny_bind (wpAny_callSpecial?_slot (name := Str.ofString "__next__") hit.typeIs slot_listiter_next (wpAny_call_entry slot_listiter_next hit.typeIs entry_listiter_next (li_stop (A := A.in1) hot hn hit hl hx k) (args_listiter_next _)))
theorem li_pn {it l x1 : Addr} {i : Nat} {items : Array Value} {Q : Option Value → Shared → Prop} (hot : HotAt A x1 s.heap) (hn : x1 ≠ it) (hit : s.heap.IsListIter it l i) (hl : s.heap.IsList l items) (hx : items[i]? = none)
    (k : ∀ h', Heap.ExtBut it s.heap h' → Q none { s with heap := h' }) : wpAny (model prog w) A (pyNext (.ref it)) Q E s := by
  unfold pyNext
  refine wpAny_bind (wpAny_attempt (wpAny_callSpecial?_slot (name := Str.ofString "__next__") hit.typeIs slot_listiter_next (wpAny_call_entry slot_listiter_next hit.typeIs entry_listiter_next (li_stop (A := A.in1) hot hn hit hl hx fun h' e x q => ?_) (args_listiter_next _))))
  exact wpAny_bind (wpAny_isInstance (T := "StopIteration") (b := true) q isSubtype_stop (wpAny_pure (k h' x)))

theorem tu_stop {it l x1 : Addr} {i : Nat} {items : Array Value} {Q : Fin → Shared → Prop} (hot : HotAt A x1 s.heap) (hn : x1 ≠ it) (hit : s.heap.IsTupleIter it l i) (hl : s.heap.IsTuple l items) (hx : items[i]? = none)
    (k : ∀ h' e, Heap.ExtBut it s.heap h' → (∃ o, h'.get? e = some o ∧ o.cls = .type "StopIteration") → E (.ref e) { s with heap := h' }) : wpAny (model prog w) A (Builtin.«tuple_iterator.__next__» ⟨[.ref it], []⟩) Q E s := by
  obtain ⟨oi, g1, g2, g3⟩ := hit
  obtain ⟨ol, g4, _, nl, g5⟩ := hl
  show wpAny _ _ (field (.ref it) 0 >>= _) _ _ s
  refine wpAny_bind (wpAny_field g1 g3 (x := .ref l) rfl ?_)
  show wpAny _ _ (if (Value.ref l == Value.none) = true then _ else _) _ _ s
  rw [if_neg (by simp : ¬ ((Value.ref l == Value.none) = true))]
  show wpAny _ _ (field (.ref it) 1 >>= _) _ _ s
  refine wpAny_bind (wpAny_field g1 g3 (x := .int i 0) rfl ?_)
  show wpAny _ _ (seqItems? (.ref l) >>= _) _ _ s
  refine wpAny_bind (wpAny_seqItems g4 g5 ?_)
  simp only [Int.toNat_natCast, hx]
  refine wpAny_bind (wpAny_rule (wpAny_bind (wpAny_setField g1 g3 (by simp) ?_)))
  exact stop_hot (hot_set hot hn (Heap.SameBut.update ..)) fun h' e kp q => k h' e (ext_stop (Heap.SameBut.update ..) kp) q

theorem tu_nx {it l x1 : Addr} {i : Nat} {items : Array Value} {Q : Value → Shared → Prop} (hot : HotAt A x1 s.heap) (hn : x1 ≠ it) (hit : s.heap.IsTupleIter it l i) (hl : s.heap.IsTuple l items) (hx : items[i]? = none)
    (k : ∀ h' e, Heap.ExtBut it s.heap h' → (∃ o, h'.get? e = some o ∧ o.cls = .type "StopIteration") → E (.ref e) { s with heap := h' }) : wpAny (model prog w) A (Builtin.SmallTypes.nextOf (.ref it)) Q E s := by
  unfold Builtin.SmallTypes.nextOf
  exact wpAny_bind (wpAny_callSpecial?_slot (name := Str.ofString "__next__") hit.typeIs F.slot_tuple_iterator_next (wpAny_call_entry F.slot_tuple_iterator_next hit.typeIs F.entry_tuple_iterator_next (tu_stop (A := A.in1) hot hn hit hl hx k) (F.args_tuple_iterator_next_1 _)))
theorem tu_pn {it l x1 : Addr} {i : Nat} {items : Array Value} {Q : Option Value → Shared → Prop} (hot : HotAt A x1 s.heap) (hn : x1 ≠ it) (hit : s.heap.IsTupleIter it l i) (hl : s.heap.IsTuple l items) (hx : items[i]? = none)
    (k : ∀ h', Heap.ExtBut it s.heap h' → Q none { s with heap := h' }) : wpAny (model prog w) A (pyNext (.ref it)) Q E s := by
  unfold pyNext
  refine wpAny_bind (wpAny_attempt (wpAny_callSpecial?_slot (name := Str.ofString "__next__") hit.typeIs F.slot_tuple_iterator_next (wpAny_call_entry F.slot_tuple_iterator_next hit.typeIs F.entry_tuple_iterator_next (tu_stop (A := A.in1) hot hn hit hl hx fun h' e x q => ?_) (F.args_tuple_iterator_next_1 _))))
  exact wpAny_bind (wpAny_isInstance (T := "StopIteration") (b := true) q isSubtype_stop (wpAny_pure (k h' x)))

theorem as_stop {it x1 : Addr} {x : Str} {t : Tok} {i : Nat} {Q : Fin → Shared → Prop} (hot : HotAt A x1 s.heap) (hn : x1 ≠ it) (hit : s.heap.IsStrIter it "str_ascii_iterator" x t i) (hx : x.cps[i]? = none)
    (k : ∀ h' e, Heap.ExtBut it s.heap h' → (∃ o, h'.get? e = some o ∧ o.cls = .type "StopIteration") → E (.ref e) { s with heap := h' }) : wpAny (model prog w) A (Builtin.«str_ascii_iterator.__next__» ⟨[.ref it], []⟩) Q E s := by
  obtain ⟨oi, g1, g2, g3⟩ := hit
  show wpAny _ _ (field (.ref it) 0 >>= _) _ _ s
  refine wpAny_bind (wpAny_field g1 g3 (x := .str x t) rfl ?_)
  show wpAny _ _ (field (.ref it) 1 >>= _) _ _ s
  refine wpAny_bind (wpAny_field g1 g3 (x := .int i 0) rfl ?_)
  simp only [Int.toNat_natCast, hx]
  refine wpAny_bind (wpAny_rule (wpAny_bind (wpAny_setField g1 g3 (by simp) (wpAny_bind (wpAny_letGo ?_)))))
  exact stop_hot (hot_set hot hn (Heap.SameBut.update ..)) fun h' e kp q => k h' e (ext_stop (Heap.SameBut.update ..) kp) q

theorem as_nx {it x1 : Addr} {x : Str} {t : Tok} {i : Nat} {Q : Value → Shared → Prop} (hot : HotAt A x1 s.heap) (hn : x1 ≠ it) (hit : s.heap.IsStrIter it "str_ascii_iterator" x t i) (hx : x.cps[i]? = none)
    (k : ∀ h' e, Heap.ExtBut it s.heap h' → (∃ o, h'.get? e = some o ∧ o.cls = .type "StopIteration") → E (.ref e) { s with heap := h' }) : wpAny (model prog w) A (Builtin.SmallTypes.nextOf (.ref it)) Q E s := by
  unfold Builtin.SmallTypes.nextOf
  exact wpAny_bind (wpAny_callSpecial?_slot (name := Str.ofString "__next__") hit.typeIs F.slot_str_ascii_iterator_next (wpAny_call_entry F.slot_str_ascii_iterator_next hit.typeIs F.entry_str_ascii_iterator_next (as_stop (A := A.in1) hot hn hit hx k) (F.args_str_ascii_iterator_next_1 _)))
theorem as_pn {it x1 : Addr} {x : Str} {t : Tok} {i : Nat} {Q : Option Value → Shared → Prop} (hot : HotAt A x1 s.heap) (hn : x1 ≠ it) (hit : s.heap.IsStrIter it "str_ascii_iterator" x t i) (hx : x.cps[i]? = none)
    (k : ∀ h', Heap.ExtBut it s.heap h' → Q none { s with heap := h' }) : wpAny (model prog w) A (pyNext (.ref it)) Q E s := by
  unfold pyNext
  refine wpAny_bind (wpAny_attempt (wpAny_callSpecial?_slot (name := Str.ofString "__next__") hit.typeIs F.slot_str_ascii_iterator_next (wpAny_call_entry F.slot_str_ascii_iterator_next hit.typeIs F.entry_str_ascii_iterator_next (as_stop (A := A.in1) hot hn hit hx fun h' e x q => ?_) (F.args_str_ascii_iterator_next_1 _))))
  exact wpAny_bind (wpAny_isInstance (T := "StopIteration") (b := true) q isSubtype_stop (wpAny_pure (k h' x)))

theorem wi_stop {it x1 : Addr} {x : Str} {t : Tok} {i : Nat} {Q : Fin → Shared → Prop} (hot : HotAt A x1 s.heap) (hn : x1 ≠ it) (hit : s.heap.IsStrIter it "str_iterator" x t i) (hx : x.cps[i]? = none)
    (k : ∀ h' e, Heap.ExtBut it s.heap h' → (∃ o, h'.get? e = some o ∧ o.cls = .type "StopIteration") → E (.ref e) { s with heap := h' }) : wpAny (model prog w) A (Builtin.«str_iterator.__next__» ⟨[.ref it], []⟩) Q E s := by
  obtain ⟨oi, g1, g2, g3⟩ := hit
  show wpAny _ _ (field (.ref it) 0 >>= _) _ _ s
  refine wpAny_bind (wpAny_field g1 g3 (x := .str x t) rfl ?_)
  show wpAny _ _ (field (.ref it) 1 >>= _) _ _ s
  refine wpAny_bind (wpAny_field g1 g3 (x := .int i 0) rfl ?_)
  simp only [Int.toNat_natCast, hx]
  refine wpAny_bind (wpAny_rule (wpAny_bind (wpAny_setField g1 g3 (by simp) (wpAny_bind (wpAny_letGo ?_)))))
  exact stop_hot (hot_set hot hn (Heap.SameBut.update ..)) fun h' e kp q => k h' e (ext_stop (Heap.SameBut.update ..) kp) q

theorem wi_nx {it x1 : Addr} {x : Str} {t : Tok} {i : Nat} {Q : Value → Shared → Prop} (hot : HotAt A x1 s.heap) (hn : x1 ≠ it) (hit : s.heap.IsStrIter it "str_iterator" x t i) (hx : x.cps[i]? = none)
    (k : ∀ h' e, Heap.ExtBut it s.heap h' → (∃ o, h'.get? e = some o ∧ o.cls = .type "StopIteration") → E (.ref e) { s with heap := h' }) : wpAny (model prog w) A (Builtin.SmallTypes.nextOf (.ref it)) Q E s := by
  unfold Builtin.SmallTypes.nextOf
  exact wpAny_bind (wpAny_callSpecial?_slot (name := Str.ofString "__next__") hit.typeIs F.slot_str_iterator_next (wpAny_call_entry F.slot_str_iterator_next hit.typeIs F.entry_str_iterator_next (wi_stop (A := A.in1) hot hn hit hx k) (F.args_str_iterator_next_1 _)))
theorem wi_pn {it x1 : Addr} {x : Str} {t : Tok} {i : Nat} {Q : Option Value → Shared → Prop} (hot : HotAt A x1 s.heap) (hn : x1 ≠ it) (hit : s.heap.IsStrIter it "str_iterator" x t i) (hx : x.cps[i]? = none)
    (k : ∀ h', Heap.ExtBut it s.heap h' → Q none { s with heap := h' }) : wpAny (model prog w) A (pyNext (.ref it)) Q E s := by
  unfold pyNext
  refine wpAny_bind (wpAny_attempt (wpAny_callSpecial?_slot (name := Str.ofString "__next__") hit.typeIs F.slot_str_iterator_next (wpAny_call_entry F.slot_str_iterator_next hit.typeIs F.entry_str_iterator_next (wi_stop (A := A.in1) hot hn hit hx fun h' e x q => ?_) (F.args_str_iterator_next_1 _))))
  exact wpAny_bind (wpAny_isInstance (T := "StopIteration") (b := true) q isSubtype_stop (wpAny_pure (k h' x)))
end
end RA

/-! While an exception is handled: what a loop walks. -/
namespace RA
open PySem PySem.Spec PyProof.Rows L2 HotX L2H

/-- the handled exception's object stands, its context is None -/
def HF (x1 : Addr) (h : Heap) : Prop := ∃ (o : Obj) (vs : Array Value), h.get? x1 = some o ∧ o.data = .fields vs ∧ vs[2]? = some .none
theorem HF.up {x1 : Addr} {h h' : Heap} (x : HF x1 h) (k : ∀ o, h.get? x1 = some o → h'.get? x1 = some o) : HF x1 h' := by
  obtain ⟨o, v, g, r⟩ := x
  exact ⟨o, v, k o g, r⟩
theorem hdraws_li {prog : Program} {w : World} {A : Around} {x1 : Addr} (hh : A.handled = some (.ref x1)) (it l : Addr) (hn : x1 ≠ it) (hne : l ≠ it) (items : Array Value) :
    Draws prog w A it [it, l, x1] items.size (fun i v => items[i]? = some v) (fun i h => (h.IsListIter it l i ∧ h.IsList l items) ∧ HF x1 h) where
  live := fun _ _ st => by obtain ⟨⟨⟨o, ho, _⟩, _⟩, _⟩ := st; exact ⟨o, ho⟩
  frame := fun _ _ _ st hk => ⟨⟨st.1.1.at fun o e => hk it (by simp) o e, st.1.2.at fun o e => hk l (by simp) o e⟩, st.2.up fun o e => hk x1 (by simp) o e⟩
  item := fun i s Q E hi st hQ => by
    refine wpAny_nextOf_list_item st.1.1 st.1.2 (x := items[i]) (by simp [hi]) fun h' hit' sb => ?_
    exact hQ _ h' s.toks (by simp [hi]) ⟨⟨hit', st.1.2.extBut sb.extBut hne⟩, st.2.up fun o e => (sb.2 x1 hn).trans e⟩ sb
  done := fun s Q E st hE => li_nx ⟨hh, st.2⟩ hn st.1.1 st.1.2 (by simp) hE
theorem hdraws_tu {prog : Program} {w : World} {A : Around} {x1 : Addr} (hh : A.handled = some (.ref x1)) (it l : Addr) (hn : x1 ≠ it) (hne : l ≠ it) (items : Array Value) :
    Draws prog w A it [it, l, x1] items.size (fun i v => items[i]? = some v) (fun i h => (h.IsTupleIter it l i ∧ h.IsTuple l items) ∧ HF x1 h) where
  live := fun _ _ st => by obtain ⟨⟨⟨o, ho, _⟩, _⟩, _⟩ := st; exact ⟨o, ho⟩
  frame := fun _ _ _ st hk => ⟨⟨st.1.1.at fun o e => hk it (by simp) o e, st.1.2.at fun o e => hk l (by simp) o e⟩, st.2.up fun o e => hk x1 (by simp) o e⟩
  item := fun i s Q E hi st hQ => by
    refine wpAny_nextOf_tuple_item st.1.1 st.1.2 (x := items[i]) (by simp [hi]) fun h' hit' sb => ?_
    exact hQ _ h' s.toks (by simp [hi]) ⟨⟨hit', st.1.2.extBut sb.extBut hne⟩, st.2.up fun o e => (sb.2 x1 hn).trans e⟩ sb
  done := fun s Q E st hE => tu_nx ⟨hh, st.2⟩ hn st.1.1 st.1.2 (by simp) hE
theorem hdraws_tx {prog : Program} {w : World} {A : Around} {x1 : Addr} (hh : A.handled = some (.ref x1)) (it : Addr) (hn : x1 ≠ it) (x : Str) (t : Tok) :
    Draws prog w A it [it, x1] x.cps.size (fun i v => ∃ c u, x.cps[i]? = some c ∧ v = .str ⟨#[c]⟩ u) (fun i h => h.IsStrIter it (strIterType x) x t i ∧ HF x1 h) where
  live := fun _ _ st => by obtain ⟨⟨o, ho, _⟩, _⟩ := st; exact ⟨o, ho⟩
  frame := fun _ _ _ st hk => ⟨let ⟨o, ho, r⟩ := st.1; ⟨o, hk it (by simp) o ho, r⟩, st.2.up fun o e => hk x1 (by simp) o e⟩
  item := fun i s Q E hi st hQ => by
    obtain ⟨st, hf⟩ := st
    cases ha : x.cps.all (· < 128)
    · simp only [strIterType, ha, Bool.false_eq_true, if_false] at st hQ
      exact wpAny_nextOf_wide_item st (c := x.cps[i]) (by simp [hi]) fun h' hit' sb => hQ _ h' (s.toks + 1) ⟨_, _, by simp [hi], rfl⟩ ⟨hit', hf.up fun o e => (sb.2 x1 hn).trans e⟩ sb
    · simp only [strIterType, ha, if_true] at st hQ
      exact wpAny_nextOf_ascii_item st (c := x.cps[i]) (by simp [hi]) fun h' hit' sb => hQ _ h' (s.toks + 1) ⟨_, _, by simp [hi], rfl⟩ ⟨hit', hf.up fun o e => (sb.2 x1 hn).trans e⟩ sb
  done := fun s Q E st hE => by
    obtain ⟨st, hf⟩ := st
    cases ha : x.cps.all (· < 128)
    · simp only [strIterType, ha, Bool.false_eq_true, if_false] at st
      exact wi_nx ⟨hh, hf⟩ hn st (by simp) hE
    · simp only [strIterType, ha, if_true] at st
      exact as_nx ⟨hh, hf⟩ hn st (by simp) hE
theorem Src.drawsH {X : Cx} {pins : List (Addr × Obj)} {σ : L2.St} {H : Hp} {s : Shared} {A : Around} {it x1 : Addr} {i : Nat} {xs : List V} (I : Inv X pins σ H s) (hh : A.handled = some (.ref x1)) (hf : HF x1 s.heap) (hx : x1 ≠ it) : ∀ {r : Src}, (∀ a ∈ r.adr, a ≠ it) → r.has X.K H xs → r.at it i s.heap →
    ∃ (P : Nat → Value → Prop) (S : Nat → Heap → Prop), Draws X.prog X.w A it (it :: (r.adr ++ [x1])) xs.length P S ∧ S i s.heap ∧ (∀ j u, P j u → ∃ x, xs[j]? = some x ∧ RelV x u) ∧ ∀ j h, S j h → r.at it j h
  | .li a, hn, hq, st => by
    obtain ⟨its, rv, p, hz⟩ := I.list hq
    have e : xs.length = its.toArray.size := by rw [rv.length]; simp
    have D := hdraws_li (prog := X.prog) (w := X.w) hh it a hx (hn a (by simp [Src.adr])) its.toArray
    rw [← e] at D
    refine ⟨_, _, D, ⟨⟨st, p.isList⟩, hf⟩, fun j u hu => ?_, fun j h z => z.1.1⟩
    have hu' : its[j]? = some u := by simpa using hu
    exact vals_get rv hu'
  | .tu a, hn, hq, st => by
    obtain ⟨its, rv, p, hz⟩ := I.tuple hq
    have e : xs.length = its.toArray.size := by rw [rv.length]; simp
    have D := hdraws_tu (prog := X.prog) (w := X.w) hh it a hx (hn a (by simp [Src.adr])) its.toArray
    rw [← e] at D
    refine ⟨_, _, D, ⟨⟨st, p⟩, hf⟩, fun j u hu => ?_, fun j h z => z.1.1⟩
    have hu' : its[j]? = some u := by simpa using hu
    exact vals_get rv hu'
  | .tx x t, hn, hq, st => by
    have hq : xs = x.cps.toList.map fun c => V.str ⟨#[c]⟩ := hq
    have e : xs.length = x.cps.size := by rw [hq]; simp
    have D := hdraws_tx (prog := X.prog) (w := X.w) hh it hx x t
    rw [← e] at D
    refine ⟨_, _, D, ⟨st, hf⟩, fun j u hu => ?_, fun j h z => z.1⟩
    obtain ⟨c, k, hc, rfl⟩ := hu
    refine ⟨.str ⟨#[c]⟩, by rw [hq]; simp [hc], k, rfl⟩
/-- the handled one, apart from an iterator's own objects -/
theorem hot_apart {X : Cx} {pins : List (Addr × Obj)} {σ : L2.St} {H : Hp} {s : Shared} {fp : List Addr} (hc : HotC X) (I : Inv X pins σ H s) (hf : ∀ b ∈ fp, FpOk X pins H b) : ∃ x1, X.A.handled = some (.ref x1) ∧ HF x1 s.heap ∧ ∀ b ∈ fp, x1 ≠ b := by
  obtain ⟨p, ⟨hh, v1, e1, c1⟩, hp⟩ := hc
  have hp' : p ∈ X.pn ++ pins := List.mem_append_left _ hp
  exact ⟨p.1, hh, ⟨p.2, v1, (I.pin p hp').1, e1, c1⟩, fun b hb => (hf b hb).2.2.2.2.2 p hp'⟩

/-- one source is walked -/
theorem turn_srcH {P : Program} {w : World} {K : PySem.W.Frag} {tg : Expr} (it : Addr) : ∀ r : Src, TurnH P w K tg (ItO K r) [it] it (fun i h => r.at it i h) := fun r => {
  mem := by simp
  obj := fun i h st b hb => by
    obtain rfl : b = it := by simpa using hb
    exact Src.at_obj st
  keep := fun i h h' st k => Src.at_keep (fun o z => k it (by simp) o z) st
  item := by
    intro X hP hw hK hc i pins s σ H E I hf st hg
    subst hP hw hK
    obtain ⟨xs, x, hq, hx⟩ := hg
    obtain ⟨f0, f1, f2, f3, f4, f5⟩ := hf it (by simp)
    cases r with
    | li a =>
      obtain ⟨its, rv, p, hz⟩ := I.list hq
      obtain ⟨u, hu, ru⟩ := rv.get hx
      refine wpAny_pyNext_list_item st p.isList (x := u) (by simpa using hu) fun g st' sb => ⟨u, rfl, ?_⟩
      obtain ⟨oi, k1, k2, k3⟩ := id st'
      exact go_of (s := { s with heap := g }) k1 k2 k3 (by decide) ⟨x, H, I.turned (t' := s.toks) (fun b o hb z => (sb.2 b hb).trans z) f0 f1 f3 f4 f5, ru, ⟨rfl, fun ys hy => by rw [I.list_inj hy hq]; exact hx⟩, st', fun b hb => (hf b hb).1⟩
    | tu a =>
      obtain ⟨its, rv, p, hz⟩ := I.tuple hq
      obtain ⟨u, hu, ru⟩ := rv.get hx
      refine wpAny_pyNext_tuple_item st p (x := u) (by simpa using hu) fun g st' sb => ⟨u, rfl, ?_⟩
      obtain ⟨oi, k1, k2, k3⟩ := id st'
      exact go_of (s := { s with heap := g }) k1 k2 k3 (by decide) ⟨x, H, I.turned (t' := s.toks) (fun b o hb z => (sb.2 b hb).trans z) f0 f1 f3 f4 f5, ru, ⟨rfl, fun ys hy => by rw [I.tuple_inj hy hq]; exact hx⟩, st', fun b hb => (hf b hb).1⟩
    | tx y t =>
      have hq : xs = y.cps.toList.map fun c => V.str ⟨#[c]⟩ := hq
      have hlt : i < y.cps.size := by
        have := (List.getElem?_eq_some_iff.mp hx).1
        rw [hq] at this
        simpa using this
      have hxe : x = .str ⟨#[y.cps[i]]⟩ := by
        rw [hq] at hx
        simpa [hlt, eq_comm] using hx
      have ot : ∀ ys : List V, (Src.tx y t).has X.K H ys → ys[i]? = some x := fun ys hy => by
        have hy : ys = y.cps.toList.map fun c => V.str ⟨#[c]⟩ := hy
        rw [hy, ← hq]
        exact hx
      have st : s.heap.IsStrIter it (strIterType y) y t i := st
      show wpAny _ _ _ (fun r s1 => ∃ u, r = some u ∧ wpAny _ _ _ (fun _ s2 => ∃ x H', Inv X pins σ H' s2 ∧ RelV x u ∧ (H' = H ∧ _) ∧ s2.heap.IsStrIter it (strIterType y) y t (i + 1) ∧ _) E s1) E s
      cases ha : y.cps.all (· < 128)
      · have et : strIterType y = "str_iterator" := by simp only [strIterType, ha, Bool.false_eq_true, if_false]
        rw [et] at st ⊢
        refine wpAny_pyNext_wide_item st (c := y.cps[i]) (by simp [hlt]) fun g st' sb => ⟨_, rfl, ?_⟩
        obtain ⟨oi, k1, k2, k3⟩ := id st'
        exact go_of (s := { s with heap := g, toks := s.toks + 1 }) k1 k2 k3 (by decide) ⟨x, H, I.turned (t' := s.toks + 1) (fun b o hb z => (sb.2 b hb).trans z) f0 f1 f3 f4 f5, by rw [hxe]; exact ⟨_, rfl⟩, ⟨rfl, ot⟩, st', fun b hb => (hf b hb).1⟩
      · have et : strIterType y = "str_ascii_iterator" := by simp only [strIterType, ha, if_true]
        rw [et] at st ⊢
        refine wpAny_pyNext_ascii_item st (c := y.cps[i]) (by simp [hlt]) fun g st' sb => ⟨_, rfl, ?_⟩
        obtain ⟨oi, k1, k2, k3⟩ := id st'
        exact go_of (s := { s with heap := g, toks := s.toks + 1 }) k1 k2 k3 (by decide) ⟨x, H, I.turned (t' := s.toks + 1) (fun b o hb z => (sb.2 b hb).trans z) f0 f1 f3 f4 f5, by rw [hxe]; exact ⟨_, rfl⟩, ⟨rfl, ot⟩, st', fun b hb => (hf b hb).1⟩
  done := by
    intro X hP hw hK hc i pins s σ H E I hf st hg
    subst hP hw hK
    obtain ⟨x1, hh, hF, ap⟩ := hot_apart hc I hf
    have hn := ap it (by simp)
    obtain ⟨xs, hq, hx⟩ := hg
    obtain ⟨f0, f1, f2, f3, f4, f5⟩ := hf it (by simp)
    cases r with
    | li a =>
      obtain ⟨its, rv, p, hz⟩ := I.list hq
      have hl := rv.length
      exact li_pn ⟨hh, hF⟩ hn st p.isList (by simp; omega) fun g eb => ⟨rfl, I.turned (t' := s.toks) (fun b o hb z => eb b o hb z) f0 f1 f3 f4 f5⟩
    | tu a =>
      obtain ⟨its, rv, p, hz⟩ := I.tuple hq
      have hl := rv.length
      exact tu_pn ⟨hh, hF⟩ hn st (show s.heap.IsTuple a its.toArray from p) (by simp; omega) fun g eb => ⟨rfl, I.turned (t' := s.toks) (fun b o hb z => eb b o hb z) f0 f1 f3 f4 f5⟩
    | tx y t =>
      have hq : xs = y.cps.toList.map fun c => V.str ⟨#[c]⟩ := hq
      have hl : y.cps[i]? = none := by
        rw [hq] at hx
        exact Array.getElem?_eq_none (by rw [hx]; simp)
      have st : s.heap.IsStrIter it (strIterType y) y t i := st
      cases ha : y.cps.all (· < 128)
      · have et : strIterType y = "str_iterator" := by simp only [strIterType, ha, Bool.false_eq_true, if_false]
        rw [et] at st
        exact wi_pn ⟨hh, hF⟩ hn st hl fun g eb => ⟨rfl, I.turned (t' := s.toks) (fun b o hb z => eb b o hb z) f0 f1 f3 f4 f5⟩
      · have et : strIterType y = "str_ascii_iterator" := by simp only [strIterType, ha, if_true]
        rw [et] at st
        exact as_pn ⟨hh, hF⟩ hn st hl fun g eb => ⟨rfl, I.turned (t' := s.toks) (fun b o hb z => eb b o hb z) f0 f1 f3 f4 f5⟩
  self := fun A i s Q E st h => by
    cases r with
    | li a => exact wpAny_pyIter_listiter st h
    | tu a => exact wpAny_pyIter_tupleiter st h
    | tx y t =>
      have st : s.heap.IsStrIter it (strIterType y) y t i := st
      cases ha : y.cps.all (· < 128)
      · simp only [strIterType, ha, Bool.false_eq_true, if_false] at st
        exact wpAny_pyIter_striter_wide st h
      · simp only [strIterType, ha, if_true] at st
        exact wpAny_pyIter_striter_ascii st h }
end RA

/-! While an exception is handled: zip, comprehensions, tuples as targets, all, sum. -/
namespace RA
open PySem PySem.Spec PyProof.Rows L2 HotX L2H

theorem zip_sepH {z TI TO i1 i2 x1 : Addr} {f1 f2 : List Addr} (D : ZipSep2 z TI TO i1 i2 (i1 :: f1) (i2 :: f2)) (h1 : x1 ≠ z) (h2 : x1 ≠ TO) (h3 : x1 ≠ i1) (h4 : x1 ≠ i2) : ZipSep2 z TI TO i1 i2 (i1 :: (f1 ++ [x1])) (i2 :: (f2 ++ [x1])) := by
  have add : ∀ {a b : Addr} {f : List Addr}, a ∉ b :: f → x1 ≠ a → a ∉ b :: (f ++ [x1]) := fun {a b f} h n q => by
    rw [← List.cons_append] at q
    rcases List.mem_append.mp q with q | q
    · exact h q
    · exact n (List.mem_singleton.mp q).symm
  exact ⟨D.TIz, D.TOz, D.TITO, D.TIi1, List.mem_cons_self, add D.zf1 h1, add D.Tf1 h2, D.TIi2, List.mem_cons_self, add D.zf2 h1, add D.Tf2 h2, add D.sep1_2 h3, add D.sep2_1 h4⟩
theorem turn_zipH {P : Program} {w : World} {K : PySem.W.Frag} {elts : List Expr} {kk : Nat} {tpos : Pos} {r1 r2 : Src} {z TI TO i1 i2 : Addr} (D : ZipSep2 z TI TO i1 i2 (i1 :: r1.adr) (i2 :: r2.adr)) (hn1 : ∀ a ∈ r1.adr, a ≠ i1) (hn2 : ∀ a ∈ r2.adr, a ≠ i2) :
    TurnH P w K (.Tuple elts kk tpos) (ItZ K r1 r2) [z, TI, TO, i1, i2] z (fun i h => IsZip h z TI TO .none ∧ IsTupOf2 h TI (.ref i1) (.ref i2) ∧ (∃ x y, IsTupOf2 h TO x y) ∧ r1.at i1 i h ∧ r2.at i2 i h) where
  mem := by simp
  obj := fun i h st c hc => by
    obtain ⟨hz, hTI, ⟨x, y, hTO⟩, h1, h2⟩ := st
    have e' : c = z ∨ c = TI ∨ c = TO ∨ c = i1 ∨ c = i2 := by simpa using hc
    rcases e' with q | q | q | q | q
    · rw [q]; exact ⟨_, hz, fun v q => nomatch q⟩
    · rw [q]; exact ⟨_, hTI, fun v q => nomatch q⟩
    · rw [q]; exact ⟨_, hTO, fun v q => nomatch q⟩
    · rw [q]; exact (Src.at_obj h1)
    · rw [q]; exact (Src.at_obj h2)
  keep := fun i h h' st k => by
    obtain ⟨hz, hTI, ⟨x, y, hTO⟩, h1, h2⟩ := st
    exact ⟨k z (by simp) _ hz, k TI (by simp) _ hTI, ⟨x, y, k TO (by simp) _ hTO⟩, Src.at_keep (fun o q => k i1 (by simp) o q) h1, Src.at_keep (fun o q => k i2 (by simp) o q) h2⟩
  item := by
    intro X hP hw hK hc i pins s σ H E I hf st hg
    subst hP hw hK
    obtain ⟨hz, hTI, ⟨x0, y0, hTO⟩, h1, h2⟩ := st
    obtain ⟨xs, ys, x, y, hqx, hqy, hx, hy⟩ := hg
    obtain ⟨x1, hh, hF, ap⟩ := hot_apart hc I hf
    have D := zip_sepH D (ap z (by simp)) (ap TO (by simp)) (ap i1 (by simp)) (ap i2 (by simp))
    obtain ⟨P1, S1, D1, st1, p1, n1⟩ := Src.drawsH (A := X.A.in1) I hh hF (ap i1 (by simp)) hn1 hqx h1
    obtain ⟨P2, S2, D2, st2, p2, n2⟩ := Src.drawsH (A := X.A.in1) I hh hF (ap i2 (by simp)) hn2 hqy h2
    have hzl : z < s.heap.objs.size := Heap.lt_size hz
    refine wpAny_pyNext_zipD2_item D D1 D2 hz hTI hTO st1 st2 (List.getElem?_eq_some_iff.mp hx).1 (List.getElem?_eq_some_iff.mp hy).1 fun u u2 h' tk hu hu2 z' TO' h1' h2' hT hsz hk => ?_
    obtain ⟨x', hx', ru⟩ := p1 _ _ hu
    obtain ⟨y', hy', ru2⟩ := p2 _ _ hu2
    rw [hx] at hx'; cases hx'
    rw [hy] at hy'; cases hy'
    refine ⟨_, rfl, wpAny_letOwnedTupleGo_zip (s := { s with heap := h', toks := tk }) z' fun h'' z'' sb => ?_⟩
    have hT2 : h''.get? s.heap.objs.size = some { cls := .type "tuple", data := .seq #[u, u2] } := (sb.2 _ (Nat.ne_of_gt hzl)).trans hT
    have new : ObjOk X.prog X.w (upd H s.heap.objs.size (.frz { cls := .type "tuple", data := .seq #[u, u2] } (.tup [x, y]))) h'' s.heap.objs.size (.frz { cls := .type "tuple", data := .seq #[u, u2] } (.tup [x, y])) :=
      ⟨hT2, by show 2 ≤ sizeLine; decide, [u, u2], .cons ru (.cons ru2 .nil), ⟨_, hT2, rfl, _, rfl⟩⟩
    have I1 : Inv X pins σ (upd H s.heap.objs.size (.frz { cls := .type "tuple", data := .seq #[u, u2] } (.tup [x, y]))) { s with heap := h'', toks := tk } :=
      I.turnedNew (t' := tk) (ch := [z, TI, TO, i1, i2]) (fun c o hb q => (sb.2 c (fun q' => hb (by simp [q']))).trans (hk c o (fun q' => hb (by simp [q'])) (fun q' => hb (by simp [q'])) (fun q' => hb (by simp [q'])) (fun q' => hb (by simp [q'])) q)) hf (Nat.le_refl _) new
    refine ⟨.ref s.heap.objs.size, _, I1, rfl, ⟨_, _, x, y, rfl, I.hok.fresh (Nat.le_refl _), ⟨rfl, rfl⟩, rfl, fun l hl => by rw [Src.has_inj I hl hqx]; exact hx, fun l hl => by rw [Src.has_inj I hl hqy]; exact hy⟩, ⟨z'', ?_, ⟨u, u2, ?_⟩, ?_, ?_⟩, fun c hcm => ?_⟩
    · exact (sb.2 _ D.TIz).trans (hk _ _ D.TIz D.TITO D.TIi1 D.TIi2 hTI)
    · exact (sb.2 _ D.TOz).trans TO'
    · exact Src.at_keep (fun o q => (sb.2 _ (fun e => D.zi1 e.symm)).trans q) (n1 _ _ h1')
    · exact Src.at_keep (fun o q => (sb.2 _ (fun e => D.zi2 e.symm)).trans q) (n2 _ _ h2')
    · have hlt : c < s.heap.objs.size := by
        have e' : c = z ∨ c = TI ∨ c = TO ∨ c = i1 ∨ c = i2 := by simpa using hcm
        rcases e' with q | q | q | q | q
        · rw [q]; exact hzl
        · rw [q]; exact Heap.lt_size hTI
        · rw [q]; exact Heap.lt_size hTO
        · rw [q]; obtain ⟨_, e1, _⟩ := (Src.at_obj h1); exact Heap.lt_size e1
        · rw [q]; obtain ⟨_, e2, _⟩ := (Src.at_obj h2); exact Heap.lt_size e2
      rw [upd_ne (Nat.ne_of_lt hlt)]
      exact (hf c hcm).1
  done := by
    intro X hP hw hK hc i pins s σ H E I hf st hg
    subst hP hw hK
    obtain ⟨hz, hTI, ⟨x0, y0, hTO⟩, h1, h2⟩ := st
    obtain ⟨xs, ys, hqx, hqy, l1, l2, hend⟩ := hg
    obtain ⟨x1, hh, hF, ap⟩ := hot_apart hc I hf
    have D := zip_sepH D (ap z (by simp)) (ap TO (by simp)) (ap i1 (by simp)) (ap i2 (by simp))
    obtain ⟨P1, S1, D1, st1, p1, n1⟩ := Src.drawsH (A := X.A.in1) I hh hF (ap i1 (by simp)) hn1 hqx h1
    obtain ⟨P2, S2, D2, st2, p2, n2⟩ := Src.drawsH (A := X.A.in1) I hh hF (ap i2 (by simp)) hn2 hqy h2
    exact wpAny_pyNext_zipD2_end D D1 D2 hz hTI hTO st1 st2 l1 l2 hend fun h' tk hk => ⟨rfl, I.turnedL (t' := tk) (ch := [z, TI, TO, i1, i2]) (fun c o hb q =>
      hk c o (fun q' => hb (by simp [q'])) (fun q' => hb (by simp [q'])) (fun q' => hb (by simp [q'])) (fun q' => hb (by simp [q'])) q) hf⟩
  self := fun A i s Q E st h => wpAny_pyIter_zip st.1 h

section
variable {X : Cx} {tg : Expr}
theorem pi_oneH {pins : List (Addr × Obj)} {σ : L2.St} {H : Hp} {s : Shared} {R : L2.It → Hp → Prop} {J : L2.It} {tn : Nat → Heap → Prop} {tk : Nat} (I : Inv X pins σ H s) (o : Obj)
    (T : TurnH X.prog X.w X.K tg J [s.heap.objs.size] s.heap.objs.size tn) (st : tn 0 (s.heap.push o)) (q : R J H) : PIEH X pins σ tg R (.ref s.heap.objs.size) { s with heap := s.heap.push o, toks := tk } :=
  ⟨s.heap.objs.size, [s.heap.objs.size], tn, J, H, rfl, I.kept fun b ob z => Heap.get?_push_of_some _ z, T, st, fun b hb => by
    obtain rfl : b = s.heap.objs.size := by simpa using hb
    exact I.fpOk (Nat.le_refl _) (I.hok.fresh (Nat.le_refl _)), q⟩
theorem pi_walkH {e : Expr} {te : TE} (he : PE X e te) : PIH X tg e (iWalk X.K te) := by
  refine ⟨fun pins s σ H R I h => thn (he.run pins s σ H _ I h) fun v s1 ⟨x, H1, I1, r1, xs, P, hw, q⟩ => ?_⟩
  cases hw with
  | l hq =>
    cases r1
    obtain ⟨its, rv, p, hz⟩ := I1.list hq
    exact wpAny_pyIter_list p.isList (pi_oneH (tk := s1.toks) I1 _ (turn_srcH _ (.li _)) ⟨_, Heap.get?_push_size _ rfl, rfl, rfl⟩ (q (.li _) rfl))
  | t hq =>
    cases r1
    obtain ⟨its, rv, p, hz⟩ := I1.tuple hq
    exact wpAny_pyIter_tuple (show s1.heap.IsTuple _ its.toArray from p) (pi_oneH (tk := s1.toks) I1 _ (turn_srcH _ (.tu _)) ⟨_, Heap.get?_push_size _ rfl, rfl, rfl⟩ (q (.tu _) rfl))
  | s =>
    rename_i x
    obtain ⟨t, rfl⟩ := r1
    have q' := q (.tx x t) ⟨t, rfl⟩
    cases ha : x.cps.all (· < 128)
    · refine wpAny_pyIter_wide ha (pi_oneH (tk := s1.toks) I1 _ (turn_srcH _ (.tx x t)) ?_ q')
      show Heap.IsStrIter _ _ (strIterType x) x t 0
      simp only [strIterType, ha, Bool.false_eq_true, if_false]
      exact ⟨_, Heap.get?_push_size _ rfl, rfl, rfl⟩
    · refine wpAny_pyIter_ascii ha (pi_oneH (tk := s1.toks) I1 _ (turn_srcH _ (.tx x t)) ?_ q')
      show Heap.IsStrIter _ _ (strIterType x) x t 0
      simp only [strIterType, ha, if_true]
      exact ⟨_, Heap.get?_push_size _ rfl, rfl, rfl⟩
theorem pi_zipH {e e2 : Expr} {ta : TA} {p pos tpos : Pos} {elts : List Expr} {kk : Nat} (hg : Gl X "zip") (hm : X.mg "zip" = none) (ha : PA X [e, e2] ta)
    (hs : starEach [e, e2] X.env = (false, eval e X.env) :: starEach [e2] X.env) (hpl : (backTo pos (starEach [e2] X.env)).any (·.1) = false) :
    PIH X (.Tuple elts kk tpos) (.Call (.Name "zip" p) [e, e2] [] pos) (iZipW X.K ta) := by
  refine ⟨fun pins s σ H R I h => ?_⟩
  refine Call_ (ld_blt I hg hm PyProof.Rows.boot_zip (PyProof.Rows.callWith_type1 (thn (ha.run pos pins s σ H _ I h) fun us s1 ⟨vs, H1, I1, r1, q1⟩ => ?_) hs hpl))
  obtain ⟨v, v2, xs, ys, Q1, Q2, ex, w1, w2, q⟩ := q1
  subst ex
  cases r1 with
  | cons r rr =>
    cases rr with
    | cons r' rr =>
      cases rr
      obtain ⟨r1, rfl, h1, m1⟩ := w1.src r
      obtain ⟨r2, rfl, h2, m2⟩ := w2.src r'
      obtain ⟨P1, B1, p1, lt1⟩ := Src.begins I1 h1
      obtain ⟨P2, B2, p2, lt2⟩ := Src.begins I1 h2
      refine zip_begins2 B1 B2 p1 p2 fun h' hz hTI hTO g1 g2 hsz hk => wpAny_pyIter_zip hz ?_
      have I2 : Inv X pins σ H1 { s1 with heap := h' } := I1.kept (t' := s1.toks) hk
      refine ⟨s1.heap.objs.size + 4, [s1.heap.objs.size + 4, s1.heap.objs.size + 2, s1.heap.objs.size + 3, s1.heap.objs.size, s1.heap.objs.size + 1], _, _, H1, rfl, I2,
        turn_zipH (zip_sep2 lt1 lt2) (fun a ha => Nat.ne_of_lt (lt1 a ha)) (fun a ha => Nat.ne_of_lt (Nat.lt_succ_of_lt (lt2 a ha))), ⟨hz, hTI, ⟨_, _, hTO⟩, Src.at_zero g1, Src.at_zero g2⟩, fun c hcm => ?_, q r1 r2 m1 m2⟩
      have e' : c = s1.heap.objs.size + 4 ∨ c = s1.heap.objs.size + 2 ∨ c = s1.heap.objs.size + 3 ∨ c = s1.heap.objs.size ∨ c = s1.heap.objs.size + 1 := by simpa using hcm
      have hle : s1.heap.objs.size ≤ c := by
        rcases e' with z | z | z | z | z <;> rw [z] <;> first | exact Nat.le_add_right _ _ | exact Nat.le_refl _
      exact I1.fpOk hle (I1.hok.fresh hle)
end
end RA

set_option maxHeartbeats 2000000
/-! While an exception is handled: comprehensions. -/
namespace RA
open PySem PySem.Spec PyProof.Rows L2 HotX L2H

/-- the block of a comprehension that knows of the handled exception -/
abbrev blkH (X : Cx) (s : Shared) (H : Hp) (scope : Scope) (ce : Env) (fp : List Addr) : Cx := { X.blk s H scope ce fp with pn := X.pn }
section
variable {X : Cx}
theorem HotC.blkH (h : HotC X) {s : Shared} {H : Hp} {scope : Scope} {ce : Env} {fp : List Addr} : HotC (blkH X s H scope ce fp) := h
theorem blkH_ok {s : Shared} {H : Hp} {scope : Scope} {ce : Env} {fp : List Addr} (o : (X.blk s H scope ce fp).Ok) : (blkH X s H scope ce fp).Ok :=
  ⟨o.mod, o.kind, o.glob, o.blt, o.above, o.inj, o.has, o.cab, o.hd, o.frames, o.stk, o.exf, o.bs, o.bsz, o.noex, o.exfs, o.funs, o.frf⟩
theorem blkH_inv {s s' : Shared} {H H' : Hp} {σ : L2.St} {scope : Scope} {ce : Env} {fp : List Addr} (J : Inv (X.blk s H scope ce fp) [] σ H' s')
    (h : ∀ p ∈ X.pn, s'.heap.get? p.1 = some p.2 ∧ H' p.1 = none ∧ p.1 ≠ ce.locals ∧ p.1 ∉ frs X.stack ∧ ∀ v, p.2.data ≠ .cell v) : Inv (blkH X s H scope ce fp) [] σ H' s' :=
  ⟨blkH_ok J.ok, J.os, J.bare, J.base, J.loc, J.cell, J.free, J.freeC, fun p hp => h p (by simpa using hp), J.hok, J.len⟩
theorem pe_lcH {elt tg iter : Expr} {ifs : List Expr} {scope : Scope} {own : List (Str × Nat)} {pos : Pos} {wi : TI} {g : TG} {tt : TT} {te : TE} (hc : HotC X) (hN : X.N.Nodup) (hi : PIH X tg iter wi) (ok : BlkOk X.N X.env.scope scope own)
    (hg : ∀ s H C cl fp, PG (blkH X s H scope (compEnvC scope cl C X.env) fp) tg g) (ht : ∀ s H C cl fp, PTs (blkH X s H scope (compEnvC scope cl C X.env) fp) ifs tt)
    (he : ∀ s H C cl fp, PE (blkH X s H scope (compEnvC scope cl C X.env) fp) elt te) (hs : ∀ x, foldedSetIterable iter X.env x = pure x) :
    PE X (.ListComp elt [⟨tg, iter, ifs, 0⟩] scope pos) (tLc wi g tt te (own.map (·.2))) := by
  refine ⟨fun pins sa σ Ha Q Ia asked => ?_⟩
  have cells : ∀ y ∈ scope.names, y.2 = .free → ∃ c, X.env.cells.lookup y.1 = some c := fun y hy z => Ia.ok.has _ ((ok.free y hy z).imp id id)
  rw [eval_ListComp]
  refine wpAny_comprehension_free rfl hs (closure_ok cells) ok.kind (fun y hy z => (ok.uniq y hy).trans (by rw [z])) (thn (hi.run pins sa σ Ha _ Ia asked) fun xv sb xb => thn xb fun iv sc xc => ?_)
  obtain ⟨it, fp, tn, J, Hc, rfl, Ic, T, st0, fpc, wish⟩ := xc
  refine wpAny_newObj_type (newEnv_comp ?_) (by show 0 ≤ sizeLine; decide)
  -- the new list at D
  let D : Addr := sc.heap.objs.size
  let hd : Heap := sc.heap.push { cls := .type "list", data := .seq ([] : List Value).toArray }
  let sd : Shared := { sc with heap := hd }
  let Hd : Hp := upd Hc D (.lst [])
  have nD : Hc D = none := Ic.hok.fresh (Nat.le_refl _)
  obtain ⟨W, ⟨m0, w0⟩, turn⟩ := wish D nD
  have Id : Inv X pins σ Hd sd := Ic.laid (t' := sc.toks) (fun b o z => Heap.get?_push_of_some _ z) (Nat.le_refl _) ⟨Nat.zero_le _, [], 0, .nil, Heap.get?_push_size _ rfl⟩
  have small : ∀ b ∈ fp, b < sc.heap.objs.size := fun b hb => by
    obtain ⟨o, z, _⟩ := T.obj _ _ st0 b hb
    exact Heap.lt_size z
  have fpd : ∀ b ∈ fp, FpOk X pins Hd b ∧ b < sd.heap.objs.size := fun b hb =>
    ⟨⟨(upd_ne (Nat.ne_of_lt (small b hb))).trans (fpc b hb).1, (fpc b hb).2⟩, by show b < hd.objs.size; rw [Heap.size_push]; exact Nat.lt_succ_of_lt (small b hb)⟩
  -- the block
  let L : Addr := sd.heap.objs.size
  let cls := cellsFrom (sd.heap.objs.size + 1) scope.names (cloFrom X.env.cells scope.names [])
  let ce : Env := compEnvC scope cls L X.env
  let Y : Cx := blkH X sd Hd scope ce fp
  let se : Shared := { sd with heap := pushCells (sd.heap.push { cls := .type "dict", data := .dict #[] }) scope.names }
  have kp : ∀ b o, sd.heap.get? b = some o → se.heap.get? b = some o := fun b o z => pushCells_keeps _ _ _ _ (Heap.get?_push_of_some _ z)
  have Ie : Inv Y [] (L2.wipe σ (own.map (·.2))) Hd se := blkH_inv (block_start Id ok hN fpd) fun p hp => by
    obtain ⟨k1, k2, k3, k4, k5⟩ := Id.pin p (List.mem_append_left _ hp)
    exact ⟨kp _ _ k1, k2, Nat.ne_of_lt (Heap.lt_size k1), fun z => (List.mem_cons.mp (Id.stkSub p.1 z)).elim k3 k4, k5⟩
  have tge := hg sd Hd L cls fp
  have tse := ht sd Hd L cls fp
  have ele := he sd Hd L cls fp
  have ste : tn 0 se.heap := T.keep _ _ _ st0 fun b _ o z => kp b o (Heap.get?_push_of_some _ z)
  have fpY : ∀ {σ' : L2.St} {H' : Hp} {s' : Shared}, Inv Y [] σ' H' s' → (∀ b ∈ fp, H' b = none) → ∀ b ∈ fp, FpOk Y [] H' b := fun {σ' H' s'} I' n b hb =>
    ⟨n b hb, (I'.ok.exf b hb).1, I'.ok.exfs b hb, .inl hb, fun x c z => (I'.ok.exf b hb).2 x c z, fun p hp => (fpd b hb).1.2.2.2.2.2 p (List.mem_append_left _ (by simpa using hp))⟩
  refine codeAny_compStart_list ?loop (T.self X.A 0 _ _ _ ste ?loop)
  refine compLoop_any (fun n s' => ∃ i H', Inv Y [] (L2.wipe σ (own.map (·.2))) H' s' ∧ tn i s'.heap ∧ (∀ b ∈ fp, H' b = none) ∧ W i n H') (fun n s5 at5 => ?_) m0 ⟨0, Hd, Ie, ste, fun b hb => (fpd b hb).1.1, w0⟩
  obtain ⟨i, H5, I5, st5, n5, w5⟩ := at5
  rcases turn i n H5 w5 with ⟨stop, q5⟩ | ⟨go, Nx, next, step⟩
  · refine thnF (T.done Y rfl rfl rfl hc i [] s5 _ H5 (fun _ _ => False) I5 (fpY I5 n5) st5 stop) fun r s6 ⟨hr, I6⟩ => ?_
    subst hr
    have I7 : Inv X pins σ H5 s6 := Id.call' (ch := fp) I6.os I6.base I6.hok I6.bare fun b hb => ⟨(fpd b hb).1.2.2.2.1, (fpd b hb).1.2.1, (fpd b hb).1.2.2.2.2.1, (fpd b hb).1.2.2.2.2.2⟩
    obtain ⟨m, ns, _⟩ := I6.loc
    have nL : H5 L = none := I6.free
    obtain ⟨f0, f1, f2, f3, f4, f5⟩ := Id.fpOk (b := L) (Nat.le_refl _) nL
    exact ⟨m, ns, fun h8 sb8 => ⟨.ref D, H5, I7.turned (t' := s6.toks) (fun b o hb z => (sb8.2 b hb).trans z) f0 f1 f3 f4 f5, rfl, q5⟩⟩
  · refine thnF (T.item Y rfl rfl rfl hc i [] s5 _ H5 (fun _ _ => False) I5 (fpY I5 n5) st5 go) fun r s6 ⟨u, hr, x6⟩ => ?_
    subst hr
    refine thnF x6 fun _ s7 ⟨x, H7, I7, r7, y7, st7, n7⟩ => ?_
    have P7 := I7.pinned (fpY I7 n7) (T.obj _ _ st7)
    refine thnF (tge.run _ s7 _ H7 x u _ P7 r7 (step x H7 y7)) fun _ s8 ⟨σ8, H8, I8, hw, q8⟩ => thnF (tse.run _ s8 σ8 H8 _ I8 q8) fun b s9 ⟨H9, I9, q9⟩ => ?_
    -- back to the loop's head
    have again : ∀ {s' : Shared} {H' : Hp}, Inv Y ([] ++ pinsAt fp s7.heap) σ8 H' s' → Nx H' → ∃ m, m < n ∧ ∃ i H', Inv Y [] (L2.wipe σ (own.map (·.2))) H' s' ∧ tn i s'.heap ∧ (∀ b ∈ fp, H' b = none) ∧ W i m H' := fun {s' H'} I' nx => by
      obtain ⟨m', lt, w'⟩ := next H' nx
      have held : ∀ b ∈ fp, ∀ o, s7.heap.get? b = some o → s'.heap.get? b = some o ∧ H' b = none := fun b hb o z => by
        have y := I'.pin (b, o) (List.mem_append_right _ (List.mem_append_right _ (mem_pinsAt hb z)))
        exact ⟨y.1, y.2.1⟩
      refine ⟨m', lt, i + 1, H', (I'.unpinned (pins := [])).weak (by rw [← hw, wipe_length]) (fun j v z => ?_), T.keep _ _ _ st7 fun b hb o z => (held b hb o z).1, fun b hb => ?_, w'⟩
      · rw [← hw] at z
        exact (wipe_some z).1
      · obtain ⟨o, z, _⟩ := T.obj _ _ st7 b hb
        exact (held b hb o z).2
    cases b with
    | false => exact again I9 (by simpa using q9)
    | true =>
      rw [if_pos rfl] at q9
      refine thnF (ele.run _ s9 σ8 H9 _ I9 q9) fun z s10 ⟨y, H10, I10, r10, acc, hD, hz, nx⟩ => ?_
      exact app_ok (X := Y) I10 hD hz r10 fun s11 I11 => again I11 nx
end
end RA

set_option maxHeartbeats 2000000
/-! While an exception is handled: tuples as targets, all, sum. -/
namespace RA
open PySem PySem.Spec PyProof.Rows L2 HotX L2H

section
variable {prog : Program} {w : World} {A : Around} {E : Value → Shared → Prop} {s : Shared}
theorem hwalks_li {x1 : Addr} (hh : A.handled = some (.ref x1)) (I l : Addr) (hne : l ≠ I) (hx : x1 ≠ I) (items : Array Value) :
    Walks prog w A I [I, l, x1] [I] items.size (fun i v => items[i]? = some v) (fun i h => (h.IsListIter I l i ∧ h.IsList l items) ∧ HF x1 h) where
  sub := fun b hb => by simp at hb; simp [hb]
  frame := fun i h h' st k => ⟨⟨st.1.1.at fun o z => k I (by simp) o z, st.1.2.at fun o z => k l (by simp) o z⟩, st.2.up fun o z => k x1 (by simp) o z⟩
  item := fun i s Q E hi st q => wpAny_pyNext_list_item st.1.1 st.1.2 (x := items[i]) (by simp [hi]) fun h' it' sb =>
    q _ h' s.toks (by simp [hi]) ⟨⟨it', st.1.2.extBut sb.extBut hne⟩, st.2.up fun o z => (sb.2 x1 hx).trans z⟩ fun b o hb z => (sb.2 b (by simpa using hb)).trans z
  done := fun s Q E st q => li_pn ⟨hh, st.2⟩ hx st.1.1 st.1.2 (by simp) fun h' eb => q h' s.toks fun b o hb z => eb b o (by simpa using hb) z
  self := fun i s Q E st q => wpAny_pyIter_listiter st.1.1 q
/-- items of a tuple are handed out -/
theorem unpack_hot {t x1 : Addr} {items : Array Value} {Q : List Value → Shared → Prop} (hot : HotAt A x1 s.heap) (ht : IsTup s.heap t items)
    (k : ∀ h', Heap.ExtBut s.heap.objs.size s.heap h' → Q items.toList { s with heap := h' }) : wpAny (model prog w) A (unpackItems (.ref t) items.size none) Q E s := by
  obtain ⟨hh, hF⟩ := hot
  have tl : t < s.heap.objs.size := by obtain ⟨o, z, _⟩ := ht; exact Heap.lt_size z
  have xl : x1 < s.heap.objs.size := by obtain ⟨o, _, z, _⟩ := hF; exact Heap.lt_size z
  have hF : HF x1 s.heap := hF
  unfold unpackItems
  refine wpAny_bind ?_
  unfold notIterableAtAll
  refine wpAny_bind (wpAny_specialOf ht.typeIs slot_tuple_iter.lookup (wpAny_pure ?_))
  simp only [Bool.false_eq_true, if_false]
  refine wpAny_bind (wpAny_holding (iter_tuple ht (wpAny_bind (wpAny_holding (draw_tuple (Nat.ne_of_lt tl) items.size 0 _ _ ⟨_, Heap.get?_push_size _ rfl, rfl, rfl⟩ (ht.push _) (by omega) fun g it1 sb => ?_)))))
  have whole : List.take items.size (List.drop 0 items.toList) = items.toList := by
    rw [List.drop_zero]; exact List.take_of_length_le (by simp)
  rw [whole, if_neg (by simp)]
  have t1 : IsTup g t items := (ht.push _).extBut sb.extBut (Nat.ne_of_lt tl)
  have f1 : HF x1 g := (hF.up (h' := s.heap.push _) fun o z => Heap.get?_push_of_some _ z).up fun o z => (sb.2 x1 (Nat.ne_of_lt xl)).trans z
  refine wpAny_bind (wpAny_holding (tu_pn (s := { s with heap := g }) (x1 := x1) ⟨hh, f1⟩ (Nat.ne_of_lt xl) it1 (show g.IsTuple t items from t1) (by simp) fun g2 eb => ?_))
  simp only [Option.isSome_none, Bool.false_eq_true, if_false]
  exact wpAny_pure (k g2 fun b o hb z => eb b o hb (sb.extBut b o hb (Heap.get?_push_of_some _ z)))
end
section
variable {X : Cx}
theorem pg_tupH {es : List Expr} {kk n : Nat} {t : TGs} {pos : Pos} (hc : HotC X) (h : PGs X es t) (hn : (assignEach es X.env).length = n) (hst : (assignEach es X.env).findIdx? (·.1) = none) : PG X (.Tuple es kk pos) (gTup X.K n t) := by
  refine ⟨fun pins s σ H v u Q I r asked => ?_⟩
  obtain ⟨a, xs, rfl, hq, hl, asked⟩ := asked
  cases r
  obtain ⟨its, rv, ht, hz⟩ := I.tuple hq
  obtain ⟨x1, hot⟩ := hc.at I
  rw [assign_Tuple]
  refine wpAny_bind (wpAny_standAt ?_)
  unfold unpack
  have e : (assignEach es X.env).length = its.toArray.size := by rw [hn, ← hl, rv.length]; simp
  rw [e, hst]
  refine wpAny_bind (wpAny_holding (unpack_hot hot ht fun g eb => ?_))
  have J : Inv X pins σ H { s with heap := g } := I.kept (t' := s.toks) fun b o z => eb b o (Nat.ne_of_lt (Heap.lt_size z)) z
  exact h.run pins _ σ H xs _ Q J (by simpa using rv) asked
theorem hot_new {pins : List (Addr × Obj)} {σ : L2.St} {H : Hp} {s : Shared} (hc : HotC X) (I : Inv X pins σ H s) : ∃ x1, X.A.handled = some (.ref x1) ∧ HF x1 s.heap ∧ x1 ≠ s.heap.objs.size := by
  obtain ⟨x1, hh, hF⟩ := hc.at I
  obtain ⟨o, v, z, r⟩ := id hF
  exact ⟨x1, hh, hF, Nat.ne_of_lt (Heap.lt_size z)⟩
theorem cr_allH (hc : HotC X) : CallR X (.builtin "all") (rAll X.K) := by
  intro pins s σ H vs us Q I r asked
  obtain ⟨a, bs, rfl, hs, q⟩ := asked
  obtain ⟨its, rv, hl, _⟩ := I.list hs
  obtain ⟨x1, hh, hF, hne⟩ := hot_new hc I
  have hb := rv.bls
  rw [Vals.ref1 r]
  refine call_all_walk (iter_any hl.isList fun s2 e2 st ne => ?_)
  subst e2
  refine ⟨_, _, _, _, _, _, _, rfl, hwalks_li (A := X.A.in1) hh _ a ne hne its.toArray, ⟨st, hF.up fun o z => Heap.get?_push_of_some _ z⟩, truth_bools hb, fun g tk k => ⟨.bl _, H, I.kept fun b o z => k b o (fun m => ?_) (Heap.get?_push_of_some _ z), ?_, q⟩⟩
  · obtain rfl : b = s.heap.objs.size := by simpa using m
    exact absurd (Heap.lt_size z) (Nat.lt_irrefl _)
  · show Value.bool _ = Value.bool _
    rw [← L2.all_range, hb, List.size_toArray, List.length_map]
theorem cr_sumH (hc : HotC X) : CallR X (.builtin "sum") (rSum X.K) := by
  intro pins s σ H vs us Q I r asked
  obtain ⟨a, ns, rfl, hs, q⟩ := asked
  obtain ⟨its, rv, hl, _⟩ := I.list hs
  obtain ⟨x1, hh, hF, hne⟩ := hot_new hc I
  rw [Vals.ref1 r]
  obtain ⟨xs, e⟩ := rv.ints.allInts.items
  have hn : numsOf (intItems xs).toList = ns := by rw [← e]; exact rv.ints.numsOf
  rw [nums_intItems] at hn
  have hl' := hl.isList
  rw [e] at hl'
  refine call_sum_walkG (iter_any hl' fun s2 e2 st ne => ?_)
  subst e2
  have hlt : a < s.heap.objs.size := hl.lt
  have hxl : x1 < s.heap.objs.size := by obtain ⟨o, v, z, _⟩ := id hF; exact Heap.lt_size z
  refine ⟨_, _, _, _, _, _, numAt xs, rfl, hwalks_li (A := X.A.in1) hh _ a ne hne (intItems xs), ⟨st, hF.up fun o z => Heap.get?_push_of_some _ z⟩, fun b hb => ?_, fun _ _ => intItems_at, fun g tk t' k => ?_⟩
  · show b < (s.heap.push _).objs.size
    rw [Heap.size_push]
    have o3 : b = s.heap.objs.size ∨ b = a ∨ b = x1 := by simpa using hb
    rcases o3 with z | z | z <;> rw [z]
    · exact Nat.lt_succ_self _
    · exact Nat.lt_succ_of_lt hlt
    · exact Nat.lt_succ_of_lt hxl
  · have J : Inv X pins σ H { s with heap := g, toks := tk } := I.kept fun b o z => k b o (fun m => by
      obtain rfl : b = s.heap.objs.size := by simpa using m
      exact absurd (Heap.lt_size z) (Nat.lt_irrefl _)) (Heap.get?_push_of_some _ z)
    refine ⟨.int _, H, J, ⟨t', ?_⟩, q⟩
    show Value.int _ t' = Value.int _ t'
    rw [preSum_eq, List.take_of_length_le (by simp [intItems]), hn]
end
end RA

set_option maxHeartbeats 2000000
/-! While an exception is handled: list(range(..)). -/
namespace RA
open PySem PySem.Spec PyProof.Rows L2 HotX L2H

section
variable {prog : Program} {w : World} {A : Around} {E : Value → Shared → Prop} {s : Shared}
theorem hwalks_rg {x1 : Addr} (hh : A.handled = some (.ref x1)) (I : Addr) (hx : x1 ≠ I) (lo : Int) (n : Nat) :
    Walks prog w A I [I, x1] [I] n (fun i v => ∃ t, v = .int (lo + i * 1) t) (fun i h => IsRangeIter h I (lo + (i : Nat) * 1) ((n : Int) - (i : Nat)) 1 ∧ HF x1 h) where
  sub := fun b hb => by
    obtain rfl : b = I := by simpa using hb
    simp
  frame := fun i h h' st k => ⟨k I (by simp) _ st.1, st.2.up fun o z => k x1 (by simp) o z⟩
  item := fun i s Q E hi st q => wpAny_pyNext_range_item st.1 (by omega) fun h' it' sb => by
    have e1 : lo + ((i : Nat) : Int) * 1 + 1 = lo + ((i + 1 : Nat) : Int) * 1 := by omega
    have e2 : (n : Int) - ((i : Nat) : Int) - 1 = (n : Int) - ((i + 1 : Nat) : Int) := by omega
    rw [e1, e2] at it'
    exact q _ h' _ ⟨_, rfl⟩ ⟨it', st.2.up fun o z => (sb.2 x1 hx).trans z⟩ fun b o hb z => (sb.2 b (by simpa using hb)).trans z
  done := fun s Q E st q => pyNext_range_end_hot ⟨hh, st.2⟩ st.1 (by omega) fun h' k => q h' s.toks fun b o _ z => k b o z
  self := fun i s Q E st q => wpAny_pyIter_rangeiter st.1 q
/-- the new list S is filled from the range r -/
theorem fill_rg {R : Result → Shared → Prop} {r x1 : Addr} {lo hi : Int} {t u v : Tok} {n : Nat} (hot : HotAt A x1 s.heap) (hr : IsRange s.heap r lo hi 1 t u v) (hsmall : Builtin.Range.small lo hi 1 = true) (hn : Builtin.Range.rangeSize lo hi 1 = n) (hl : n ≤ 2 ^ 24)
    (S : Addr) (hSx : x1 ≠ S) (hS : s.heap.get? S = some { cls := .type "list", data := .seq #[] })
    (k : ∀ h' tk acc c, (∀ b o, b ≠ S → s.heap.get? b = some o → h'.get? b = some o) → h'.get? S = some { cls := .type "list", dict := none, data := .seq acc c, slots := #[] } → ItemsOf (fun i v => ∃ t, v = .int (lo + i * 1) t) acc n → R (.ok (.ret .none)) { s with heap := h', toks := tk }) :
    wpAny (model prog w) A.in1 (Builtin.«list.__init__» ⟨[.ref S, .ref r], []⟩) (fun fin s' => match fin with | .done f => R (.ok f) s' | .again c' => c'.quiet = true ∧ codeAny (model prog w) A c' R s') (fun e s' => R (.error e) s') s := by
  obtain ⟨hh, hF⟩ := hot
  have hF : HF x1 s.heap := hF
  have Sr : S ≠ r := fun z => by rw [z, hr] at hS; simp at hS
  have Slt : S < s.heap.objs.size := Heap.lt_size hS
  have xlt : x1 < s.heap.objs.size := by obtain ⟨o, _, z, _⟩ := id hF; exact Heap.lt_size z
  -- emptied once more
  show wpAny _ _ (do let old ← Builtin.List.listItems (.ref S); Builtin.List.listUpdate (.ref S) (fun _ => #[]); letGo old.toList.reverse; Builtin.List.listExtendWith (.ref S) (.ref r) .none) _ _ s
  refine wpAny_bind ?_
  unfold Builtin.List.listItems
  refine wpAny_bind (wpAny_seqItems hS rfl (wpAny_pure ?_))
  show wpAny _ _ (updateSeq S (fun _ => #[]) >>= fun _ => letGo (#[] : Array Value).toList.reverse >>= fun _ => Builtin.List.listExtendWith (.ref S) (.ref r) .none) _ _ s
  refine wpAny_bind (wpAny_updateSeq hS rfl (wpAny_bind (wpAny_letGo ?_)))
  generalize hg : s.heap.update S (Obj.mapSeq (fun _ => (#[] : Array Value))) = g
  have gS : g.get? S = some (Obj.mapSeq (fun _ => (#[] : Array Value)) { cls := .type "list", data := .seq #[] }) := by rw [← hg]; exact Heap.get?_update_self _ hS rfl
  have up : ∀ b o, b ≠ S → s.heap.get? b = some o → g.get? b = some o := fun b o hb z => by rw [← hg]; exact (Heap.get?_update_other _ _ (Ne.symm hb)).trans z
  have gr : IsRange g r lo hi 1 t u v := up r _ (Ne.symm Sr) hr
  have gF : HF x1 g := hF.up fun o z => up x1 o hSx z
  have gz : g.objs.size = s.heap.objs.size := by rw [← hg]; exact (Heap.SameBut.update ..).1
  -- the loop, from any heap where the iterator and the list stand
  have xI : x1 ≠ g.objs.size := by rw [gz]; exact Nat.ne_of_lt xlt
  have SI : S ≠ g.objs.size := by rw [gz]; exact Nat.ne_of_lt Slt
  have WS := (hwalks_rg (prog := prog) (w := w) (A := A.in1) hh g.objs.size xI lo n).toS
  have loop : ∀ (h : Heap) (c tk : Nat), IsRangeIter h g.objs.size (lo + ((0 : Nat) : Int) * 1) ((n : Int) - ((0 : Nat) : Int)) 1 → (∀ b o, b ≠ S → g.get? b = some o → h.get? b = some o) → h.get? S = some { cls := .type "list", data := .seq #[] c } →
      codeAny (model prog w) A (.builtin "list.extend.loop" ⟨[.ref S, .ref g.objs.size, .none], []⟩) R { s with heap := h, toks := tk } := fun h c tk hit kp hSh => by
    refine codeAny_extend_loopS WS (by rw [sizeLine_eq]; omega) S (fun m => by
      have : S = g.objs.size ∨ S = x1 := by simpa using m
      exact this.elim SI (Ne.symm hSx)) .none n 0 _ #[] c rfl (Nat.zero_le _) ⟨hit, gF.up fun o z => kp x1 o hSx z⟩ hSh (ItemsOf.nil _) fun s' acc c' moved hS' items => ?_
    rw [Moved.eq_with moved]
    refine k s'.heap s'.toks acc c' (fun b o hb z => moved.heap b o (fun m => ?_) (kp b o hb (up b o hb z))) hS' items
    have : b = S ∨ b = g.objs.size := by simpa using m
    rcases this with y | y
    · exact hb y
    · exact absurd (Heap.lt_size z) (by rw [y, gz]; exact Nat.lt_irrefl _)
  unfold Builtin.List.listExtendWith
  refine wpAny_bind (wpAny_typeOf (T := "range") ⟨_, gr, rfl⟩ ?_)
  have n1 : Builtin.List.listSameRef (.ref S) (.ref r) = false := by simp [Builtin.List.listSameRef, Sr]
  have n2 : (Value.type "range" == Value.type "list") = false := by decide
  have n3 : (Value.type "range" == Value.type "tuple") = false := by decide
  simp only [n1, n2, n3, Bool.or_false, Bool.false_eq_true, if_false]
  refine wpAny_bind (wpAny_pyIter_range gr hsmall (wpAny_bind (wpAny_holding (wpAny_hint_range (n := n) (Heap.get?_push_of_some _ gr) hn hl ?_))))
  have it0 : IsRangeIter (g.push { cls := .type "range_iterator", data := .fields #[rawInt lo, rawInt (Builtin.Range.rangeSize lo hi 1), rawInt 1] }) g.objs.size (lo + ((0 : Nat) : Int) * 1) ((n : Int) - ((0 : Nat) : Int)) 1 := by
    rw [hn]
    simpa using Heap.get?_push_size _ rfl
  have pS := Heap.get?_push_of_some { cls := .type "range_iterator", data := .fields #[rawInt lo, rawInt (Builtin.Range.rangeSize lo hi 1), rawInt 1] } gS
  refine wpAny_ite_split (fun _ => ?_) fun _ => wpAny_pure ⟨plainId_quiet F.plain_extend_loop _, loop _ _ _ it0 (fun b o _ z => Heap.get?_push_of_some _ z) pS⟩
  refine wpAny_bind (wpAny_rule (wpAny_bind ?_))
  show wpAny _ _ (updateSeq S (·.push .none) >>= fun _ => updateSeq S (·.pop)) _ _ _
  refine wpAny_bind (wpAny_updateSeq pS rfl ?_)
  have qS := Heap.get?_update_self (Obj.mapSeq (·.push Value.none)) pS rfl
  refine wpAny_updateSeq (hz := by seq_fits) qS rfl ?_
  have rS := Heap.get?_update_self (Obj.mapSeq (·.pop)) qS rfl
  refine wpAny_pure ⟨plainId_quiet F.plain_extend_loop _, loop _ _ _ ?_ (fun b o hb z => ?_) rS⟩
  · exact (Heap.get?_update_other _ _ SI).trans ((Heap.get?_update_other _ _ SI).trans it0)
  · exact (Heap.get?_update_other _ _ (Ne.symm hb)).trans ((Heap.get?_update_other _ _ (Ne.symm hb)).trans (Heap.get?_push_of_some _ z))
theorem call_lrg_hot {Q : Value → Shared → Prop} {r x1 : Addr} {lo hi : Int} {t u v : Tok} {n : Nat} (hot : HotAt A x1 s.heap) (hr : IsRange s.heap r lo hi 1 t u v) (hsmall : Builtin.Range.small lo hi 1 = true) (hn : Builtin.Range.rangeSize lo hi 1 = n) (hl : n ≤ 2 ^ 24)
    (q : ∀ h' tk acc c, (∀ b o, s.heap.get? b = some o → h'.get? b = some o) → h'.get? s.heap.objs.size = some { cls := .type "list", dict := none, data := .seq acc c, slots := #[] } → ItemsOf (fun i v => ∃ t, v = .int (lo + i * 1) t) acc n → Q (.ref s.heap.objs.size) { s with heap := h', toks := tk }) :
    wpAny (model prog w) A (call (.type "list") [.ref r]) Q E s := by
  obtain ⟨hh, hF⟩ := hot
  have hF : HF x1 s.heap := hF
  have xlt : x1 < s.heap.objs.size := by obtain ⟨o, _, z, _⟩ := id hF; exact Heap.lt_size z
  refine callType_codes (Q₁ := fun obj s₁ => obj = .ref s.heap.objs.size ∧ s₁ = { s with heap := s.heap.push { cls := .type "list", data := .seq #[] } }) F.called_list (F.typeCall_list_1 _) F.entry_list_init (code_list_new _ ⟨rfl, rfl⟩) fun obj s1 h1 => ?_
  obtain ⟨rfl, rfl⟩ := h1
  have nw : (s.heap.push { cls := .type "list", data := .seq #[] }).get? s.heap.objs.size = some { cls := .type "list", data := .seq #[] } := Heap.get?_push_size _ rfl
  exact ⟨⟨_, nw, rfl⟩, F.args_list_init_2 _ _, fill_rg (A := A.in1) ⟨hh, hF.up fun o z => Heap.get?_push_of_some _ z⟩ (Heap.get?_push_of_some _ hr) hsmall hn hl _ (Nat.ne_of_lt xlt) nw fun h' tk acc c k at' items =>
    ⟨rfl, q h' tk acc c (fun b o z => k b o (Nat.ne_of_lt (Heap.lt_size z)) (Heap.get?_push_of_some _ z)) at' items⟩⟩
end
theorem pe_lrgH {X : Cx} {e : Expr} {te : L2.St → Hp → (Int → Int → Hp → Prop) → Prop} {p pos : Pos} (hc : HotC X) (hg : Gl X "list") (hm : X.mg "list" = none) (he : PRg X e te) (na : starEach [e] X.env = (false, eval e X.env) :: starEach [] X.env) : PE X (.Call (.Name "list" p) [e] [] pos) (tLstRg te) := by
  refine ⟨fun pins s σ H Q I asked => Call_ (ld_blt I hg hm boot_list (PyProof.Rows.callWith_type1 (args_cons (thn (he pins s σ H _ I asked) fun x s1 ⟨r, a, b, t, u, v, H1, ex, hr, I1, ok, q⟩ => args_nil ?_) na) na))⟩
  subst ex
  obtain ⟨b1, b2, b3, b4, b5⟩ := ok
  obtain ⟨x1, hot⟩ := hc.at I1
  refine call_lrg_hot (n := (b - a).toNat) hot hr (small_one b1 b2 b3 b4) (rangeSize_nat a b) b5 fun g tk acc c k at' items => ?_
  have obj : ObjOk X.prog X.w (upd H1 s1.heap.objs.size (.lst (rgV a b))) g s1.heap.objs.size (.lst (rgV a b)) := ⟨by rw [rgV_length, sizeLine_eq]; omega, acc.toList, c, vals_rg items, by rw [Array.toArray_toList]; exact at'⟩
  exact ⟨.ref s1.heap.objs.size, _, I1.laid k (Nat.le_refl _) obj, rfl, q _ (I1.hok.fresh (Nat.le_refl _))⟩
end RA

/-! Soundness: expressions. -/
namespace RA
open PySem L2

/-- the setting: tables, the own exception classes, the constants, the callees, their level -/
structure Gs where
  T : Tb
  C : Nat → Value
  G : List PV
  cf : Nat → List PV → List PV → CR
  r : Nat

/-- what a def promises: what the interpreter says -/
def spF (S : Gs) (f : Nat) : Sp := fun vs H Q E => ∃ w ps mu, w.H = H ∧ WOk w ∧ CRel S.T w mu ∧ (∀ a, w.wr a → a ∈ w.m) ∧ Reps S.T w ps vs ∧
  match S.cf f ps mu with
  | .stk => False
  | .ok p mu' => ∀ v w', Ext w w' → WOk w' → CRel S.T w' mu' → RepV S.T w' p v → Q v w'.H
  | .exc e mu' => ∀ cls d w', Ext w w' → WOk w' → CRel S.T w' mu' → RepX S.T S.C w' e cls d → E cls d w'.H

def bNames : List Str := ["len", "all", "any", "sum", "min", "max", "list", "tuple", "str", "abs", "int", "bool", "isinstance", "range", "enumerate", "zip", "dict", "repr"]
/-- an own exception's initializer: the fields by the arguments, from behind -/
def spX (T : Tb) (c : Nat) (Ca : Addr) (ok : List V → Prop) : Sp := fun vs H Q _ => ∃ a us, vs = .ref a :: us ∧ us.length = (T.fld c).length ∧ ok us ∧ H a = some (exo a Ca none) ∧
  ∀ d H', H d = none → d ≠ a → H' a = some (exo a Ca (some d)) → H' d = some (exd d ((T.fld c).zip us.reverse)) → (∀ b o, b ≠ a → H b = some o → H' b = some o) → Q .non H'
/-- .. of the arguments as they are -/
def okV : List Bool → List V → Prop
  | [], l => l = []
  | b :: bs, l => ∃ x r, l = x :: r ∧ (b = true → ∃ i : Int, x = .int i ∧ 0 ≤ i ∧ i.toNat < 10 ^ 200) ∧ okV bs r
theorem okV_len : ∀ {ks : List Bool} {vs : List V}, okV ks vs → vs.length = ks.length
  | [], vs, h => by rw [show vs = [] from h]; rfl
  | b :: ks, vs, h => by
    obtain ⟨x, r, rfl, _, h2⟩ := h
    rw [List.length_cons, List.length_cons, okV_len h2]
/-- what isinstance asks of an exception's class -/
structure XiC (K : PySem.W.Frag) (C : Addr) : Prop where
  hcl : (PySem.W.clsIn K C).isSome = true
  ha : PySem.W.findIn K (.ref C) "__class__" = some (some (.builtin "object.__class__"))
  hn : PySem.W.specialIn K (.builtin "object.__class__") "__get__" = some (some (.builtin "getset_descriptor.__get__"))
  ht : PySem.W.takesIn K (.builtin "object.__class__") = some true
  hm : PySem.W.mroIn K C (.type "object") = some true
/-- an own exception class -/
structure XcOk (S : Gs) (X : Cx) (c : Nat) (x : Str) (ks : List Bool) : Prop where
  ex : ∃ (Ca fI : Addr) (fd : FuncData) (ps : List Str) (l : Nat), l + 1 ≤ S.r ∧ S.C c = .ref Ca ∧ X.mg x = some (.ref Ca) ∧ OexC X.K Ca ∧ PySem.W.findIn X.K (.ref Ca) "__init__" = some (some (.ref fI)) ∧ PySem.W.typeIn X.K (.ref fI) = some (.type "function") ∧
    FnOk X.prog X.w X.K X.mg X.base (L2N.CX X.prog X.w) l fI fd ps (spX S.T c Ca (okV ks)) ∧ Binds X.K fd ps [] ∧ XfC X.K Ca ∧ (∀ n ∈ S.T.fld c, PySem.W.findIn X.K (.ref Ca) n = some none) ∧ (S.T.fld c).Nodup ∧ ks.length = (S.T.fld c).length ∧ ks.length ≤ 900 ∧ S.T.xca c = Ca ∧ XiC X.K Ca
/-- a function that may be called -/
structure FcOk (S : Gs) (X : Cx) (f : Nat) (a : Addr) : Prop where
  gd : Gd X.A
  ex : ∃ (fd : FuncData) (ps : List Str) (l : Nat), l + 1 ≤ S.r ∧ PySem.W.keepIn X.K (.ref a) = true ∧ Binds X.K fd ps [] ∧ FnS X.prog X.w X.K X.mg X.base (L2N.CX X.prog X.w) l a fd ps (spF S f)
/-- a function that may be called where an exception is handled -/
structure FcH (S : Gs) (X : Cx) (f : Nat) (a : Addr) : Prop where
  ex : ∃ (fd : FuncData) (ps : List Str) (l : Nat), l + 1 ≤ S.r ∧ PySem.W.keepIn X.K (.ref a) = true ∧ Binds X.K fd ps [] ∧ L2H.FnH X.prog X.w X.K X.mg X.base (L2N.CX X.prog X.w) l a fd ps (spF S f)
/-- lambdas: made here, called; bound methods -/
structure LmX (S : Gs) (C : Ck) (X : Cx) : Prop where
  made : ∀ (k : Nat) chk, C.lam = some (k, chk) → ∃ c P q, S.T.tbs[k]? = some (c, P, q) ∧ X.env.code = .ref c ∧ X.env.qual ++ "<lambda>" = q ∧ LamX.TabB X.base X.mg c P ∧
    ∀ f params body scope, chk f params body scope = true → S.T.lm f ⟨q, params, body, scope⟩ ∧ (∀ env, defaultsOf params env = ([], [])) ∧ ∀ y ∈ scope.names, y.2 ≠ .free
  fn : ∀ (f : Nat) ld, S.T.lm f ld → Gd X.A ∧ ∃ (ps : List Str) (l : Nat), l + 1 ≤ S.r ∧ LamFn X.prog X.w X.K X.mg X.base (L2N.CX X.prog X.w) l ld ps (spF S f)
  bm : ∀ (f c : Nat) n, C.mtn[f]? = some (some (c, n)) → C.bmn.contains f = true → S.T.bm f = true ∧ ∃ a, S.T.fa f = some a ∧ L2.BMeth X.K (S.T.cla c) n a
  bf : ∀ (f : Nat) a, S.T.bm f = true → S.T.fa f = some a → PySem.W.fnIn X.K a = true
  df : ∀ (f : Nat) a ds, C.dfl[f]? = some ds → ds ≠ [] → S.T.fa f = some a → Gd X.A ∧ ∃ (fd : FuncData) (ps : List Str) (l : Nat) (us : List Value), l + 1 ≤ S.r ∧ PySem.W.keepIn X.K (.ref a) = true ∧ Vals (ds.map V.int) us ∧ Binds X.K fd ps us ∧ FnS X.prog X.w X.K X.mg X.base (L2N.CX X.prog X.w) l a fd ps (spF S f)
theorem LmX.same {S : Gs} {C : Ck} {X X' : Cx} (h : LmX S C X) (h1 : X'.prog = X.prog := by rfl) (h2 : X'.w = X.w := by rfl) (h3 : X'.K = X.K := by rfl) (h4 : X'.mg = X.mg := by rfl) (h5 : X'.base = X.base := by rfl) (h6 : X'.A = X.A := by rfl)
    (h7 : X'.env.code = X.env.code := by rfl) (h8 : X'.env.qual = X.env.qual := by rfl) : LmX S C X' where
  made := by rw [h4, h5, h7, h8]; exact h.made
  fn := by rw [h1, h2, h3, h4, h5, h6]; exact h.fn
  bm := by rw [h3]; exact h.bm
  bf := by rw [h3]; exact h.bf
  df := by rw [h1, h2, h3, h4, h5, h6]; exact h.df
structure XOk (S : Gs) (C : Ck) (sc : Scope) (fb : Str → Bool) (X : Cx) : Prop where
  hK : S.T.K = X.K
  pr : S.T.pr = X.prog
  wl : S.T.wl = X.w
  sc : X.env.scope = sc
  fb : X.fn = fb
  N : X.N = C.N
  nd : X.N.Nodup
  calm : C.hot = false → X.calm = true
  hotc : C.hot = true → L2H.HotC X
  gd : C.gd = true → Gd X.A
  roomH : L2H.RoomH S.r X.A
  fnsH : ∀ (f : Nat) a, C.hf.contains f = true → S.T.fa f = some a → FcH S X f a
  room : C.hot = false → Room S.r X.A
  un : X.A.units + 66 < cLine
  glob : ∀ (g : Nat) x, C.gn[g]? = some x → ∃ u v p, X.mg x = some u ∧ RelV v u ∧ S.G[g]? = some p ∧ ∀ w, WOk w → RepV S.T w p v
  fa : ∀ (f : Nat) x, C.fnm[f]? = some (some x) → ∃ a, X.mg x = some (.ref a) ∧ S.T.fa f = some a
  fns : C.hot = false → ∀ (f : Nat) a, S.T.fa f = some a → FcOk S X f a
  mts : C.hot = false → ∀ (f c : Nat) n, C.mtn[f]? = some (some (c, n)) → ∃ a, Cls X.K (S.T.cla c) ∧ L2.Meth X.K (S.T.cla c) n a ∧ FcOk S X f a ∧ (n = ("__init__" : Str) → Mk X.K (S.T.cla c) a)
  cls : ∀ (c : Nat) x, C.cln[c]? = some x → X.mg x = some (.ref (S.T.cla c))
  atr : ∀ (c : Nat) ns, C.atn[c]? = some ns → S.T.atn c = ns ∧ ns.Nodup ∧ ns.length ≤ 900 ∧ Cls X.K (S.T.cla c) ∧ ∀ n ∈ ns, NoAttr X.K (S.T.cla c) n
  nom : ∀ (f c : Nat) n, C.mtn[f]? = some (some (c, n)) → n ∉ S.T.atn c
  xcs : ∀ (c : Nat) x ks, C.xcn[c]? = some (x, ks) → XcOk S X c x ks
  exm : ∀ (c c' : Nat), c < C.xcn.length → c' ∈ C.hnd → PySem.W.exmOne X.K (S.C c) (S.C c') = some (c == c')
  xfl : ∀ (c : Nat) ns, C.xfl[c]? = some ns → S.T.fld c = ns
  nx : S.T.nx = C.xcn.length
  icl : ∀ (k : Nat) y tb, C.icl[k]? = some (y, tb) → ∃ (v : V) (cv : Value), RelV v cv ∧ (∀ u, RelV v u → u = cv) ∧ (X.mg y = some cv ∨ (X.mg y = none ∧ bootBuiltins y = some cv)) ∧ ∀ p ∈ tb, p.1 < C.xcn.length ∧ PySem.W.kitOne X.K (.ref (S.T.xca p.1)) cv = some p.2
  cold : C.hot = false → S.T.xs = []
  pin : ∀ p ∈ S.T.xs, p.2.2.1 < C.xcn.length ∧ ∃ oe, (p.2.1, oe) ∈ X.pn ∧ L2N.Zn (S.C p.2.2.1) (some p.2.2.2) oe ∧ ∃ vs, oe.data = .fields vs
  blt : ∀ x ∈ bNames, X.mg x = none
  lx : C.hot = false → LmX S C X

section
variable {S : Gs} {C : Ck} {sc : Scope} {fb : Str → Bool} {X : Cx}
theorem FcOk.same {X X' : Cx} {f : Nat} {a : Addr} (h : FcOk S X f a) (h1 : X'.prog = X.prog := by rfl) (h2 : X'.w = X.w := by rfl) (h3 : X'.K = X.K := by rfl) (h4 : X'.mg = X.mg := by rfl) (h5 : X'.base = X.base := by rfl) (h6 : X'.A = X.A := by rfl) : FcOk S X' f a := by
  obtain ⟨fd, ps, l, q⟩ := h.ex
  exact ⟨by rw [h6]; exact h.gd, fd, ps, l, by rw [h1, h2, h3, h4, h5]; exact q⟩
theorem FcH.same {X X' : Cx} {f : Nat} {a : Addr} (h : FcH S X f a) (h1 : X'.prog = X.prog := by rfl) (h2 : X'.w = X.w := by rfl) (h3 : X'.K = X.K := by rfl) (h4 : X'.mg = X.mg := by rfl) (h5 : X'.base = X.base := by rfl) : FcH S X' f a := by
  obtain ⟨fd, ps, l, q⟩ := h.ex
  exact ⟨fd, ps, l, by rw [h1, h2, h3, h4, h5]; exact q⟩
theorem XcOk.same {X X' : Cx} {c : Nat} {x : Str} {ks : List Bool} (h : XcOk S X c x ks) (h1 : X'.prog = X.prog := by rfl) (h2 : X'.w = X.w := by rfl) (h3 : X'.K = X.K := by rfl) (h4 : X'.mg = X.mg := by rfl) (h5 : X'.base = X.base := by rfl) : XcOk S X' c x ks := by
  obtain ⟨Ca, fI, fd, ps, l, q⟩ := h.ex
  exact ⟨Ca, fI, fd, ps, l, by rw [h1, h2, h3, h4, h5]; exact q⟩
theorem XOk.blk (x : XOk S C sc fb X) (hc : C.hot = false) (s : Shared) (H : Hp) (scope : Scope) (A : Addr) (cl : List (Str × Addr)) (fp : List Addr) :
    XOk S C (relS scope sc) (fun y => scope.names.lookup y == some .cell) (X.blk s H scope (compEnvC scope cl A X.env) fp) where
  hK := x.hK
  pr := x.pr
  wl := x.wl
  sc := by rw [← x.sc]; rfl
  fb := rfl
  N := x.N
  nd := x.nd
  calm := x.calm
  hotc := fun h => by rw [hc] at h; cases h
  gd := x.gd
  roomH := x.roomH
  fnsH := fun f a h q => (x.fnsH f a h q).same
  room := x.room
  un := x.un
  glob := x.glob
  fa := x.fa
  fns := fun h f a q => (x.fns h f a q).same
  mts := fun h f c n q => by
    obtain ⟨a, k1, k2, k3, k4⟩ := x.mts h f c n q
    exact ⟨a, k1, k2, k3.same, k4⟩
  cls := x.cls
  atr := x.atr
  nom := x.nom
  xcs := fun c y ks q => (x.xcs c y ks q).same
  exm := x.exm
  xfl := x.xfl
  nx := x.nx
  icl := x.icl
  cold := x.cold
  pin := fun p hp => by
    rw [x.cold hc] at hp
    cases hp
  blt := x.blt
  lx := fun h => (x.lx h).same
theorem XOk.blkH (x : XOk S C sc fb X) (hc : C.hot = true) (s : Shared) (H : Hp) (scope : Scope) (A : Addr) (cl : List (Str × Addr)) (fp : List Addr) :
    XOk S C (relS scope sc) (fun y => scope.names.lookup y == some .cell) (RA.blkH X s H scope (compEnvC scope cl A X.env) fp) where
  hK := x.hK
  pr := x.pr
  wl := x.wl
  sc := by rw [← x.sc]; rfl
  fb := rfl
  N := x.N
  nd := x.nd
  calm := fun h => by rw [hc] at h; cases h
  hotc := fun h => HotC.blkH (x.hotc h)
  gd := x.gd
  roomH := x.roomH
  fnsH := fun f a h q => (x.fnsH f a h q).same
  room := fun h => by rw [hc] at h; cases h
  un := x.un
  glob := x.glob
  fa := x.fa
  fns := fun h => by rw [hc] at h; cases h
  mts := fun h => by rw [hc] at h; cases h
  cls := x.cls
  atr := x.atr
  nom := x.nom
  xcs := fun c y ks q => (x.xcs c y ks q).same
  exm := x.exm
  xfl := x.xfl
  nx := x.nx
  icl := x.icl
  cold := fun h => by rw [hc] at h; cases h
  pin := x.pin
  blt := x.blt
  lx := fun h => by rw [hc] at h; cases h
theorem XOk.wish (x : XOk S C sc fb X) (E : Value → Shared → Prop) : XOk S C sc fb (X.wish E) := ⟨x.hK, x.pr, x.wl, x.sc, x.fb, x.N, x.nd, x.calm, x.hotc, x.gd, x.roomH, fun f a h q => (x.fnsH f a h q).same, x.room, x.un, x.glob, x.fa, fun h f a q => (x.fns h f a q).same, fun h f c n q => by
    obtain ⟨a, k1, k2, k3, k4⟩ := x.mts h f c n q
    exact ⟨a, k1, k2, k3.same, k4⟩, x.cls, x.atr, x.nom, fun c y ks q => (x.xcs c y ks q).same, x.exm, x.xfl, x.nx, x.icl, x.cold, x.pin, x.blt, fun h => (x.lx h).same⟩

theorem vis_of {x : Str} (x0 : XOk S C sc fb X) (h : vis sc x = true) : Vis X.env.scope x := by
  rw [x0.sc]
  unfold vis at h
  split at h <;> first | (exact .inl (by assumption)) | (exact .inr (.inl (by assumption))) | (exact .inr (.inr (by assumption))) | cases h
theorem glb_of {x : Str} (x0 : XOk S C sc fb X) (h : glb sc x = true) : Gl X x := by
  unfold glb at h
  show X.env.scope.names.lookup x = _
  rw [x0.sc]
  split at h
  · assumption
  · cases h
theorem okNm_of {x : Str} (h : okNm x = true) : (x == ("__debug__" : Str)) = false ∧ (x == ("__classdict__" : Str)) = false ∧ x ≠ ("__name__" : Str) := by
  unfold okNm at h
  simp only [Bool.and_eq_true, Bool.not_eq_true'] at h
  exact ⟨h.1.1, h.1.2, fun e => by rw [e] at h; exact absurd h.2 (by decide)⟩
theorem loc_of {x : Str} (x0 : XOk S C sc fb X) (h : loc sc fb x = true) : Loc X.env.scope x ∧ (X.fn x = true ∨ X.env.scope.names.lookup x = some .local) := by
  unfold loc at h
  rw [x0.sc, x0.fb]
  split at h
  · rename_i e; exact ⟨.inl e, .inr e⟩
  · rename_i e; exact ⟨.inr e, .inl h⟩
  · cases h

/-! ### the environment does not matter -/
theorem star_cons {e : Expr} {es : List Expr} {env : Env} (h : notStar e = true) : starEach (e :: es) env = (false, eval e env) :: starEach es env := by
  cases e <;> first | rfl | (simp [notStar] at h)
theorem star_nil {env : Env} : starEach [] env = [] := rfl
theorem back_any {pos : Pos} {env : Env} : ∀ {es : List Expr}, (∀ e ∈ es, notStar e = true) → (backTo pos (starEach es env)).any (·.1) = false
  | [], _ => rfl
  | e :: es, h => by
    rw [star_cons (h e List.mem_cons_self)]
    show (false || (backTo pos (starEach es env)).any (·.1)) = false
    rw [back_any fun x hx => h x (List.mem_cons_of_mem _ hx)]
    rfl
theorem back_all {pos : Pos} {env : Env} : ∀ {es : List Expr}, (∀ e ∈ es, notStar e = true) → (backTo pos (starEach es env)).all (fun x => !x.1) = true
  | [], _ => rfl
  | e :: es, h => by
    rw [star_cons (h e List.mem_cons_self)]
    show (!false && (backTo pos (starEach es env)).all (fun x => !x.1)) = true
    rw [back_all fun x hx => h x (List.mem_cons_of_mem _ hx)]
    rfl
theorem plainIx_of {e : Expr} (h : notSlice e = true) : PlainIx e := by
  intro o i
  cases e <;> first | rfl | (simp [notSlice] at h)
theorem noMark {e : Expr} (h : notSet e = true) (op : CmpOp) : behindInMarks op e = false := by
  cases e <;> first | rfl | (simp [notSet] at h)
theorem isTrue_of {e : Expr} {env : Env} (h : plainT e = true) (whole : Sem Value) : isTrue e env whole = (do let v ← whole; standAt e.pos; holding [v] (truthy v)) := by
  cases e <;> first | rfl | (simp [plainT] at h; done) | skip
  rename_i op _ _
  cases op <;> first | rfl | (simp [plainT] at h)
theorem attr_of {e : Expr} {n : Str} {env : Env} (h : notSuper e = true) : attributeBase e n env (eval e env) = eval e env := by
  unfold attributeBase
  cases e <;> try rfl
  rename_i f as ks p
  cases f <;> try rfl
  cases as <;> try rfl
  cases ks <;> try rfl
  simp [notSuper] at h
theorem noFold {e : Expr} {env : Env} (h : notSet e = true) (x : Value) : foldedSetIterable e env x = pure x := by
  cases e <;> first | rfl | (simp [notSet] at h)
theorem notStar_all {es : Exs} {xs : List Expr} (h : ckEs C sc fb es xs = true) : ∀ e ∈ xs, notStar e = true := by
  induction xs generalizing es with
  | nil => intro e he; cases he
  | cons x r ih =>
    cases es with
    | nil => simp [ckEs] at h
    | cons a es =>
      simp only [ckEs, Bool.and_eq_true] at h
      intro e he
      rcases List.mem_cons.mp he with rfl | he
      · exact h.1.2
      · exact ih h.2 e he

/-! ### readings from the interpreter's results -/
variable {W : WX}
abbrev rE (S : Gs) (W : WX) (m : List Sl → List PV → Res PV) : TE := tE S.T S.C W m
theorem tE.bnd {α : Type} {T : Tb} {Cl : Nat → Value} {σ : St} {H : Hp} {m : List Sl → List PV → Res PV} {f : PV → List Sl → List PV → Res α} {w : Wd} {sl : List Sl} {mu : List PV} {R : V → Hp → Prop} {Q : α → List Sl → List PV → Wd → Prop}
    (hH : w.H = H) (F : FRel T w σ sl mu) (P : Pst T Cl W σ w ((m sl mu).bnd f) Q)
    (k : ∀ p v sl1 mu1 w1, Ext w w1 → FRel T w1 σ sl1 mu1 → RepV T w1 p v → Pst T Cl W σ w1 (f p sl1 mu1) Q → R v w1.H) : tE T Cl W m σ H R :=
  ⟨w, sl, mu, hH, F, (P.bnd F.wok).mono fun p sl1 mu1 w1 e1 F1 P1 v rv => k p v sl1 mu1 w1 e1 F1 rv P1⟩
theorem tA.bnd {α : Type} {T : Tb} {Cl : Nat → Value} {σ : St} {H : Hp} {m : List Sl → List PV → Res (List PV)} {f : List PV → List Sl → List PV → Res α} {w : Wd} {sl : List Sl} {mu : List PV} {R : List V → Hp → Prop} {Q : α → List Sl → List PV → Wd → Prop}
    (hH : w.H = H) (F : FRel T w σ sl mu) (P : Pst T Cl W σ w ((m sl mu).bnd f) Q)
    (k : ∀ p v sl1 mu1 w1, Ext w w1 → FRel T w1 σ sl1 mu1 → Reps T w1 p v → Pst T Cl W σ w1 (f p sl1 mu1) Q → R v w1.H) : tA T Cl W m σ H R :=
  ⟨w, sl, mu, hH, F, (P.bnd F.wok).mono fun p sl1 mu1 w1 e1 F1 P1 v rv => k p v sl1 mu1 w1 e1 F1 rv P1⟩
theorem tT.bnd {α : Type} {T : Tb} {Cl : Nat → Value} {σ : St} {H : Hp} {m : List Sl → List PV → Res Bool} {f : Bool → List Sl → List PV → Res α} {w : Wd} {sl : List Sl} {mu : List PV} {R : Bool → Hp → Prop} {Q : α → List Sl → List PV → Wd → Prop}
    (hH : w.H = H) (F : FRel T w σ sl mu) (P : Pst T Cl W σ w ((m sl mu).bnd f) Q)
    (k : ∀ p sl1 mu1 w1, Ext w w1 → FRel T w1 σ sl1 mu1 → Pst T Cl W σ w1 (f p sl1 mu1) Q → R p w1.H) : tT T Cl W m σ H R :=
  ⟨w, sl, mu, hH, F, (P.bnd F.wok).mono fun p sl1 mu1 w1 e1 F1 P1 => k p sl1 mu1 w1 e1 F1 P1⟩
/-- the wish behind a value -/
abbrev QE (T : Tb) (Q : VK) : PV → List Sl → List PV → Wd → Prop := fun p _ _ w' => ∀ v, RepV T w' p v → Q v w'.H

/-- slots are read -/
theorem getS_ok {T : Tb} {Cl : Nat → Value} {σ : St} {w : Wd} {sl : List Sl} {mu : List PV} {i : Nat} {Q : PV → List Sl → List PV → Wd → Prop} (F : FRel T w σ sl mu) (P : Pst T Cl W σ w (getS sl i mu) Q) :
    ∃ p v sl' w', σ[i]? = some (some v) ∧ Ext w w' ∧ w'.H = w.H ∧ FRel T w' σ sl' mu ∧ RepV T w' p v ∧ Q p sl' mu w' := by
  unfold getS at P
  split at P
  · rename_i p e
    obtain ⟨v, h1, h2⟩ := F.va i p e
    exact ⟨p, v, sl, w, h1, Ext.refl w, rfl, F, h2, P w (Ext.refl w) F⟩
  · rename_i p e
    obtain ⟨a, h1, h2, h3, h4⟩ := F.ow i p e
    -- the container is one's own no more
    let w' : Wd := { w with wr := fun b => w.wr b ∧ b ≠ a, mb := fun b => w.mb b ∧ b ≠ a }
    have ex : Ext w w' := ⟨fun _ _ h => h, fun _ _ h _ => h, fun _ h => h, fun _ h => .inl h.1, fun b h hn => ⟨h, fun z => hn (z ▸ h3)⟩, fun _ h => .inl h.1, rfl⟩
    have ok' : WOk w' := ⟨fun b h => ⟨F.wok.sub b h.1, h.2⟩, fun b h => F.wok.mtr b h.1⟩
    have hi : i < sl.length := (List.getElem?_eq_some_iff.mp e).1
    have crep : ∀ {b : Addr} {c : PV}, CRep T w b c → CRep T w' b c := fun {b c} h => h.ext_keep F.wok ex fun _ q => q
    have F' : FRel T w' σ (sl.set i (.va p)) mu := by
      refine ⟨ok', by rw [List.length_set]; exact F.len, fun j q hj => ?_, fun j q hj => ?_, fun j j' q q' b hj hj' s1 s2 => ?_, ⟨F.cel.mlen, fun n c b hc hm => ?_, F.cel.inj⟩, fun j c fs hj => ?_⟩
      · by_cases z : i = j
        · subst z
          rw [List.getElem?_set_self hi] at hj
          cases hj
          refine ⟨.ref a, h1, ?_⟩
          cases p with
          | lst l =>
            obtain ⟨xs, k1, k2⟩ := h2
            simp only [RepV]
            exact ⟨a, xs, rfl, k1, fun z => z.2 rfl, Reps.ext F.wok ex l xs k2⟩
          | _ => exact h2.elim
        · rw [List.getElem?_set_ne z] at hj
          obtain ⟨v, k1, k2⟩ := F.va j q hj
          exact ⟨v, k1, RepV.ext F.wok ex q v k2⟩
      · by_cases z : i = j
        · subst z
          rw [List.getElem?_set_self hi] at hj
          cases hj
        · rw [List.getElem?_set_ne z] at hj
          obtain ⟨b, k1, k2, k3, k4⟩ := F.ow j q hj
          exact ⟨b, k1, k2.ext_keep F.wok ex fun _ q => q, ⟨k3, fun y => z (F.ows i j p q a e hj h1 (y ▸ k1))⟩, k4⟩
      · by_cases z : i = j
        · subst z
          rw [List.getElem?_set_self hi] at hj
          cases hj
        · by_cases z' : i = j'
          · subst z'
            rw [List.getElem?_set_self hi] at hj'
            cases hj'
          · rw [List.getElem?_set_ne z] at hj
            rw [List.getElem?_set_ne z'] at hj'
            exact F.ows j j' q q' b hj hj' s1 s2
      · obtain ⟨k1, k2⟩ := F.cel.cl n c b hc hm
        exact ⟨crep k1, k2, fun y => h4 (y ▸ List.mem_of_getElem? hm)⟩
      · by_cases z : i = j
        · subst z
          rw [List.getElem?_set_self hi] at hj
          cases hj
        · rw [List.getElem?_set_ne z] at hj
          exact ex_ext F.wok ex (F.ex j c fs hj)
    refine ⟨p, .ref a, _, w', h1, ex, rfl, F', ?_, P w' ex F'⟩
    obtain ⟨v, k1, k2⟩ := F'.va i p (by rw [List.getElem?_set_self hi])
    rw [h1] at k1; cases k1
    exact k2
  · exact P.elim
end
end RA

/-! Soundness of the single constructs of expressions. -/
namespace RA
open PySem L2

section
variable {S : Gs} {C : Ck} {sc : Scope} {fb : Str → Bool} {X : Cx} {W : WX}
abbrev sE (S : Gs) (e : Ex) : List Sl → List PV → Res PV := ev S.G S.cf e
abbrev sA (S : Gs) (e : Exs) : List Sl → List PV → Res (List PV) := evs S.G S.cf e
abbrev sT (S : Gs) (e : Tt) : List Sl → List PV → Res Bool := evt S.G S.cf e
/-- what is shown of an expression -/
def SE (S : Gs) (W : WX) (X : Cx) (a : Ex) (e : Expr) : Prop := PE X e (tE S.T S.C W (sE S a))
def SA (S : Gs) (W : WX) (X : Cx) (a : Exs) (e : List Expr) : Prop := PA X e (tA S.T S.C W (sA S a))
def ST (S : Gs) (W : WX) (X : Cx) (a : Tt) (e : Expr) : Prop := PT X e (tT S.T S.C W (sT S a))

theorem here {T : Tb} {Cl : Nat → Value} {σ : St} {H : Hp} {Q : VK} {p : PV} {v : V} (h : tE T Cl W (fun s m => .ok p s m) σ H Q) (r : ∀ w, RepV T w p v) : Q v H := by
  obtain ⟨w, sl, mu, rfl, F, P⟩ := h
  exact P w (Ext.refl w) F v (r w)
theorem s_non {j pos} : SE S W X .non (.Constant .none j pos) := PE.imp pe_non fun σ H Q h => here h fun w => by simp only [RepV]
theorem s_bl {b j pos} : SE S W X (.bl b) (.Constant (.bool b) j pos) := PE.imp pe_bl fun σ H Q h => here h fun w => by simp only [RepV]
theorem s_int {i j pos} : SE S W X (.int i) (.Constant (.int i) j pos) := PE.imp pe_int fun σ H Q h => here h fun w => by simp only [RepV]
theorem s_str {x : List Nat} {y : Str} {j pos} (h : y.cps.toList = x) (hl : x.length ≤ SZ) : SE S W X (.str x) (.Constant (.str y) j pos) := PE.imp pe_str fun σ H Q h' => here h' fun w => by
  simp only [RepV]
  refine ⟨?_, hl⟩
  subst h
  simp
theorem s_loc (x0 : XOk S C sc fb X) {i : Nat} {x : Str} {pos : Pos} (hi : C.N[i]? = some x) (hv : vis sc x = true) (ho : okNm x = true) : SE S W X (.loc i) (.Name x pos) := by
  obtain ⟨h1, h2, _⟩ := okNm_of ho
  refine PE.imp (pe_var (by rw [x0.N]; exact hi) (vis_of x0 hv) h1 h2) fun σ H Q h => ?_
  obtain ⟨w, sl, mu, rfl, F, P⟩ := h
  obtain ⟨p, v, sl', w', k1, ex, eH, F', rv, q⟩ := getS_ok F P
  exact ⟨v, k1, eH ▸ q v rv⟩
theorem s_glo (x0 : XOk S C sc fb X) {g : Nat} {x : Str} {pos : Pos} (hi : C.gn[g]? = some x) (hv : glb sc x = true) (ho : okNm x = true) : SE S W X (.glo g) (.Name x pos) := by
  obtain ⟨h1, h2, _⟩ := okNm_of ho
  obtain ⟨u, v, p, k1, k2, k3, k4⟩ := x0.glob g x hi
  refine PE.imp (pe_glob (glb_of x0 hv) k1 k2 h1) fun σ H Q h => ?_
  obtain ⟨w, sl, mu, rfl, F, P⟩ := h
  have P : Pst S.T S.C W σ w (lift S.G[g]? sl mu) _ := P
  rw [k3] at P
  exact P w (Ext.refl w) F v (k4 w F.wok)
theorem s_op (x0 : XOk S C sc fb X) {o : O2} {a b : Ex} {x y : Expr} {pos : Pos} (ha : SE S W X a x) (hb : SE S W X b y) : SE S W X (.op o a b) (.BinOp x (opE o) y pos) := by
  refine PE.imp (pe_op (snd_op x0.hK o) ha hb) fun σ H Q h => ?_
  obtain ⟨w, sl, mu, hH, F, P⟩ := h
  have P : Pst S.T S.C W σ w ((sE S a sl mu).bnd fun p s m => (sE S b s m).bnd fun q s m => lift (op2 o p q) s m) (QE S.T Q) := P
  refine tE.bnd hH F P fun p v sl1 mu1 w1 e1 F1 rv P1 => ?_
  refine tE.bnd rfl F1 P1 fun q u sl2 mu2 w2 e2 F2 ru P2 => ?_
  obtain ⟨z, hz, h⟩ := P2.lift
  exact ⟨w2, σ, sl2, mu2, p, q, z, rfl, F2, RepV.ext F1.wok e2 p v rv, ru, hz, h⟩
theorem s_neg {a : Ex} {x : Expr} {pos : Pos} (ha : SE S W X a x) : SE S W X (.neg a) (.UnaryOp .USub x pos) := by
  refine PE.imp (pe_un un_neg ha) fun σ H Q h => ?_
  obtain ⟨w, sl, mu, hH, F, P⟩ := h
  refine tE.bnd hH F P fun p v sl1 mu1 w1 e1 F1 rv P1 => ?_
  obtain ⟨z, hz, h⟩ := P1.lift
  cases p <;> simp at hz
  subst hz
  simp only [RepV] at rv
  exact ⟨_, rv, h w1 (Ext.refl w1) F1 _ (by simp only [RepV])⟩
theorem s_and {a b : Ex} {x y z : Expr} {r : List Expr} {pos : Pos} (ha : SE S W X a x) (hb : SE S W X b z) (hz : (z = .BoolOp .And (y :: r) pos) ∨ (z = y ∧ r = [])) : SE S W X (.and a b) (.BoolOp .And (x :: y :: r) pos) := by
  have hb' : PE X (.BoolOp .And (y :: r) pos) (tE S.T S.C W (sE S b)) := by
    rcases hz with rfl | ⟨rfl, rfl⟩
    · exact hb
    · exact pe_one hb
  refine PE.imp (pe_and ha hb') fun σ H Q h => ?_
  obtain ⟨w, sl, mu, hH, F, P⟩ := h
  refine tE.bnd hH F P fun p v sl1 mu1 w1 e1 F1 rv P1 => ?_
  cases p with
  | bl c =>
    simp only [RepV] at rv
    refine ⟨c, rv, ?_⟩
    cases c with
    | true => exact ⟨w1, sl1, mu1, rfl, F1, P1⟩
    | false => exact P1 w1 (Ext.refl w1) F1 _ (by simp only [RepV])
  | _ => exact P1.elim
theorem s_or {a b : Ex} {x y z : Expr} {r : List Expr} {pos : Pos} (ha : SE S W X a x) (hb : SE S W X b z) (hz : (z = .BoolOp .Or (y :: r) pos) ∨ (z = y ∧ r = [])) : SE S W X (.or a b) (.BoolOp .Or (x :: y :: r) pos) := by
  have hb' : PE X (.BoolOp .Or (y :: r) pos) (tE S.T S.C W (sE S b)) := by
    rcases hz with rfl | ⟨rfl, rfl⟩
    · exact hb
    · exact pe_one hb
  refine PE.imp (pe_or ha hb') fun σ H Q h => ?_
  obtain ⟨w, sl, mu, hH, F, P⟩ := h
  refine tE.bnd hH F P fun p v sl1 mu1 w1 e1 F1 rv P1 => ?_
  cases p with
  | bl c =>
    simp only [RepV] at rv
    refine ⟨c, rv, ?_⟩
    cases c with
    | false => exact ⟨w1, sl1, mu1, rfl, F1, P1⟩
    | true => exact P1 w1 (Ext.refl w1) F1 _ (by simp only [RepV])
  | _ => exact P1.elim
theorem asBl_some {p : PV} {b : Bool} (h : asBl p = some b) : p = .bl b := by cases p <;> simp_all [asBl]
theorem s_nt {a : Ex} {x : Expr} {pos : Pos} (ha : SE S W X a x) : SE S W X (.nt a) (.UnaryOp .Not x pos) := by
  refine PE.imp (pe_not ha) fun σ H Q h => ?_
  obtain ⟨w, sl, mu, hH, F, P⟩ := h
  refine tE.bnd hH F P fun p v sl1 mu1 w1 e1 F1 rv P1 => ?_
  obtain ⟨z, hz, h⟩ := P1.lift
  simp only [Option.map_eq_some_iff] at hz
  obtain ⟨b, hb, rfl⟩ := hz
  obtain rfl := asBl_some hb
  simp only [RepV] at rv
  exact ⟨b, rv, h w1 (Ext.refl w1) F1 _ (by simp only [RepV])⟩
theorem r_cmp (x0 : XOk S C sc fb X) {o : C2} {a b : Ex} {x y : Expr} {pos : Pos} {σ : St} {H : Hp} {Q : VK} (h : tE S.T S.C W (sE S (.cmp o a b)) σ H Q) :
    tOp (rC2 S.T (cmp o)) (tE S.T S.C W (sE S a)) (tE S.T S.C W (sE S b)) σ H Q := by
  obtain ⟨w, sl, mu, hH, F, P⟩ := h
  refine tE.bnd hH F P fun p v sl1 mu1 w1 e1 F1 rv P1 => ?_
  refine tE.bnd rfl F1 P1 fun q u sl2 mu2 w2 e2 F2 ru P2 => ?_
  obtain ⟨z, hz, h⟩ := P2.lift
  exact ⟨w2, σ, sl2, mu2, p, q, z, rfl, F2, RepV.ext F1.wok e2 p v rv, ru, hz, h⟩
theorem s_cmp (x0 : XOk S C sc fb X) {o : C2} {a b : Ex} {x y : Expr} {pos : Pos} (ha : SE S W X a x) (hb : SE S W X b y) (hm : notSet y = true) : SE S W X (.cmp o a b) (.Compare x [cmE o] [y] pos) :=
  PE.imp (pe_cmpR (snd_cmp x0.hK x0.un o) ha hb (noMark hm _)) fun σ H Q h => r_cmp (x := x) (y := y) (pos := pos) x0 h
/-- a test's reading, of an expression that gives a bool -/
theorem test_of {a : Ex} {σ : St} {H : Hp} {Q : Bool → Hp → Prop} (h : tT S.T S.C W (sT S (.v a)) σ H Q) : tE S.T S.C W (sE S a) σ H fun x H' => ∃ k, x = .bl k ∧ Q k H' := by
  obtain ⟨w, sl, mu, hH, F, P⟩ := h
  refine tE.bnd hH F P fun p v sl1 mu1 w1 e1 F1 rv P1 => ?_
  obtain ⟨z, hz, h⟩ := P1.lift
  obtain rfl := asBl_some hz
  simp only [RepV] at rv
  exact ⟨z, rv, h w1 (Ext.refl w1) F1⟩
theorem t_cmp (x0 : XOk S C sc fb X) {o : C2} {a b : Ex} {x y : Expr} {pos : Pos} (ha : SE S W X a x) (hb : SE S W X b y) (hm : notSet y = true) : ST S W X (.v (.cmp o a b)) (.Compare x [cmE o] [y] pos) :=
  PT.imp (pt_cmpR (snd_cmp x0.hK x0.un o) ha hb (noMark hm _)) fun σ H Q h => r_cmp (x := x) (y := y) (pos := pos) x0 (test_of h)
theorem t_val {a : Ex} {e : Expr} (ha : SE S W X a e) (hp : plainT e = true) : ST S W X (.v a) e := PT.imp (pt_val ha (isTrue_of hp)) fun σ H Q h => test_of h
theorem r_chn {o o' : C2} {a b c : Ex} {σ : St} {H : Hp} {Q : VK} (h : tE S.T S.C W (sE S (.chn o o' a b c)) σ H Q) :
    tChain (rC2 S.T (cmp o)) (rC2 S.T (cmp o')) (tE S.T S.C W (sE S a)) (tE S.T S.C W (sE S b)) (tE S.T S.C W (sE S c)) σ H Q := by
  obtain ⟨w, sl, mu, hH, F, P⟩ := h
  refine tE.bnd hH F P fun p v sl1 mu1 w1 e1 F1 rv P1 => ?_
  refine tE.bnd rfl F1 P1 fun q u sl2 mu2 w2 e2 F2 ru P2 => ?_
  obtain ⟨k, hk, h⟩ := (P2.bnd F2.wok).lift
  refine ⟨w2, σ, sl2, mu2, p, q, .bl k, rfl, F2, RepV.ext F1.wok e2 p v rv, ru, by show (cmp o p q).map PV.bl = _; rw [hk]; rfl, fun w3 e3 F3 z rz => ?_⟩
  simp only [RepV] at rz
  refine ⟨k, rz, ?_⟩
  have P3 := h w3 e3 F3
  cases k with
  | false => exact P3 w3 (Ext.refl w3) F3 _ (by simp only [RepV])
  | true =>
    rw [if_pos rfl]
    refine tE.bnd rfl F3 P3 fun t y sl4 mu4 w4 e4 F4 ry P4 => ?_
    obtain ⟨z', hz', h'⟩ := P4.lift
    exact ⟨w4, σ, sl4, mu4, q, t, z', rfl, F4, RepV.ext F2.wok (e3.trans F2.wok e4) q u ru, ry, hz', h'⟩
theorem lastMark {x : List CmpOp} {p q : CmpOp} {y z : Expr} (h : notSet z = true) : lastMarks [p, q] [y, z] = false := noMark h q
theorem s_chn (x0 : XOk S C sc fb X) {o o' : C2} {a b c : Ex} {x y z : Expr} {pos : Pos} (ha : SE S W X a x) (hb : SE S W X b y) (hc : SE S W X c z) (hm : notSet z = true) : SE S W X (.chn o o' a b c) (.Compare x [cmE o, cmE o'] [y, z] pos) :=
  PE.imp (pe_chain (snd_cmp x0.hK x0.un o) (snd_cmp x0.hK x0.un o') ha hb hc (noMark hm _)) fun σ H Q h => r_chn h
theorem t_chn (x0 : XOk S C sc fb X) {o o' : C2} {a b c : Ex} {x y z : Expr} {pos : Pos} (ha : SE S W X a x) (hb : SE S W X b y) (hc : SE S W X c z) (hm : notSet z = true) : ST S W X (.v (.chn o o' a b c)) (.Compare x [cmE o, cmE o'] [y, z] pos) :=
  PT.imp (pt_chain (snd_cmp x0.hK x0.un o) (snd_cmp x0.hK x0.un o') ha hb hc (noMark hm _)) fun σ H Q h => r_chn (test_of h)
def isNonP : PV → Bool
  | .non => true
  | _ => false
theorem RepV.isNon {T : Tb} {w : Wd} {p : PV} {v : V} (h : RepV T w p v) : decide (v = .non) = isNonP p := by
  cases p <;> simp only [RepV] at h <;> first
    | (subst h; simp [isNonP]; done)
    | (obtain ⟨rfl, _⟩ := h; simp [isNonP]; done)
    | (obtain ⟨_, _, rfl, _⟩ := h; simp [isNonP]; done)
    | (obtain ⟨_, rfl, _⟩ := h; simp [isNonP]; done)
    | (obtain ⟨_, _, _, rfl, _⟩ := h; simp [isNonP]; done)
    | (obtain ⟨_, rfl⟩ := ObV.ref h; simp [isNonP]; done)
theorem r_isn {n : Bool} {a : Ex} {σ : St} {H : Hp} {Q : VK} (h : tE S.T S.C W (sE S (.isn n a)) σ H Q) : tE S.T S.C W (sE S a) σ H fun x H1 => Q (.bl (decide (x = .non) != n)) H1 := by
  obtain ⟨w, sl, mu, hH, F, P⟩ := h
  refine tE.bnd hH F P fun p v sl1 mu1 w1 e1 F1 rv P1 => ?_
  rw [rv.isNon]
  refine P1 w1 (Ext.refl w1) F1 _ ?_
  simp only [RepV]
  cases p <;> rfl
theorem c_isn {n : Bool} {a : Ex} {x : Expr} {j pos} (ha : SE S W X a x) : PC X (if n = true then .IsNot else .Is) x (.Constant .none j pos) (fun σ H Q => tE S.T S.C W (sE S (.isn n a)) σ H Q) := by
  cases n with
  | true => exact ⟨fun pins s σ H Q I h => (pc_notN ha).run pins s σ H Q I (by
      have h2 := r_isn h
      simp only [Bool.bne_true] at h2
      exact h2)⟩
  | false => exact ⟨fun pins s σ H Q I h => (pc_isN ha).run pins s σ H Q I (by
      have h2 := r_isn h
      simp only [Bool.bne_false] at h2
      exact h2)⟩
theorem nobeh {n : Bool} {j pos} : behindInMarks (if n = true then CmpOp.IsNot else .Is) (.Constant .none j pos) = false := by cases n <;> rfl
theorem s_isn {n : Bool} {a : Ex} {x : Expr} {j pos pos'} (ha : SE S W X a x) : SE S W X (.isn n a) (.Compare x [if n = true then .IsNot else .Is] [.Constant .none j pos] pos') := pe_cmp (c_isn ha) nobeh
theorem t_isn {n : Bool} {a : Ex} {x : Expr} {j pos pos'} (ha : SE S W X a x) : ST S W X (.v (.isn n a)) (.Compare x [if n = true then .IsNot else .Is] [.Constant .none j pos] pos') :=
  PT.imp (pt_cmp (c_isn ha) nobeh) fun σ H Q h => test_of h
theorem s_ife {t : Tt} {a b : Ex} {x y z : Expr} {pos : Pos} (ht : ST S W X t x) (ha : SE S W X a y) (hb : SE S W X b z) : SE S W X (.ife t a b) (.IfExp x y z pos) := by
  refine PE.imp (pe_ifExp ht ha hb) fun σ H Q h => ?_
  obtain ⟨w, sl, mu, hH, F, P⟩ := h
  refine tT.bnd hH F P fun c sl1 mu1 w1 e1 F1 P1 => ?_
  cases c with
  | true => exact ⟨w1, sl1, mu1, rfl, F1, P1⟩
  | false => exact ⟨w1, sl1, mu1, rfl, F1, P1⟩
theorem s_idx (x0 : XOk S C sc fb X) {a b : Ex} {x y : Expr} {pos : Pos} (ha : SE S W X a x) (hb : SE S W X b y) (hs : notSlice y = true) : SE S W X (.idx a b) (.Subscript x y pos) := by
  refine PE.imp (pe_ix (snd_idx x0.hK) ha hb (plainIx_of hs)) fun σ H Q h => ?_
  obtain ⟨w, sl, mu, hH, F, P⟩ := h
  refine tE.bnd hH F P fun p v sl1 mu1 w1 e1 F1 rv P1 => ?_
  refine tE.bnd rfl F1 P1 fun q u sl2 mu2 w2 e2 F2 ru P2 => ?_
  obtain ⟨z, hz, h⟩ := P2.lift
  exact ⟨w2, σ, sl2, mu2, p, q, z, rfl, F2, RepV.ext F1.wok e2 p v rv, ru, hz, h⟩
/-- bounds of a slice -/
def tO (T : Tb) (Cl : Nat → Value) (W : WX) (m : List Sl → List PV → Res (Option Int)) : TO := fun σ H Q => ∃ w sl mu, w.H = H ∧ FRel T w σ sl mu ∧ Pst T Cl W σ w (m sl mu) fun o _ _ w' => Q o w'.H
def SO (S : Gs) (W : WX) (X : Cx) (a : Oe) (e : Option Expr) : Prop := PO X e (tO S.T S.C W (evo S.G S.cf a))
theorem PO.imp {X : Cx} {e : Option Expr} {t t' : TO} (h : PO X e t) (f : ∀ σ H Q, t' σ H Q → t σ H Q) : PO X e t' := ⟨fun pins s σ H Q I q => h.run pins s σ H Q I (f σ H Q q)⟩
theorem tO.bnd {α : Type} {T : Tb} {Cl : Nat → Value} {σ : St} {H : Hp} {m : List Sl → List PV → Res (Option Int)} {f : Option Int → List Sl → List PV → Res α} {w : Wd} {sl : List Sl} {mu : List PV} {R : Option Int → Hp → Prop} {Q : α → List Sl → List PV → Wd → Prop}
    (hH : w.H = H) (F : FRel T w σ sl mu) (P : Pst T Cl W σ w ((m sl mu).bnd f) Q)
    (k : ∀ p sl1 mu1 w1, Ext w w1 → FRel T w1 σ sl1 mu1 → Pst T Cl W σ w1 (f p sl1 mu1) Q → R p w1.H) : tO T Cl W m σ H R :=
  ⟨w, sl, mu, hH, F, (P.bnd F.wok).mono fun p sl1 mu1 w1 e1 F1 P1 => k p sl1 mu1 w1 e1 F1 P1⟩
theorem o_no : SO S W X .no none := PO.imp po_none fun σ H Q h => by
  obtain ⟨w, sl, mu, rfl, F, P⟩ := h
  exact P w (Ext.refl w) F
theorem o_so {a : Ex} {e : Expr} (ha : SE S W X a e) : SO S W X (.so a) (some e) := PO.imp (po_some ha) fun σ H Q h => by
  obtain ⟨w, sl, mu, hH, F, P⟩ := h
  refine tE.bnd hH F P fun p v sl1 mu1 w1 e1 F1 rv P1 => ?_
  obtain ⟨z, hz, h⟩ := P1.lift
  cases p <;> simp at hz
  subst hz
  simp only [RepV] at rv
  exact ⟨_, rv, h w1 (Ext.refl w1) F1⟩
theorem s_sli (x0 : XOk S C sc fb X) {a : Ex} {lo hi : Oe} {x : Expr} {l u : Option Expr} {p2 pos : Pos} (ha : SE S W X a x) (hl : SO S W X lo l) (hu : SO S W X hi u) : SE S W X (.sli a lo hi) (.Subscript x (.Slice l u none p2) pos) := by
  refine PE.imp (pe_slice (snd_sli x0.hK) ha hl hu) fun σ H Q h => ?_
  obtain ⟨w, sl, mu, hH, F, P⟩ := h
  refine tE.bnd hH F P fun p v sl1 mu1 w1 e1 F1 rv P1 => ?_
  refine tO.bnd rfl F1 P1 fun o1 sl2 mu2 w2 e2 F2 P2 => ?_
  refine tO.bnd rfl F2 P2 fun o2 sl3 mu3 w3 e3 F3 P3 => ?_
  obtain ⟨z, hz, h⟩ := P3.lift
  exact ⟨w3, σ, sl3, mu3, p, z, rfl, F3, RepV.ext F1.wok (e2.trans F1.wok e3) p v rv, hz, h⟩

/-! ### lists of expressions, displays -/
theorem a_nil : SA S W X .nil [] := PA.imp pa_nil fun σ H Q h => by
  obtain ⟨w, sl, mu, rfl, F, P⟩ := h
  exact P w (Ext.refl w) F [] (by simp only [Reps])
theorem a_cons {a : Ex} {as : Exs} {e : Expr} {es : List Expr} (ha : SE S W X a e) (hr : SA S W X as es) (hs : notStar e = true) : SA S W X (.cons a as) (e :: es) := by
  refine PA.imp (pa_cons ha hr (star_cons hs)) fun σ H Q h => ?_
  obtain ⟨w, sl, mu, hH, F, P⟩ := h
  refine tE.bnd hH F P fun p v sl1 mu1 w1 e1 F1 rv P1 => ?_
  refine tA.bnd rfl F1 P1 fun ps vs sl2 mu2 w2 e2 F2 rvs P2 => ?_
  exact P2 w2 (Ext.refl w2) F2 _ (by simp only [Reps]; exact ⟨_, _, rfl, RepV.ext F1.wok e2 p v rv, rvs⟩)
theorem evs_len {G : List PV} {cf : Nat → List PV → List PV → CR} : ∀ (as : Exs) (sl : List Sl) (mu : List PV) {ps : List PV} {sl' : List Sl} {mu' : List PV} {es : List Expr}, ckEs C sc fb as es = true → evs G cf as sl mu = .ok ps sl' mu' → ps.length = es.length
  | .nil, sl, mu, ps, sl', mu', es, hk, h => by
    simp only [evs, Res.ok.injEq] at h
    simp only [ckEs, List.isEmpty_iff] at hk
    rw [← h.1, hk]; rfl
  | .cons a as, sl, mu, ps, sl', mu', es, hk, h => by
    cases es with
    | nil => simp [ckEs] at hk
    | cons e es =>
      simp only [ckEs, Bool.and_eq_true] at hk
      simp only [evs] at h
      cases q : ev G cf a sl mu with
      | stk => rw [q] at h; simp [Res.bnd] at h
      | exc _ _ _ => rw [q] at h; simp [Res.bnd] at h
      | ok p s1 m1 =>
        rw [q] at h
        simp only [Res.bnd] at h
        cases q2 : evs G cf as s1 m1 with
        | stk => rw [q2] at h; simp at h
        | exc _ _ _ => rw [q2] at h; simp at h
        | ok l s2 m2 =>
          rw [q2] at h
          simp only [Res.ok.injEq] at h
          rw [← h.1, List.length_cons, List.length_cons, evs_len as s1 m1 hk.2 q2]
theorem Pst.mono_ok {α : Type} {T : Tb} {Cl : Nat → Value} {σ : St} {w : Wd} {r : Res α} {Q Q' : α → List Sl → List PV → Wd → Prop} (h : Pst T Cl W σ w r Q) (f : ∀ a sl mu w', r = .ok a sl mu → Ext w w' → FRel T w' σ sl mu → Q a sl mu w' → Q' a sl mu w') : Pst T Cl W σ w r Q' := by
  cases r with
  | stk => exact h
  | ok a sl mu => exact fun w' e F => f a sl mu w' rfl e F (h w' e F)
  | exc x sl mu => exact h
theorem s_tup {as : Exs} {es : List Expr} {k pos} (ha : SA S W X as es) (hk : ckEs C sc fb as es = true) (hl : es.length ≤ 1000) : SE S W X (.tup as) (.Tuple es k pos) := by
  refine PE.imp (pe_tupP ha) fun σ H Q h => ?_
  obtain ⟨w, sl, mu, hH, F, P⟩ := h
  refine ⟨w, sl, mu, hH, F, (Pst.bnd F.wok (f := fun l s m => .ok (PV.tup l) s m) P).mono_ok fun l s m w' e ex F' P' vs rv => ?_⟩
  have hlen := evs_len as sl mu hk e
  refine ⟨by rw [← rv.len, hlen, sizeLine_eq]; omega, fun p O hp hO => P2.tup F' P' rv hp hO⟩
theorem s_lst {as : Exs} {es : List Expr} {pos} (ha : SA S W X as es) (hk : ckEs C sc fb as es = true) (hl : es.length ≤ 1000) : SE S W X (.lst as) (.List es pos) := by
  refine PE.imp (pe_lst ha) fun σ H Q h => ?_
  obtain ⟨w, sl, mu, hH, F, P⟩ := h
  refine ⟨w, sl, mu, hH, F, (Pst.bnd F.wok (f := fun l s m => .ok (PV.lst l) s m) P).mono_ok fun l s m w' e ex F' P' vs rv => ?_⟩
  have hlen := evs_len as sl mu hk e
  refine ⟨by rw [← rv.len, hlen, sizeLine_eq]; omega, fun p hp => P2.lst F' P' rv hp⟩
end
end RA

/-! Soundness: calls. -/
namespace RA
open PySem L2

/-- the same heap, cells and locks: what may be written here does not matter -/
def Wd.wrs (w : Wd) (f : Addr → Prop) : Wd := { w with wr := f }
section
variable {T : Tb}
mutual
theorem RepV.wrs {w : Wd} {f : Addr → Prop} : ∀ (p : PV) (v : V), RepV T w p v → RepV T (w.wrs f) p v
  | .non, _, h => h
  | .bl _, _, h => h
  | .int _, _, h => h
  | .str _, _, h => h
  | .tup l, v, h => by
    simp only [RepV] at h ⊢
    obtain ⟨a, xs, h1, h2, h3⟩ := h
    exact ⟨a, xs, h1, h2, Reps.wrs l xs h3⟩
  | .lst l, v, h => by
    simp only [RepV] at h ⊢
    obtain ⟨a, xs, h1, h2, h3, h4⟩ := h
    exact ⟨a, xs, h1, h2, h3, Reps.wrs l xs h4⟩
  | .fro l, v, h => h
  | .ref n, v, h => h
  | .exc c fs, v, h => by
    simp only [RepV] at h ⊢
    obtain ⟨a, d, vs, h1, h2, h3, h4, h5, h6, h7⟩ := h
    exact ⟨a, d, vs, h1, h2, h3, h4, h5, h6, Reps.wrs fs vs h7⟩
  | .dic ks vs, v, h => by
    simp only [RepV] at h ⊢
    obtain ⟨a, kvs, h1, h2, h3, h4, h5⟩ := h
    exact ⟨a, kvs, h1, h2, h3, Reps.wrs ks _ h4, Reps.wrs vs _ h5⟩
  | .fn _, _, h => by simp only [RepV] at h ⊢; exact h
  | .cl _, _, h => by simp only [RepV] at h
  | .obj _ _, _, h => by simp only [RepV] at h ⊢; exact h
theorem Reps.wrs {w : Wd} {f : Addr → Prop} : ∀ (ps : List PV) (vs : List V), Reps T w ps vs → Reps T (w.wrs f) ps vs
  | [], _, h => h
  | p :: ps, vs, h => by
    simp only [Reps] at h ⊢
    obtain ⟨v, r, h1, h2, h3⟩ := h
    exact ⟨v, r, h1, RepV.wrs p v h2, Reps.wrs ps r h3⟩
end
theorem CRep.wrs {w : Wd} {f : Addr → Prop} {a : Addr} {c : PV} (h : CRep T w a c) : CRep T (w.wrs f) a c := by
  cases c with
  | lst l =>
    obtain ⟨xs, h1, h2⟩ := h
    exact ⟨xs, h1, Reps.wrs l xs h2⟩
  | obj c fs =>
    obtain ⟨dx, vs, h1, h2, h3⟩ := h
    exact ⟨dx, vs, h1, h2, Reps.wrs fs vs h3⟩
  | dic ks vs =>
    obtain ⟨h0, es, h1, h2, h3, h4, h5⟩ := h
    exact ⟨h0, es, h1, h2, h3, h4, Reps.wrs ks _ h5⟩
  | cl j => exact h
  | _ => exact h.elim
variable {w1 w' : Wd} {σ : St} {sl : List Sl} {mu1 mu' : List PV}
theorem FRel.cellOf (F : FRel T w1 σ sl mu1) {a : Addr} (h : a ∈ w1.m) : w1.wr a := by
  obtain ⟨n, hn, e⟩ := List.getElem_of_mem h
  have e1 : w1.m[n]? = some a := by rw [List.getElem?_eq_getElem hn, e]
  have hn' : n < mu1.length := by rw [← F.cel.mlen]; exact hn
  exact (F.cel.cl n mu1[n] a (List.getElem?_eq_getElem hn') e1).2
theorem CRel.cellOf (F : CRel T w1 mu1) {a : Addr} (h : a ∈ w1.m) : w1.wr a := by
  obtain ⟨n, hn, e⟩ := List.getElem_of_mem h
  have e1 : w1.m[n]? = some a := by rw [List.getElem?_eq_getElem hn, e]
  have hn' : n < mu1.length := by rw [← F.mlen]; exact hn
  exact (F.cl n mu1[n] a (List.getElem?_eq_getElem hn') e1).2
/-- the world of a callee at its entry -/
theorem call_in (F : FRel T w1 σ sl mu1) : WOk (w1.wrs (· ∈ w1.m)) ∧ CRel T (w1.wrs (· ∈ w1.m)) mu1 :=
  ⟨⟨fun a h => F.wok.sub a (F.cellOf h), F.wok.mtr⟩, F.cel.mlen, fun n c a h1 h2 => ⟨(F.cel.cl n c a h1 h2).1.wrs, List.mem_of_getElem? h2⟩, F.cel.inj⟩
/-- .. and behind it -/
theorem call_out (F : FRel T w1 σ sl mu1) (ex : Ext (w1.wrs (· ∈ w1.m)) w') (ok : WOk w') (cr : CRel T w' mu') :
    Ext w1 (w'.wrs fun a => w1.wr a ∨ w'.wr a) ∧ FRel T (w'.wrs fun a => w1.wr a ∨ w'.wr a) σ sl mu' := by
  have cell' : ∀ a, a ∈ w1.m → w'.wr a := fun a h => by
    obtain ⟨n, hn, e⟩ := List.getElem_of_mem h
    exact cr.cellOf (List.mem_of_getElem? (ex.pre n a (by show w1.m[n]? = _; rw [List.getElem?_eq_getElem hn, e])))
  have e2 : Ext w1 (w'.wrs fun a => w1.wr a ∨ w'.wr a) := by
    refine ⟨ex.pre, fun a o h hw => ex.keep a o h fun z => hw (F.cellOf z), ex.trk, ex.mt, fun a h hw => ex.mkp a h fun z => hw (F.cellOf z), fun a h => ?_, ex.xs⟩
    rcases h with h | h
    · exact .inl h
    · rcases ex.ws a h with z | z
      · exact .inl (F.cellOf z)
      · exact .inr z
  have ok2 : WOk (w'.wrs fun a => w1.wr a ∨ w'.wr a) := by
    refine ⟨fun a h => ?_, ok.mtr⟩
    rcases h with h | h
    · by_cases z : a ∈ w1.m
      · exact ok.sub a (cell' a z)
      · exact ex.mkp a (F.wok.sub a h) z
    · exact ok.sub a h
  refine ⟨e2, ok2, F.len, fun i p h => ?_, fun i p h => ?_, F.ows, ⟨cr.mlen, fun n c a h1 h2 => ?_, cr.inj⟩, fun i c fs h => ex_ext F.wok e2 (F.ex i c fs h)⟩
  · obtain ⟨v, k1, k2⟩ := F.va i p h
    exact ⟨v, k1, RepV.ext F.wok e2 p v k2⟩
  · obtain ⟨a, k1, k2, k3, k4⟩ := F.ow i p h
    refine ⟨a, k1, k2.ext_keep F.wok e2 fun o q => ex.keep a o q k4, .inl k3, fun z => ?_⟩
    have z' : w'.wr a := cr.cellOf z
    rcases ex.ws a z' with y | y
    · exact k4 y
    · exact F.wok.mtr a (F.wok.sub a k3) y
  · obtain ⟨k1, k2⟩ := cr.cl n c a h1 h2
    exact ⟨k1.wrs, .inr k2⟩
end

section
variable {S : Gs} {C : Ck} {sc : Scope} {fb : Str → Bool} {X : Cx} {W : WX}
/-- f(), f a def of the text -/
theorem pe_S0 {CX : CXT} {k : Nat} {f : Addr} {fd : FuncData} {ps : List Str} {sp : Sp} {E : St → XK} {x : Str} {p pos : Pos}
    (F : FnS X.prog X.w X.K X.mg X.base CX k f fd ps sp) (gd : Gd X.A) (hr : Room k X.A) (hg : Gl X x) (hm : X.mg x = some (.ref f)) (hk : PySem.W.keepIn X.K (.ref f) = true) (hb : Binds X.K fd ps []) (hx : ∀ σ, PassesAt CX X σ (E σ))
    (hdb : (x == ("__debug__" : Str)) = false) : PE X (.Call (.Name x p) [] [] pos) (tCallSD sp [] E tNil) :=
  ⟨fun pins s σ H Q I h => wpAny_Call_Name_kw (ld_glob I hg hm (PySem.W.callWith_K0 I.kIn hk (run_S (us := []) (vs := []) F gd hr hb (hx σ) I .nil h)) hdb)⟩
/-- f(e, ..) -/
theorem pe_S {CX : CXT} {k : Nat} {f : Addr} {fd : FuncData} {ps : List Str} {sp : Sp} {E : St → XK} {x : Str} {e : Expr} {es : List Expr} {t : TA} {p pos : Pos}
    (F : FnS X.prog X.w X.K X.mg X.base CX k f fd ps sp) (gd : Gd X.A) (hr : Room k X.A) (hg : Gl X x) (hm : X.mg x = some (.ref f)) (hk : PySem.W.keepIn X.K (.ref f) = true) (hb : Binds X.K fd ps []) (hx : ∀ σ, PassesAt CX X σ (E σ))
    (ha : PA X (e :: es) t) (hs : ∀ y ∈ e :: es, notStar y = true) (hdb : (x == ("__debug__" : Str)) = false) : PE X (.Call (.Name x p) (e :: es) [] pos) (tCallSD sp [] E t) :=
  ⟨fun pins s σ H Q I h => wpAny_Call_Name_kw (ld_glob I hg hm (PySem.W.callWith_K (h₀ := X.base) I.ok.mod.kin hk (thn (ha.run pos pins s σ H _ I h) fun us s1 ⟨vs, H1, I1, r, q⟩ =>
    ⟨I1.kIn, run_S F gd hr hb (hx σ) I1 r (by simpa only [List.append_nil] using q)⟩) (star_cons (hs e List.mem_cons_self)) (back_any fun y hy => hs y (List.mem_cons_of_mem _ hy))) hdb)⟩
theorem call_wish {f : Nat} {as : Exs} {σ : St} {H : Hp} {Q : VK} (h : tE S.T S.C W (sE S (.call f as)) σ H Q) : tCallSD (spF S f) [] (WE W) (tA S.T S.C W (sA S as)) σ H Q := by
  obtain ⟨w, sl, mu, hH, F, P⟩ := h
  refine tA.bnd hH F P fun ps vs sl1 mu1 w1 e1 F1 rv P1 => ?_
  obtain ⟨i1, i2⟩ := call_in F1
  refine ⟨w1.wrs (· ∈ w1.m), ps, mu1, rfl, i1, i2, fun a h => h, by rw [List.append_nil]; exact Reps.wrs ps vs rv, ?_⟩
  have P1 : Pst S.T S.C W σ w1 (match S.cf f ps mu1 with | .stk => .stk | .ok p m => .ok p sl1 m | .exc e m => .exc e sl1 m) (QE S.T Q) := P1
  generalize S.cf f ps mu1 = r at P1 ⊢
  cases r with
  | stk => exact P1
  | ok p mu' =>
    intro v w' ex ok cr rv
    obtain ⟨o1, o2⟩ := call_out F1 ex ok cr
    exact P1 _ o1 o2 v (RepV.wrs p v rv)
  | exc e mu' =>
    intro cls d w' ex ok cr rx
    obtain ⟨o1, o2⟩ := call_out F1 ex ok cr
    refine P1 cls d (w'.wrs fun a => w1.wr a ∨ w'.wr a) o1 o2 ?_
    obtain ⟨c, fs, d', vs, r1, r0, r2, r3, r4, r5, r6, r7⟩ := rx
    exact ⟨c, fs, d', vs, r1, r0, r2, r3, r4, r5, r6, Reps.wrs fs vs r7⟩
theorem s_call (x0 : XOk S C sc fb X) (hc : C.hot = false) (tk : L2N.Takes X W) {f : Nat} {x : Str} {as : Exs} {es : List Expr} {p pos : Pos} (hi : C.fnm[f]? = some (some x)) (hv : glb sc x = true) (ho : okNm x = true) (ha : SA S W X as es) (hk : ckEs C sc fb as es = true) :
    SE S W X (.call f as) (.Call (.Name x p) es [] pos) := by
  obtain ⟨h1, _, _⟩ := okNm_of ho
  obtain ⟨a, k1, g1⟩ := x0.fa f x hi
  have gd := (x0.fns hc f a g1).gd
  obtain ⟨fd, ps, l, kl, k2, k3, k4⟩ := (x0.fns hc f a g1).ex
  have hr : Room l X.A := (x0.room hc).mono (by omega)
  cases es with
  | nil =>
    refine PE.imp (pe_S0 k4 gd hr (glb_of x0 hv) k1 k2 k3 (fun σ => L2N.passAt tk σ) h1) fun σ H Q h => ?_
    have h2 := call_wish h
    cases as with
    | nil =>
      obtain ⟨w, sl, mu, rfl, F, P⟩ := h2
      exact P w (Ext.refl w) F [] (by simp only [Reps])
    | cons _ _ => simp [ckEs] at hk
  | cons e es =>
    have hs := notStar_all hk
    exact PE.imp (pe_S k4 gd hr (glb_of x0 hv) k1 k2 k3 (fun σ => L2N.passAt tk σ) ha hs h1) fun σ H Q h => call_wish h

/-- f(e, ..), defaults fill up -/
theorem pe_SD {CX : CXT} {k : Nat} {f : Addr} {fd : FuncData} {ps : List Str} {sp : Sp} {E : St → XK} {x : Str} {e : Expr} {es : List Expr} {t : TA} {p pos : Pos} {ds : List V} {dus : List Value}
    (F : FnS X.prog X.w X.K X.mg X.base CX k f fd ps sp) (gd : Gd X.A) (hr : Room k X.A) (hg : Gl X x) (hm : X.mg x = some (.ref f)) (hk : PySem.W.keepIn X.K (.ref f) = true) (rd : Vals ds dus) (hb : Binds X.K fd ps dus) (hx : ∀ σ, PassesAt CX X σ (E σ))
    (ha : PA X (e :: es) t) (hs : ∀ y ∈ e :: es, notStar y = true) (hdb : (x == ("__debug__" : Str)) = false) : PE X (.Call (.Name x p) (e :: es) [] pos) (tCallSD sp ds E t) :=
  ⟨fun pins s σ H Q I h => wpAny_Call_Name_kw (ld_glob I hg hm (PySem.W.callWith_K (h₀ := X.base) I.ok.mod.kin hk (thn (ha.run pos pins s σ H _ I h) fun us s1 ⟨vs, H1, I1, r, q⟩ =>
    ⟨I1.kIn, run_SD F gd hr hb (hx σ) I1 r rd q⟩) (star_cons (hs e List.mem_cons_self)) (back_any fun y hy => hs y (List.mem_cons_of_mem _ hy))) hdb)⟩
theorem reps_ints {T : Tb} {w : Wd} : ∀ (ds : List Int), Reps T w (ds.map .int) (ds.map V.int)
  | [] => by simp only [Reps, List.map_nil]
  | d :: ds => by
    simp only [Reps, List.map_cons, RepV]
    exact ⟨_, _, rfl, rfl, reps_ints ds⟩
theorem cld_wish {f : Nat} {as : Exs} {ds : List Int} {σ : St} {H : Hp} {Q : VK} (h : tE S.T S.C W (sE S (.cld f as ds)) σ H Q) : tCallSD (spF S f) (ds.map V.int) (WE W) (tA S.T S.C W (sA S as)) σ H Q := by
  obtain ⟨w, sl, mu, hH, F, P⟩ := h
  refine tA.bnd hH F P fun ps vs sl1 mu1 w1 e1 F1 rv P1 => ?_
  obtain ⟨i1, i2⟩ := call_in F1
  refine ⟨w1.wrs (· ∈ w1.m), ps ++ ds.map .int, mu1, rfl, i1, i2, fun a h => h, Reps.append (Reps.wrs ps vs rv) (reps_ints ds), ?_⟩
  have P1 : Pst S.T S.C W σ w1 (match S.cf f (ps ++ ds.map .int) mu1 with | .stk => .stk | .ok p m => .ok p sl1 m | .exc e m => .exc e sl1 m) (QE S.T Q) := P1
  generalize S.cf f (ps ++ ds.map .int) mu1 = r at P1 ⊢
  cases r with
  | stk => exact P1
  | ok p mu' =>
    intro v w' ex ok cr rv
    obtain ⟨o1, o2⟩ := call_out F1 ex ok cr
    exact P1 _ o1 o2 v (RepV.wrs p v rv)
  | exc e mu' =>
    intro cls d w' ex ok cr rx
    obtain ⟨o1, o2⟩ := call_out F1 ex ok cr
    refine P1 cls d (w'.wrs fun a => w1.wr a ∨ w'.wr a) o1 o2 ?_
    obtain ⟨c, fs, d', vs, r1, r0, r2, r3, r4, r5, r6, r7⟩ := rx
    exact ⟨c, fs, d', vs, r1, r0, r2, r3, r4, r5, r6, Reps.wrs fs vs r7⟩
theorem s_cld (x0 : XOk S C sc fb X) (hc : C.hot = false) (tk : L2N.Takes X W) {f : Nat} {x : Str} {as : Exs} {ds : List Int} {e : Expr} {es : List Expr} {p pos : Pos} (hi : C.fnm[f]? = some (some x)) (hv : glb sc x = true) (ho : okNm x = true) (ha : SA S W X as (e :: es)) (hk : ckEs C sc fb as (e :: es) = true) (hd : C.dfl[f]? = some ds) (hd0 : ds ≠ []) :
    SE S W X (.cld f as ds) (.Call (.Name x p) (e :: es) [] pos) := by
  obtain ⟨h1, _, _⟩ := okNm_of ho
  obtain ⟨a, k1, g1⟩ := x0.fa f x hi
  obtain ⟨gd, fd, ps, l, us, kl, k2, kv, k3, k4⟩ := (x0.lx hc).df f a ds hd hd0 g1
  have hr : Room l X.A := (x0.room hc).mono (by omega)
  exact PE.imp (pe_SD k4 gd hr (glb_of x0 hv) k1 k2 kv k3 (fun σ => L2N.passAt tk σ) ha (notStar_all hk) h1) fun σ H Q h => cld_wish h

/-- a call where an exception is handled -/
theorem s_callH (x0 : XOk S C sc fb X) (hc : C.hot = true) (tk : L2N.Takes X W) {f : Nat} {x : Str} {as : Exs} {e : Expr} {es : List Expr} {p pos : Pos} (hf : C.hf.contains f = true) (hi : C.fnm[f]? = some (some x)) (hv : glb sc x = true) (ho : okNm x = true) (ha : SA S W X as (e :: es)) (hk : ckEs C sc fb as (e :: es) = true) :
    SE S W X (.call f as) (.Call (.Name x p) (e :: es) [] pos) := by
  obtain ⟨h1, _, _⟩ := okNm_of ho
  obtain ⟨a, k1, g1⟩ := x0.fa f x hi
  obtain ⟨fd, ps, l, kl, k2, k3, k4⟩ := (x0.fnsH f a hf g1).ex
  have hr : L2H.RoomH l X.A := x0.roomH.mono (by omega)
  have hs := notStar_all hk
  exact PE.imp (L2H.pe_callH k4 hr (x0.hotc hc) (glb_of x0 hv) k1 k2 k3 (fun σ => L2N.passAt tk σ) ha h1 (star_cons (hs e List.mem_cons_self)) (back_any fun y hy => hs y (List.mem_cons_of_mem _ hy))) fun σ H Q h => by
    have h2 := call_wish h
    simp only [tCallSD, List.append_nil] at h2
    exact h2
/-! ### built-ins by name -/
theorem isName_of {n : Str} {e : Expr} (h : isName sc n e = true) : ∃ p, e = .Name n p ∧ glb sc n = true := by
  cases e with
  | Name x p =>
    simp only [isName, Bool.and_eq_true, beq_iff_eq] at h
    exact ⟨p, by rw [h.1], h.2⟩
  | _ => simp [isName] at h
theorem biN_mem (b : Bi) : biN b ∈ bNames := by cases b <;> decide +kernel
theorem biN_boot (b : Bi) : bootBuiltins (biN b) = some (biT b) := by cases b <;> decide +kernel
theorem biN_nm (b : Bi) : (biN b == ("__debug__" : Str)) = false ∧ biN b ≠ ("__name__" : Str) := by cases b <;> decide +kernel
theorem pe_bi {b : Bi} {r : List V → Hp → VK → Prop} {e : Expr} {es : List Expr} {t : TA} {p pos : Pos} (x0 : XOk S C sc fb X) (hc : CallR X (biT b) r) (hv : glb sc (biN b) = true) (ha : PA X (e :: es) t) (hs : ∀ x ∈ e :: es, notStar x = true) :
    PE X (.Call (.Name (biN b) p) (e :: es) [] pos) (tCB r t) := by
  obtain ⟨n1, n2⟩ := biN_nm b
  have hst : starEach (e :: es) X.env = (false, eval e X.env) :: starEach es X.env := star_cons (hs e List.mem_cons_self)
  have hpl : (backTo pos (starEach es X.env)).any (·.1) = false := back_any fun y hy => hs y (List.mem_cons_of_mem _ hy)
  have hm := x0.blt _ (biN_mem b)
  have hB := biN_boot b
  cases b with
  | lsth => exact pe_callTy hc (glb_of x0 hv) hm hB ha n2 n1 hst hpl
  | list => exact pe_callTy hc (glb_of x0 hv) hm hB ha n2 n1 hst hpl
  | tuple => exact pe_callTy hc (glb_of x0 hv) hm hB ha n2 n1 hst hpl
  | str => exact pe_callTy hc (glb_of x0 hv) hm hB ha n2 n1 hst hpl
  | int => exact pe_callTy hc (glb_of x0 hv) hm hB ha n2 n1 hst hpl
  | len => exact pe_callB hc (glb_of x0 hv) hm hB ha n2 n1 hst hpl
  | all => exact pe_callB hc (glb_of x0 hv) hm hB ha n2 n1 hst hpl
  | any => exact pe_callB hc (glb_of x0 hv) hm hB ha n2 n1 hst hpl
  | sum1 => exact pe_callB hc (glb_of x0 hv) hm hB ha n2 n1 hst hpl
  | sum2 => exact pe_callB hc (glb_of x0 hv) hm hB ha n2 n1 hst hpl
  | min => exact pe_callB hc (glb_of x0 hv) hm hB ha n2 n1 hst hpl
  | max => exact pe_callB hc (glb_of x0 hv) hm hB ha n2 n1 hst hpl
  | abs => exact pe_callB hc (glb_of x0 hv) hm hB ha n2 n1 hst hpl
theorem s_bi (x0 : XOk S C sc fb X) {b : Bi} {as : Exs} {e : Expr} {es : List Expr} {p pos : Pos} (hc : CallR X (biT b) (rPs S.T (bi b))) (hv : glb sc (biN b) = true) (ha : SA S W X as (e :: es)) (hk : ckEs C sc fb as (e :: es) = true) :
    SE S W X (.bi b as) (.Call (.Name (biN b) p) (e :: es) [] pos) := by
  refine PE.imp (pe_bi x0 hc hv ha (notStar_all hk)) fun σ H Q h => ?_
  obtain ⟨w, sl, mu, hH, F, P⟩ := h
  refine tA.bnd hH F P fun ps vs sl1 mu1 w1 e1 F1 rv P1 => ?_
  obtain ⟨z, hz, h⟩ := P1.lift
  exact ⟨w1, σ, sl1, mu1, ps, z, rfl, F1, rv, hz, h⟩
theorem tyN_boot (t : Ty) : bootBuiltins (tyS t) = some (.type (tyN t)) := by cases t <;> decide +kernel
theorem tyS_mem (t : Ty) : tyS t ∈ bNames := by cases t <;> decide +kernel
theorem tyS_nm (t : Ty) : (tyS t == ("__debug__" : Str)) = false ∧ tyS t ≠ ("__name__" : Str) := by cases t <;> decide +kernel
theorem s_isi (x0 : XOk S C sc fb X) {t : Ty} {a : Ex} {x : Expr} {p p2 pos : Pos} (ha : SE S W X a x) (h1 : glb sc "isinstance" = true) (h2 : glb sc (tyS t) = true) (hs : notStar x = true) :
    SE S W X (.isi t a) (.Call (.Name "isinstance" p) [x, .Name (tyS t) p2] [] pos) := by
  obtain ⟨n1, n2⟩ := tyS_nm t
  have hty : PE X (.Name (tyS t) p2) (tC (.ty (tyN t))) := pe_bltn (glb_of x0 h2) (x0.blt _ (tyS_mem t)) (tyN_boot t) rfl n2 n1
  refine PE.imp (pe_callB (snd_isi x0.hK t) (glb_of x0 h1) (x0.blt _ (by decide +kernel)) PyProof.Rows.boot_isinstance (pa_cons ha (pa_cons hty pa_nil) (star_cons hs)) (by decide) (by decide) (star_cons hs) (by rfl)) fun σ H Q h => ?_
  obtain ⟨w, sl, mu, hH, F, P⟩ := h
  refine tE.bnd hH F P fun q v sl1 mu1 w1 e1 F1 rv P1 => ?_
  by_cases hd : isD q = true
  · rw [if_pos hd] at P1
    exact ⟨w1, σ, sl1, mu1, q, v, rfl, F1, rfl, rv, hd, P1 w1 (Ext.refl w1) F1 _ (by simp only [RepV])⟩
  · rw [if_neg hd] at P1
    exact P1.elim

/-! ### methods of texts -/
theorem s_join (x0 : XOk S C sc fb X) {a : Ex} {as : Exs} {o e : Expr} {es : List Expr} {ap cp : Pos} (ha : SE S W X a o) (hb : SA S W X as (e :: es)) (hk : ckEs C sc fb as (e :: es) = true) (hsu : notSuper o = true) (hl : es.length ≤ 5) (hline : (ap.endLine == cp.line) = true) :
    SE S W X (.mt .join a as) (.Call (.Attribute o "join" ap) (e :: es) [] cp) := by
  have hs := notStar_all hk
  refine PE.imp (pe_bm PySem.F.plainAttrs_str PySem.F.slot_str_join PySem.F.type_str_join (snd_join x0.hK) ha hb (attr_of hsu) ?_ hline (star_cons (hs e List.mem_cons_self)) (back_any fun y hy => hs y (List.mem_cons_of_mem _ hy))) fun σ H Q h => ?_
  · rw [back_all hs]
    have : decide ((e :: es).length + ([] : List Keyword).length + (if ([] : List Keyword).isEmpty then 0 else 1) < 30) = true := decide_eq_true (by simp only [List.length_cons, List.length_nil, List.isEmpty_nil, if_true]; omega)
    rw [this]
    rfl
  · obtain ⟨w, sl, mu, hH, F, P⟩ := h
    refine tE.bnd hH F P fun p v sl1 mu1 w1 e1 F1 rv P1 => ?_
    by_cases hr : recv .join p = true
    · rw [if_pos hr] at P1
      cases p <;> simp [recv] at hr
      have rv' := rv
      simp only [RepV] at rv'
      obtain ⟨rfl, hz⟩ := rv'
      refine ⟨rfl, tA.bnd rfl F1 P1 fun ps vs sl2 mu2 w2 e2 F2 rvs P2 => ?_⟩
      obtain ⟨z', hz', h⟩ := P2.lift
      exact ⟨w2, σ, sl2, mu2, _, ps, z', rfl, F2, RepV.ext F1.wok e2 _ _ rv, rvs, hz', h⟩
    · rw [if_neg hr] at P1
      exact P1.elim
end
end RA

/-! A call whose cells are forgotten: its answer speaks of none. -/
namespace RA
open PySem L2

def Wd.cutm (w : Wd) (n : Nat) : Wd := { w with m := w.m.take n }
section
variable {T : Tb}
mutual
theorem RepV.cutm {w : Wd} {n : Nat} : ∀ (p : PV) (v : V), RepV T w p v → rbd n p = true → RepV T (w.cutm n) p v
  | .non, _, h, _ => h
  | .bl _, _, h, _ => h
  | .int _, _, h, _ => h
  | .str _, _, h, _ => h
  | .tup l, v, h, b => by
    simp only [RepV] at h ⊢
    obtain ⟨a, xs, h1, h2, h3⟩ := h
    exact ⟨a, xs, h1, h2, Reps.cutm l xs h3 b⟩
  | .lst l, v, h, b => by
    simp only [RepV] at h ⊢
    obtain ⟨a, xs, h1, h2, h3, h4⟩ := h
    exact ⟨a, xs, h1, h2, h3, Reps.cutm l xs h4 b⟩
  | .fro l, v, h, _ => h
  | .ref i, v, h, b => by
    simp only [RepV] at h ⊢
    obtain ⟨a, h1, h2⟩ := h
    have hi : i < n := Nat.le_of_ble_eq_true b
    exact ⟨a, h1, by show (w.m.take n)[i]? = _; rw [List.getElem?_take_of_lt hi]; exact h2⟩
  | .exc c fs, v, h, b => by
    simp only [RepV] at h ⊢
    obtain ⟨a, d, vs, h1, h2, h3, h4, h5, h6, h7⟩ := h
    exact ⟨a, d, vs, h1, h2, h3, h4, h5, h6, Reps.cutm fs vs h7 b⟩
  | .dic ks vs, v, h, b => by
    simp only [RepV] at h ⊢
    obtain ⟨a, kvs, h1, h2, h3, h4, h5⟩ := h
    have b : (rbds n ks && rbds n vs) = true := b
    rw [Bool.and_eq_true] at b
    exact ⟨a, kvs, h1, h2, h3, Reps.cutm ks _ h4 b.1, Reps.cutm vs _ h5 b.2⟩
  | .fn _, _, h, _ => by simp only [RepV] at h ⊢; exact h
  | .cl _, _, h, _ => by simp only [RepV] at h
  | .obj f l, v, h, b => by
    simp only [RepV] at h ⊢
    match l, h, b with
    | [], h, b => exact h
    | [.ref i], h, b =>
      obtain ⟨a, c, g, h1, h2, h3⟩ := h
      have b : (Nat.blt i n && true) = true := b
      rw [Bool.and_true] at b
      have hi : i < n := Nat.le_of_ble_eq_true b
      exact ⟨a, c, g, h1, by show (w.m.take n)[i]? = _; rw [List.getElem?_take_of_lt hi]; exact h2, h3⟩
    | [.non], h, _ => exact h.elim
    | [.bl _], h, _ => exact h.elim
    | [.int _], h, _ => exact h.elim
    | [.str _], h, _ => exact h.elim
    | [.tup _], h, _ => exact h.elim
    | [.lst _], h, _ => exact h.elim
    | [.fro _], h, _ => exact h.elim
    | [.exc _ _], h, _ => exact h.elim
    | [.dic _ _], h, _ => exact h.elim
    | [.fn _], h, _ => exact h.elim
    | [.cl _], h, _ => exact h.elim
    | [.obj _ _], h, _ => exact h.elim
    | .ref _ :: _ :: _, h, _ => exact h.elim
    | .non :: _ :: _, h, _ => exact h.elim
    | .bl _ :: _ :: _, h, _ => exact h.elim
    | .int _ :: _ :: _, h, _ => exact h.elim
    | .str _ :: _ :: _, h, _ => exact h.elim
    | .tup _ :: _ :: _, h, _ => exact h.elim
    | .lst _ :: _ :: _, h, _ => exact h.elim
    | .fro _ :: _ :: _, h, _ => exact h.elim
    | .exc _ _ :: _ :: _, h, _ => exact h.elim
    | .dic _ _ :: _ :: _, h, _ => exact h.elim
    | .fn _ :: _ :: _, h, _ => exact h.elim
    | .cl _ :: _ :: _, h, _ => exact h.elim
    | .obj _ _ :: _ :: _, h, _ => exact h.elim
theorem Reps.cutm {w : Wd} {n : Nat} : ∀ (ps : List PV) (vs : List V), Reps T w ps vs → rbds n ps = true → Reps T (w.cutm n) ps vs
  | [], _, h, _ => h
  | p :: ps, vs, h, b => by
    simp only [Reps] at h ⊢
    obtain ⟨v, r, h1, h2, h3⟩ := h
    have b : (rbd n p && rbds n ps) = true := b
    rw [Bool.and_eq_true] at b
    exact ⟨v, r, h1, RepV.cutm p v h2 b.1, Reps.cutm ps r h3 b.2⟩
end
theorem CRep.cutm {w : Wd} {n : Nat} {a : Addr} {c : PV} (h : CRep T w a c) (b : rbd n c = true) : CRep T (w.cutm n) a c := by
  cases c with
  | lst l =>
    obtain ⟨xs, h1, h2⟩ := h
    exact ⟨xs, h1, Reps.cutm l xs h2 b⟩
  | obj c fs =>
    obtain ⟨dx, vs, h1, h2, h3⟩ := h
    exact ⟨dx, vs, h1, h2, Reps.cutm fs vs h3 b⟩
  | dic ks vs =>
    obtain ⟨h0, es, h1, h2, h3, h4, h5⟩ := h
    have b : (rbds n ks && rbds n vs) = true := b
    rw [Bool.and_eq_true] at b
    exact ⟨h0, es, h1, h2, h3, h4, Reps.cutm ks _ h5 b.1⟩
  | cl j => exact h
  | _ => exact h.elim
mutual
theorem rbd_D {n : Nat} : ∀ (p : PV), isD p = true → rbd n p = true
  | .non, _ => rfl
  | .bl _, _ => rfl
  | .int _, _ => rfl
  | .str _, _ => rfl
  | .tup l, h => rbds_D l h
  | .lst l, h => rbds_D l h
  | .fro _, _ => rfl
  | .ref _, h => by cases h
  | .exc _ _, h => by cases h
  | .dic _ _, h => by cases h
  | .fn _, _ => rfl
  | .cl _, _ => rfl
  | .obj _ _, h => by cases h
theorem rbds_D {n : Nat} : ∀ (l : List PV), isDs l = true → rbds n l = true
  | [], _ => rfl
  | x :: r, h => by
    have h : (isD x && isDs r) = true := h
    rw [Bool.and_eq_true] at h
    show (rbd n x && rbds n r) = true
    rw [rbd_D x h.1, rbds_D r h.2]; rfl
end
theorem plainS_at : ∀ {s : List Sl}, plainS s = true → ∀ {i : Nat} {x : Sl}, s[i]? = some x → x = .un ∨ ∃ p, x = .va p
  | [], _, i, x, h => by simp at h
  | y :: r, hp, i, x, h => by
    unfold plainS at hp
    rw [Bool.and_eq_true] at hp
    cases i with
    | zero =>
      simp at h
      subst h
      cases y with
      | un => exact .inl rfl
      | va p => exact .inr ⟨p, rfl⟩
      | ow _ => exact absurd hp.1 (by simp)
      | ex _ _ => exact absurd hp.1 (by simp)
    | succ i => exact plainS_at hp.2 (by simpa using h)
theorem rbds_at {n : Nat} : ∀ {l : List PV}, rbds n l = true → ∀ {i : Nat} {c : PV}, l[i]? = some c → rbd n c = true
  | [], _, i, c, h => by simp at h
  | x :: r, hb, i, c, h => by
    have hb : (rbd n x && rbds n r) = true := hb
    rw [Bool.and_eq_true] at hb
    cases i with
    | zero => simp at h; subst h; exact hb.1
    | succ i => exact rbds_at hb.2 (by simpa using h)
variable {w1 W : Wd} {σ : L2.St} {sl : List Sl} {mu1 mu' : List PV}
theorem cut_ext (F1 : FRel T w1 σ sl mu1) (e : Ext w1 W) : Ext w1 (W.cutm mu1.length) :=
  ⟨fun i a h => by
    have hi : i < mu1.length := by
      rw [← F1.cel.mlen]
      exact (List.getElem?_eq_some_iff.mp h).1
    show (W.m.take mu1.length)[i]? = _
    rw [List.getElem?_take_of_lt hi]
    exact e.pre i a h, e.keep, e.trk, e.mt, e.mkp, e.ws, e.xs⟩
theorem cut_rel (F1 : FRel T w1 σ sl mu1) (e : Ext w1 W) (F : FRel T W σ sl mu') (hp : plainS sl = true) (hb : rbds mu1.length (mu'.take mu1.length) = true) : FRel T (W.cutm mu1.length) σ sl (mu'.take mu1.length) := by
  have e' := cut_ext F1 e
  have no : ∀ {i : Nat} {x : Sl}, sl[i]? = some x → x ≠ .un → (∀ p, x ≠ .va p) → False := fun {i x} h a b => by
    rcases plainS_at hp h with z | ⟨p, z⟩
    · exact a z
    · exact b p z
  refine ⟨⟨F.wok.sub, F.wok.mtr⟩, F.len, fun i p h => ?_, fun i p h => (no h (by simp) (by simp)).elim, fun i j p q a h => (no h (by simp) (by simp)).elim, ⟨?_, fun i c a h1 h2 => ?_, fun i j a h1 h2 => ?_⟩, fun i c fs h => (no h (by simp) (by simp)).elim⟩
  · obtain ⟨v, h1, h2⟩ := F1.va i p h
    exact ⟨v, h1, RepV.ext F1.wok e' p v h2⟩
  · show (W.m.take _).length = _
    rw [List.length_take, List.length_take, F.cel.mlen]
  · have hi : i < mu1.length := by
      have z := (List.getElem?_eq_some_iff.mp h1).1
      rw [List.length_take] at z
      omega
    have b := rbds_at hb h1
    rw [List.getElem?_take_of_lt hi] at h1
    have h2 : (W.m.take mu1.length)[i]? = some a := h2
    rw [List.getElem?_take_of_lt hi] at h2
    obtain ⟨k1, k2⟩ := F.cel.cl i c a h1 h2
    exact ⟨k1.cutm b, k2⟩
  · have h1 : (W.m.take mu1.length)[i]? = some a := h1
    have h2 : (W.m.take mu1.length)[j]? = some a := h2
    have z1 := (List.getElem?_eq_some_iff.mp h1).1
    have z2 := (List.getElem?_eq_some_iff.mp h2).1
    rw [List.length_take] at z1 z2
    rw [List.getElem?_take_of_lt (by omega)] at h1 h2
    exact F.cel.inj i j a h1 h2
end
section
variable {S : Gs} {C : Ck} {sc : Scope} {fb : Str → Bool} {X : Cx} {W : WX}
theorem cfr_wish {f : Nat} {as : Exs} {σ : St} {H : Hp} {Q : VK} (h : tE S.T S.C W (sE S (.cfr f as)) σ H Q) : tCallSD (spF S f) [] (WE W) (tA S.T S.C W (sA S as)) σ H Q := by
  obtain ⟨w, sl, mu, hH, F, P⟩ := h
  refine tA.bnd hH F P fun ps vs sl1 mu1 w1 e1 F1 rv P1 => ?_
  obtain ⟨i1, i2⟩ := call_in F1
  refine ⟨w1.wrs (· ∈ w1.m), ps, mu1, rfl, i1, i2, fun a h => h, by rw [List.append_nil]; exact Reps.wrs ps vs rv, ?_⟩
  have P1 : Pst S.T S.C W σ w1 (match S.cf f ps mu1 with | .stk => .stk | .ok p m' => if plainS sl1 && isD p && rbds mu1.length (m'.take mu1.length) then .ok p sl1 (m'.take mu1.length) else .stk | .exc e m => .exc e sl1 m) (QE S.T Q) := P1
  generalize S.cf f ps mu1 = r at P1 ⊢
  cases r with
  | stk => exact P1
  | ok p mu' =>
    intro v w' ex ok cr rv
    dsimp only at P1
    by_cases hb : (plainS sl1 && isD p && rbds mu1.length (mu'.take mu1.length)) = true
    case neg => rw [if_neg hb] at P1; exact P1.elim
    rw [if_pos hb] at P1
    simp only [Bool.and_eq_true] at hb
    obtain ⟨⟨b1, b2⟩, b3⟩ := hb
    obtain ⟨o1, o2⟩ := call_out F1 ex ok cr
    have P1 : ∀ w2, Ext w1 w2 → FRel S.T w2 σ sl1 (mu'.take mu1.length) → ∀ v, RepV S.T w2 p v → Q v w2.H := P1
    exact P1 _ (cut_ext F1 o1) (cut_rel F1 o1 o2 b1 b3) v (RepV.cutm p v (RepV.wrs p v rv) (rbd_D p b2))
  | exc e mu' =>
    intro cls d w' ex ok cr rx
    obtain ⟨o1, o2⟩ := call_out F1 ex ok cr
    refine P1 cls d (w'.wrs fun a => w1.wr a ∨ w'.wr a) o1 o2 ?_
    obtain ⟨c, fs, d', vs, r1, r0, r2, r3, r4, r5, r6, r7⟩ := rx
    exact ⟨c, fs, d', vs, r1, r0, r2, r3, r4, r5, r6, Reps.wrs fs vs r7⟩
theorem s_cfr (x0 : XOk S C sc fb X) (hc : C.hot = false) (tk : L2N.Takes X W) {f : Nat} {x : Str} {as : Exs} {es : List Expr} {p pos : Pos} (hi : C.fnm[f]? = some (some x)) (hv : glb sc x = true) (ho : okNm x = true) (ha : SA S W X as es) (hk : ckEs C sc fb as es = true) :
    SE S W X (.cfr f as) (.Call (.Name x p) es [] pos) := by
  obtain ⟨h1, _, _⟩ := okNm_of ho
  obtain ⟨a, k1, g1⟩ := x0.fa f x hi
  have gd := (x0.fns hc f a g1).gd
  obtain ⟨fd, ps, l, kl, k2, k3, k4⟩ := (x0.fns hc f a g1).ex
  have hr : Room l X.A := (x0.room hc).mono (by omega)
  cases es with
  | nil =>
    refine PE.imp (pe_S0 k4 gd hr (glb_of x0 hv) k1 k2 k3 (fun σ => L2N.passAt tk σ) h1) fun σ H Q h => ?_
    have h2 := cfr_wish h
    cases as with
    | nil =>
      obtain ⟨w, sl, mu, rfl, F, P⟩ := h2
      exact P w (Ext.refl w) F [] (by simp only [Reps])
    | cons _ _ => simp [ckEs] at hk
  | cons e es =>
    have hs := notStar_all hk
    exact PE.imp (pe_S k4 gd hr (glb_of x0 hv) k1 k2 k3 (fun σ => L2N.passAt tk σ) ha hs h1) fun σ H Q h => cfr_wish h
end
end RA

/-! Soundness: targets, what is walked. -/
namespace RA
open PySem L2

/-! ### targets -/
theorem wipe_in {σ : L2.St} {i : Nat} : ∀ {vs : List Nat}, i ∈ vs → i < σ.length → (L2.wipe σ vs)[i]? = some none
  | [], h, _ => by cases h
  | v :: vs, h, hl => by
    unfold L2.wipe
    by_cases e : v = i
    · subst e
      rw [List.getElem?_set_self (by rw [wipe_length]; exact hl)]
    · rw [List.getElem?_set_ne e]
      exact wipe_in ((List.mem_cons.mp h).elim (fun z => absurd z.symm e) id) hl
theorem wipe_set_in {σ : L2.St} {i : Nat} {v : Option V} {vs : List Nat} (h : i ∈ vs) : L2.wipe (σ.set i v) vs = L2.wipe σ vs := by
  refine List.ext_getElem? fun j => ?_
  by_cases hj : j ∈ vs
  · by_cases hl : j < σ.length
    · rw [wipe_in hj hl, wipe_in hj (by rw [List.length_set]; exact hl)]
    · rw [List.getElem?_eq_none (by rw [wipe_length, List.length_set]; omega), List.getElem?_eq_none (by rw [wipe_length]; omega)]
  · rw [wipe_out hj, wipe_out hj, List.getElem?_set_ne (by intro e; subst e; exact hj h)]
theorem FRel.set {T : Tb} {w : Wd} {σ : L2.St} {sl : List Sl} {mu : List PV} {p : PV} {v : V} (i : Nat) (F : FRel T w σ sl mu) (r : RepV T w p v) : FRel T w (σ.set i (some v)) (setS sl i p) mu := by
  have hl := F.len
  refine ⟨F.wok, by simp [setS, hl], fun j q hj => ?_, fun j q hj => ?_, fun j j' q q' a hj hj' s1 s2 => ?_, F.cel, fun j c fs hj => ?_⟩
  · unfold setS at hj
    by_cases e : i = j
    · subst e
      by_cases z : i < sl.length
      · rw [List.getElem?_set_self z] at hj
        cases hj
        exact ⟨v, by rw [List.getElem?_set_self (by omega)], r⟩
      · rw [List.getElem?_eq_none (by simp; omega)] at hj; cases hj
    · rw [List.getElem?_set_ne e] at hj
      rw [List.getElem?_set_ne e]
      exact F.va j q hj
  · unfold setS at hj
    by_cases e : i = j
    · subst e
      by_cases z : i < sl.length
      · rw [List.getElem?_set_self z] at hj
        cases hj
      · rw [List.getElem?_eq_none (by simp; omega)] at hj; cases hj
    · rw [List.getElem?_set_ne e] at hj
      rw [List.getElem?_set_ne e]
      exact F.ow j q hj
  · unfold setS at hj hj'
    have ne : ∀ {k : Nat} {q : PV}, (sl.set i (.va p))[k]? = some (.ow q) → i ≠ k := fun {k q} h e => by
      subst e
      by_cases z : i < sl.length
      · rw [List.getElem?_set_self z] at h
        cases h
      · rw [List.getElem?_eq_none (by simp; omega)] at h; cases h
    have n1 := ne hj
    have n2 := ne hj'
    rw [List.getElem?_set_ne n1] at hj s1
    rw [List.getElem?_set_ne n2] at hj' s2
    exact F.ows j j' q q' a hj hj' s1 s2
  · unfold setS at hj
    by_cases e : i = j
    · subst e
      by_cases z : i < sl.length
      · rw [List.getElem?_set_self z] at hj
        cases hj
      · rw [List.getElem?_eq_none (by simp; omega)] at hj; cases hj
    · rw [List.getElem?_set_ne e] at hj
      rw [List.getElem?_set_ne e]
      exact F.ex j c fs hj
def tG (T : Tb) (tg : Tg) : TG := fun x σ H R => ∃ w sl mu p s', w.H = H ∧ FRel T w σ sl mu ∧ RepV T w p x ∧ asg tg p sl = some s' ∧ ∀ σ', FRel T w σ' s' mu → (∀ vs : List Nat, (∀ i ∈ tg.sl, i ∈ vs) → L2.wipe σ' vs = L2.wipe σ vs) → R σ' H
theorem PG.imp {X : Cx} {e : Expr} {t t' : TG} (h : PG X e t) (f : ∀ v σ H Q, t' v σ H Q → t v σ H Q) : PG X e t' := ⟨fun pins s σ H v u Q I r q => h.run pins s σ H v u Q I r (f v σ H Q q)⟩
theorem asg_cons {e : Expr} {es : List Expr} {env : Env} (h : notStar e = true) : assignEach (e :: es) env = (false, assign e env) :: assignEach es env := by
  cases e <;> first | rfl | (simp [notStar] at h)
def tGs (T : Tb) (ts : Tgs) : TGs := fun xs σ H R => ∃ w sl mu l s', w.H = H ∧ FRel T w σ sl mu ∧ Reps T w l xs ∧ asgs ts l sl = some s' ∧ ∀ σ', FRel T w σ' s' mu → (∀ vs : List Nat, (∀ i ∈ ts.sls, i ∈ vs) → L2.wipe σ' vs = L2.wipe σ vs) → R σ' H
theorem PGs.imp {X : Cx} {e : List Expr} {t t' : TGs} (h : PGs X e t) (f : ∀ v σ H Q, t' v σ H Q → t v σ H Q) : PGs X e t' := ⟨fun pins s σ H v u Q I r q => h.run pins s σ H v u Q I r (f v σ H Q q)⟩
def Tgs.len : Tgs → Nat
  | .nil => 0
  | .cons _ ts => ts.len + 1
theorem asgs_len : ∀ {ts : Tgs} {l : List PV} {s s' : List Sl}, asgs ts l s = some s' → l.length = ts.len
  | .nil, l, s, s', h => by
    unfold asgs at h
    split at h
    · rfl
    · cases h
  | .cons t ts, l, s, s', h => by
    unfold asgs at h
    split at h
    · simp only [Option.bind_eq_some_iff] at h
      obtain ⟨s1, _, h2⟩ := h
      rw [List.length_cons, asgs_len h2]; rfl
    · cases h
section
variable {S : Gs} {C : Ck} {sc : Scope} {fb : Str → Bool} {X : Cx} {W : WX}
theorem gs_len {N : List Str} {env : Env} : ∀ {ts : Tgs} {es : List Expr}, ckGs N sc fb ts es = true → (assignEach es env).length = ts.len ∧ (assignEach es env).findIdx? (·.1) = none
  | .nil, es, h => by
    simp only [ckGs, List.isEmpty_iff] at h
    subst h
    exact ⟨rfl, rfl⟩
  | .cons t ts, es, h => by
    match es, h with
    | e :: es, h =>
      simp only [ckGs, Bool.and_eq_true] at h
      obtain ⟨h1, h2⟩ := gs_len (env := env) h.2
      rw [asg_cons h.1.2]
      refine ⟨by rw [List.length_cons, h1]; rfl, ?_⟩
      rw [List.findIdx?_cons]
      simp [h2]
    | [], h => simp [ckGs] at h
theorem pg_tupA {es : List Expr} {kk n : Nat} {t : TGs} {pos : Pos} (x0 : XOk S C sc fb X) (h : PGs X es t) (hn : (assignEach es X.env).length = n) (hst : (assignEach es X.env).findIdx? (·.1) = none) : PG X (.Tuple es kk pos) (gTup X.K n t) := by
  cases hc : C.hot with
  | false => exact pg_tup (x0.calm hc) h hn hst
  | true => exact pg_tupH (x0.hotc hc) h hn hst
mutual
theorem s_tg (x0 : XOk S C sc fb X) : ∀ (tg : Tg) (e : Expr), ckG C.N sc fb tg e = true → PG X e (tG S.T tg)
  | .nm i, e, h => by
    cases e <;> simp only [ckG, Bool.false_eq_true, Bool.and_eq_true, decide_eq_true_eq] at h
    obtain ⟨⟨h1, h2⟩, h3⟩ := h
    obtain ⟨k1, k2⟩ := loc_of x0 h2
    refine PG.imp (pg_name x0.nd (by rw [x0.N]; exact h1) k1 k2) fun v σ H Q q => ?_
    obtain ⟨w, sl, mu, p, s', rfl, F, r, ha, k⟩ := q
    simp only [asg, Option.some.injEq] at ha
    subst ha
    exact k _ (F.set i r) fun vs hv => wipe_set_in (hv i (by simp [Tg.sl]))
  | .tp ts, e, h => by
    cases e <;> simp only [ckG, Bool.false_eq_true] at h
    obtain ⟨l1, l2⟩ := gs_len (env := X.env) h
    refine PG.imp (pg_tupA (n := ts.len) x0 (s_tgs x0 ts _ h) l1 l2) fun v σ H Q q => ?_
    obtain ⟨w, sl, mu, p, s', rfl, F, r, ha, k⟩ := q
    unfold asg at ha
    cases p with
    | tup l =>
      simp only [RepV] at r
      obtain ⟨ad, xs, rfl, hs, rx⟩ := r
      rw [x0.hK] at hs
      exact ⟨ad, xs, rfl, hs.sq, by rw [← rx.len]; exact asgs_len ha, w, sl, mu, l, s', rfl, F, rx, ha, fun σ' F' hw => k σ' F' fun vs hv => hw vs fun i hi => hv i (by simpa [Tg.sl] using hi)⟩
    | _ => simp at ha
theorem s_tgs (x0 : XOk S C sc fb X) : ∀ (ts : Tgs) (es : List Expr), ckGs C.N sc fb ts es = true → PGs X es (tGs S.T ts)
  | .nil, es, h => by
    simp only [ckGs, List.isEmpty_iff] at h
    subst h
    refine PGs.imp pgs_nil fun v σ H Q q => ?_
    obtain ⟨w, sl, mu, l, s', rfl, F, r, ha, k⟩ := q
    unfold asgs at ha
    split at ha
    · cases ha
      simp only [Reps] at r
      exact ⟨r, k σ F fun _ _ => rfl⟩
    · cases ha
  | .cons t ts, es, h => by
    match es, h with
    | e :: es, h =>
      simp only [ckGs, Bool.and_eq_true] at h
      obtain ⟨⟨h1, h2⟩, h3⟩ := h
      refine PGs.imp (pgs_cons (s_tg x0 t e h1) (s_tgs x0 ts es h3) (by rw [asg_cons h2]; rfl)) fun v σ H Q q => ?_
      obtain ⟨w, sl, mu, l, s', rfl, F, r, ha, k⟩ := q
      unfold asgs at ha
      split at ha
      · rename_i x rl
        simp only [Option.bind_eq_some_iff] at ha
        obtain ⟨s1, ha1, ha2⟩ := ha
        simp only [Reps] at r
        obtain ⟨v1, vr, rfl, r1, r2⟩ := r
        refine ⟨v1, vr, rfl, w, sl, mu, x, s1, rfl, F, r1, ha1, fun σ1 F1 w1 => ⟨w, s1, mu, rl, s', rfl, F1, r2, ha2, fun σ2 F2 w2 => k σ2 F2 fun vs hv => ?_⟩⟩
        rw [w2 vs fun i hi => hv i (by simp [Tgs.sls, hi]), w1 vs fun i hi => hv i (by simp [Tgs.sls, hi])]
      · cases ha
    | [], h => simp [ckGs] at h
end
end

/-! ### what is walked -/
structure IWalk (T : Tb) (w : Wd) (J : L2.It) (ps : List PV) : Prop where
  go : ∀ (i : Nat) p w', Ext w w' → ps[i]? = some p → J.go i w'.H
  yld : ∀ (i : Nat) p w' x H', Ext w w' → WOk w' → ps[i]? = some p → J.yld i w'.H x H' → ∃ w'', w''.H = H' ∧ (w'' = w' ∨ ∃ a o, w'.H a = none ∧ w'' = w'.put a o) ∧ RepV T w'' p x
  stop : ∀ w', Ext w w' → J.stop ps.length w'.H
/-- a source that stays -/
structure Stays (T : Tb) (w : Wd) (r : Src) (ps : List PV) (xs : List V) : Prop where
  has : ∀ w', Ext w w' → r.has T.K w'.H xs
  reps : ∀ w', Ext w w' → Reps T w' ps xs
theorem walk_of {T : Tb} {w : Wd} (ok : WOk w) {p : PV} {v : V} {ps : List PV} (r : RepV T w p v) (h : items p = some ps) : ∃ xs P, Walk T.K w.H v xs P ∧ ∀ q : Src, P q → Stays T w q ps xs := by
  unfold items at h
  split at h <;> simp only [Option.some.injEq, reduceCtorEq] at h
  · subst h
    simp only [RepV] at r
    obtain ⟨a, xs, rfl, h1, h2⟩ := r
    exact ⟨xs, _, .t h1.sq, fun q e => e ▸ ⟨fun w' ex => (h1.ext ok ex).sq, fun w' ex => Reps.ext ok ex _ _ h2⟩⟩
  · subst h
    have r' := r
    simp only [RepV] at r
    obtain ⟨a, xs, rfl, h1, h2, h3⟩ := r
    exact ⟨xs, _, .l (SqL.of h1), fun q e => e ▸ ⟨fun w' ex => SqL.of (ex.kept ok h1 h2).1, fun w' ex => Reps.ext ok ex _ _ h3⟩⟩
  · subst h
    simp only [RepV] at r
    obtain ⟨rfl, h1⟩ := r
    rename_i x
    refine ⟨_, _, .s, fun q e => ?_⟩
    obtain ⟨t, rfl⟩ := e
    exact ⟨fun w' ex => rfl, fun w' ex => charsReps x⟩
theorem IWalk.one {T : Tb} {w : Wd} {r : Src} {ps : List PV} {xs : List V} (s : Stays T w r ps xs) : IWalk T w (ItO T.K r) ps where
  go := fun i p w' ex h => by
    obtain ⟨v, hv, _⟩ := (s.reps w' ex).get h
    exact ⟨xs, v, s.has w' ex, hv⟩
  yld := fun i p w' x H' ex ok h y => by
    obtain ⟨v, hv, rv⟩ := (s.reps w' ex).get h
    obtain ⟨rfl, y⟩ := y
    have := y xs (s.has w' ex)
    rw [hv] at this; cases this
    exact ⟨w', rfl, .inl rfl, rv⟩
  stop := fun w' ex => ⟨xs, s.has w' ex, (s.reps w' ex).len⟩
theorem put_tup {T : Tb} {w : Wd} {a : Addr} {ps : List PV} {vs : List V} {O : Obj} (ok : WOk w) (ha : w.H a = none) (hO : TPl O) (r : Reps T w ps vs) : RepV T (w.put a (.frz O (.tup vs))) (.tup ps) (.ref a) := by
  simp only [RepV]
  exact ⟨a, vs, rfl, .inl ⟨O, hO, (by show upd w.H a _ a = _; rw [upd_same]), fun z => ok.mtr a z ha⟩, Reps.ext ok (Wd.put_ext ha) _ _ r⟩
theorem zipP_len : ∀ (l r : List PV), (zipP l r).length = min l.length r.length
  | [], r => by simp [zipP]
  | x :: l, [] => by simp [zipP]
  | x :: l, y :: r => by simp only [zipP, List.length_cons, zipP_len l r]; omega
theorem zipP_get : ∀ {l r : List PV} {i : Nat} {p : PV}, (zipP l r)[i]? = some p → ∃ x y, l[i]? = some x ∧ r[i]? = some y ∧ p = .tup [x, y]
  | [], r, i, p, h => by simp [zipP] at h
  | x :: l, [], i, p, h => by simp [zipP] at h
  | x :: l, y :: r, 0, p, h => by simp [zipP] at h; exact ⟨x, y, rfl, rfl, h.symm⟩
  | x :: l, y :: r, i + 1, p, h => by simpa using zipP_get (l := l) (r := r) (i := i) (p := p) (by simpa [zipP] using h)
theorem IWalk.zip {T : Tb} {w : Wd} {r1 r2 : Src} {ps qs : List PV} {xs ys : List V} (s : Stays T w r1 ps xs) (t : Stays T w r2 qs ys) : IWalk T w (ItZ T.K r1 r2) (zipP ps qs) where
  go := fun i p w' ex h => by
    obtain ⟨p1, p2, h1, h2, rfl⟩ := zipP_get h
    obtain ⟨v, hv, _⟩ := (s.reps w' ex).get h1
    obtain ⟨u, hu, _⟩ := (t.reps w' ex).get h2
    exact ⟨xs, ys, v, u, s.has w' ex, t.has w' ex, hv, hu⟩
  yld := fun i p w' x H' ex ok h y => by
    obtain ⟨p1, p2, h1, h2, rfl⟩ := zipP_get h
    obtain ⟨v, hv, rv⟩ := (s.reps w' ex).get h1
    obtain ⟨u, hu, ru⟩ := (t.reps w' ex).get h2
    obtain ⟨a, O, x1, x2, rfl, ha, hO, rfl, y1, y2⟩ := y
    have e1 := y1 xs (s.has w' ex)
    have e2 := y2 ys (t.has w' ex)
    rw [hv] at e1; cases e1
    rw [hu] at e2; cases e2
    exact ⟨w'.put a _, rfl, .inr ⟨a, _, ha, rfl⟩, put_tup ok ha hO (by simp only [Reps]; exact ⟨_, _, rfl, rv, _, _, rfl, ru, rfl⟩)⟩
  stop := fun w' ex => by
    have l1 := (s.reps w' ex).len
    have l2 := (t.reps w' ex).len
    have l3 := zipP_len ps qs
    exact ⟨xs, ys, s.has w' ex, t.has w' ex, by omega, by omega, by omega⟩
theorem enum_get : ∀ {l : List PV} {k i : Nat} {p : PV}, (enum k l)[i]? = some p → ∃ x, l[i]? = some x ∧ p = .tup [.int ((k + i : Nat) : Int), x]
  | [], k, i, p, h => by simp [enum] at h
  | x :: l, k, 0, p, h => by simp [enum] at h; exact ⟨x, rfl, by rw [← h]; simp⟩
  | x :: l, k, i + 1, p, h => by
    obtain ⟨y, h1, h2⟩ := enum_get (l := l) (k := k + 1) (i := i) (p := p) (by simpa [enum] using h)
    exact ⟨y, by simpa using h1, by rw [h2]; congr 3; congr 1; omega⟩
theorem enum_len : ∀ (l : List PV) (k : Nat), (enum k l).length = l.length
  | [], k => rfl
  | x :: l, k => by simp only [enum, List.length_cons, enum_len l]
theorem IWalk.enum {T : Tb} {w : Wd} {r : Src} {ps : List PV} {xs : List V} (s : Stays T w r ps xs) : IWalk T w (ItE T.K r 0) (RA.enum 0 ps) where
  go := fun i p w' ex h => by
    obtain ⟨p1, h1, rfl⟩ := enum_get h
    obtain ⟨v, hv, _⟩ := (s.reps w' ex).get h1
    exact ⟨xs, v, s.has w' ex, hv⟩
  yld := fun i p w' x H' ex ok h y => by
    obtain ⟨p1, h1, rfl⟩ := enum_get h
    obtain ⟨v, hv, rv⟩ := (s.reps w' ex).get h1
    obtain ⟨a, O, x1, rfl, ha, hO, rfl, y1⟩ := y
    have e1 := y1 xs (s.has w' ex)
    rw [hv] at e1; cases e1
    exact ⟨w'.put a _, rfl, .inr ⟨a, _, ha, rfl⟩, put_tup ok ha hO (by simp only [Reps, RepV]; exact ⟨_, _, rfl, by congr 1, _, _, rfl, rv, rfl⟩)⟩
  stop := fun w' ex => ⟨xs, s.has w' ex, by rw [enum_len]; exact (s.reps w' ex).len⟩
theorem IWalk.enumk {T : Tb} {w : Wd} {r : Src} {k : Nat} {ps : List PV} {xs : List V} (s : Stays T w r ps xs) : IWalk T w (ItE T.K r (k : Int)) (RA.enum k ps) where
  go := fun i p w' ex h => by
    obtain ⟨p1, h1, rfl⟩ := enum_get h
    obtain ⟨v, hv, _⟩ := (s.reps w' ex).get h1
    exact ⟨xs, v, s.has w' ex, hv⟩
  yld := fun i p w' x H' ex ok h y => by
    obtain ⟨p1, h1, rfl⟩ := enum_get h
    obtain ⟨v, hv, rv⟩ := (s.reps w' ex).get h1
    obtain ⟨a, O, x1, rfl, ha, hO, rfl, y1⟩ := y
    have e1 := y1 xs (s.has w' ex)
    rw [hv] at e1; cases e1
    exact ⟨w'.put a _, rfl, .inr ⟨a, _, ha, rfl⟩, put_tup ok ha hO (by simp only [Reps, RepV]; exact ⟨_, _, rfl, by rw [Int.natCast_add], _, _, rfl, rv, rfl⟩)⟩
  stop := fun w' ex => ⟨xs, s.has w' ex, by rw [enum_len]; exact (s.reps w' ex).len⟩
theorem IWalk.rng {T : Tb} {w : Wd} {lo : Int} {n : Nat} : IWalk T w (Itr lo n) ((List.range n).map fun (i : Nat) => PV.int (lo + (i : Int))) where
  go := fun i p w' ex h => by
    have := (List.getElem?_eq_some_iff.mp h).1
    show i < n
    simpa using this
  yld := fun i p w' x H' ex ok h y => by
    obtain ⟨rfl, rfl⟩ := y
    refine ⟨w', rfl, .inl rfl, ?_⟩
    obtain ⟨hl, he⟩ := List.getElem?_eq_some_iff.mp h
    simp only [List.getElem_map, List.getElem_range] at he
    subst he
    simp only [RepV]
  stop := fun w' ex => by show n ≤ _; simp

/-- the reading of what is walked -/
def tI (T : Tb) (Cl : Nat → Value) (W : WX) (m : List Sl → List PV → Res (List PV)) : TI := fun σ H R => ∃ w sl mu, w.H = H ∧ FRel T w σ sl mu ∧ Pst T Cl W σ w (m sl mu) fun ps _ _ w' => ∀ J : L2.It, IWalk T w' J ps → R J w'.H
theorem PI.imp {X : Cx} {tg e : Expr} {t t' : TI} (h : PI X tg e t) (f : ∀ σ H R, t' σ H R → t σ H R) : PI X tg e t' := ⟨fun pins s σ H R I q => h.run pins s σ H R I (f σ H R q)⟩
section
variable {S : Gs} {C : Ck} {sc : Scope} {fb : Str → Bool} {X : Cx} {W : WX}
abbrev sI (S : Gs) (i : It) : List Sl → List PV → Res (List PV) := evi S.G S.cf i
def SI (S : Gs) (W : WX) (X : Cx) (i : It) (tg e : Expr) : Prop := PI X tg e (tI S.T S.C W (sI S i))
def SIH (S : Gs) (W : WX) (X : Cx) (i : It) (tg e : Expr) : Prop := L2H.PIH X tg e (tI S.T S.C W (sI S i))
theorem PIH.imp {X : Cx} {tg e : Expr} {t t' : TI} (h : L2H.PIH X tg e t) (f : ∀ σ H R, t' σ H R → t σ H R) : L2H.PIH X tg e t' := ⟨fun pins s σ H R I q => h.run pins s σ H R I (f σ H R q)⟩
theorem i_val (x0 : XOk S C sc fb X) {a : Ex} {e tg : Expr} (ha : SE S W X a e) : SI S W X (.val a) tg e := by
  refine PI.imp (pi_walk ha) fun σ H R h => ?_
  obtain ⟨w, sl, mu, hH, F, P⟩ := h
  refine tE.bnd hH F P fun p v sl1 mu1 w1 e1 F1 rv P1 => ?_
  obtain ⟨ps, hz, h⟩ := P1.lift
  obtain ⟨xs, PP, hw, st⟩ := walk_of F1.wok rv hz
  rw [x0.hK] at hw
  have k := h w1 (Ext.refl w1) F1
  refine ⟨xs, PP, hw, fun r hr => ?_⟩
  have z := k _ (IWalk.one (st r hr))
  rw [x0.hK] at z
  exact z
theorem i_rg1 (x0 : XOk S C sc fb X) {a : Ex} {x tg : Expr} {p pos : Pos} (ha : SE S W X a x) (hv : glb sc "range" = true) (hs : notStar x = true) : SI S W X (.rg1 a) tg (.Call (.Name "range" p) [x] [] pos) := by
  refine PI.imp (pi_range1 (glb_of x0 hv) (x0.blt _ (by decide +kernel)) (pa_cons ha pa_nil (star_cons hs)) (star_cons hs)) fun σ H R h => ?_
  obtain ⟨w, sl, mu, hH, F, P⟩ := h
  refine tE.bnd hH F P fun p v sl1 mu1 w1 e1 F1 rv P1 => ?_
  obtain ⟨ps, hz, h⟩ := P1.lift
  split at hz
  · simp only [RepV] at rv
    subst rv
    unfold RA.rng at hz
    split at hz
    · rename_i j hj
      cases hz
      refine ⟨j, rfl, by have := hj.2; omega, by have := hj.2; omega, ?_⟩
      have k := h w1 (Ext.refl w1) F1 _ IWalk.rng
      simpa using k
    · cases hz
  · cases hz
theorem i_rg2 (x0 : XOk S C sc fb X) {a b : Ex} {x y tg : Expr} {p pos : Pos} (ha : SE S W X a x) (hb : SE S W X b y) (hv : glb sc "range" = true) (hs : notStar x = true) (hs2 : notStar y = true) : SI S W X (.rg2 a b) tg (.Call (.Name "range" p) [x, y] [] pos) := by
  refine PI.imp (pi_range2 (glb_of x0 hv) (x0.blt _ (by decide +kernel)) (pa_cons ha (pa_cons hb pa_nil (star_cons hs2)) (star_cons hs)) (by rw [star_cons hs, star_cons hs2]; rfl) (star_cons hs2)) fun σ H R h => ?_
  obtain ⟨w, sl, mu, hH, F, P⟩ := h
  simp only [iRng2, tCons]
  refine tE.bnd hH F P fun p v sl1 mu1 w1 e1 F1 rv P1 => ?_
  refine tE.bnd rfl F1 P1 fun q u sl2 mu2 w2 e2 F2 ru P2 => ?_
  obtain ⟨ps, hz, h⟩ := P2.lift
  split at hz
  · simp only [RepV] at rv ru
    subst rv ru
    unfold RA.rng at hz
    split at hz
    · rename_i i j hj
      cases hz
      refine ⟨i, j, rfl, by have := hj.2; omega, ?_⟩
      exact h w2 (Ext.refl w2) F2 _ IWalk.rng
    · cases hz
  · cases hz
theorem i_enu (x0 : XOk S C sc fb X) {a : Ex} {x : Expr} {elts : List Expr} {kk : Nat} {tpos p pos : Pos} (ha : SE S W X a x) (hv : glb sc "enumerate" = true) (hs : notStar x = true) : SI S W X (.enu a) (.Tuple elts kk tpos) (.Call (.Name "enumerate" p) [x] [] pos) := by
  refine PI.imp (pi_enumW (glb_of x0 hv) (x0.blt _ (by decide +kernel)) (pa_cons ha pa_nil (star_cons hs)) (star_cons hs)) fun σ H R h => ?_
  obtain ⟨w, sl, mu, hH, F, P⟩ := h
  refine tE.bnd hH F P fun p v sl1 mu1 w1 e1 F1 rv P1 => ?_
  obtain ⟨ps, hz, h⟩ := P1.lift
  simp only [Option.map_eq_some_iff] at hz
  obtain ⟨l, hl, rfl⟩ := hz
  obtain ⟨xs, PP, hw, st⟩ := walk_of F1.wok rv hl
  rw [x0.hK] at hw
  refine ⟨v, xs, PP, rfl, hw, fun r hr => ?_⟩
  have z := h w1 (Ext.refl w1) F1 _ (IWalk.enum (st r hr))
  rw [x0.hK] at z
  exact z
theorem i_enk (x0 : XOk S C sc fb X) {a : Ex} {x : Expr} {elts : List Expr} {kk k : Nat} {j kz} {tpos p pos pz : Pos} (hj : j = (k : Int)) (hk : k ≤ 1000000) (ha : SE S W X a x) (hv : glb sc "enumerate" = true) (hs : notStar x = true) : SI S W X (.enk k a) (.Tuple elts kk tpos) (.Call (.Name "enumerate" p) [x, .Constant (.int j) kz pz] [] pos) := by
  subst hj
  refine PI.imp (pi_enumWk (k := k) hk (glb_of x0 hv) (x0.blt _ (by decide +kernel)) (pa_cons ha (pa_cons pe_int pa_nil rfl) (star_cons hs)) (star_cons hs) rfl) fun σ H R h => ?_
  obtain ⟨w, sl, mu, hH, F, P⟩ := h
  refine tE.bnd hH F P fun p v sl1 mu1 w1 e1 F1 rv P1 => ?_
  obtain ⟨ps, hz, h⟩ := P1.lift
  simp only [Option.map_eq_some_iff] at hz
  obtain ⟨l, hl, rfl⟩ := hz
  obtain ⟨xs, PP, hw, st⟩ := walk_of F1.wok rv hl
  rw [x0.hK] at hw
  refine ⟨v, xs, PP, rfl, hw, fun r hr => ?_⟩
  have z := h w1 (Ext.refl w1) F1 _ (IWalk.enumk (st r hr))
  rw [x0.hK] at z
  exact z
theorem i_zip (x0 : XOk S C sc fb X) {a b : Ex} {x y : Expr} {elts : List Expr} {kk : Nat} {tpos p pos : Pos} (ha : SE S W X a x) (hb : SE S W X b y) (hv : glb sc "zip" = true) (hs : notStar x = true) (hs2 : notStar y = true) : SI S W X (.zip a b) (.Tuple elts kk tpos) (.Call (.Name "zip" p) [x, y] [] pos) := by
  refine PI.imp (pi_zipW (glb_of x0 hv) (x0.blt _ (by decide +kernel)) (pa_cons ha (pa_cons hb pa_nil (star_cons hs2)) (star_cons hs)) (star_cons hs) (by rw [star_cons hs2]; rfl)) fun σ H R h => ?_
  obtain ⟨w, sl, mu, hH, F, P⟩ := h
  simp only [iZipW, tCons]
  refine tE.bnd hH F P fun p v sl1 mu1 w1 e1 F1 rv P1 => ?_
  refine tE.bnd rfl F1 P1 fun q u sl2 mu2 w2 e2 F2 ru P2 => ?_
  obtain ⟨ps, hz, h⟩ := P2.lift
  simp only [Option.bind_eq_some_iff, Option.map_eq_some_iff] at hz
  obtain ⟨l, hl, r, hr, rfl⟩ := hz
  obtain ⟨xs, PP, hw, st⟩ := walk_of F2.wok (RepV.ext F1.wok e2 _ _ rv) hl
  obtain ⟨ys, QQ, hw2, st2⟩ := walk_of F2.wok ru hr
  rw [x0.hK] at hw hw2
  refine ⟨v, u, xs, ys, PP, QQ, rfl, hw, hw2, fun r1 r2 m1 m2 => ?_⟩
  have z := h w2 (Ext.refl w2) F2 _ (IWalk.zip (st r1 m1) (st2 r2 m2))
  rw [x0.hK] at z
  exact z
theorem i_valH (x0 : XOk S C sc fb X) {a : Ex} {e tg : Expr} (ha : SE S W X a e) : SIH S W X (.val a) tg e := by
  refine PIH.imp (pi_walkH ha) fun σ H R h => ?_
  obtain ⟨w, sl, mu, hH, F, P⟩ := h
  refine tE.bnd hH F P fun p v sl1 mu1 w1 e1 F1 rv P1 => ?_
  obtain ⟨ps, hz, h⟩ := P1.lift
  obtain ⟨xs, PP, hw, st⟩ := walk_of F1.wok rv hz
  rw [x0.hK] at hw
  have k := h w1 (Ext.refl w1) F1
  refine ⟨xs, PP, hw, fun r hr => ?_⟩
  have z := k _ (IWalk.one (st r hr))
  rw [x0.hK] at z
  exact z
theorem i_rg1H (x0 : XOk S C sc fb X) {a : Ex} {x tg : Expr} {p pos : Pos} (ha : SE S W X a x) (hv : glb sc "range" = true) (hs : notStar x = true) : SIH S W X (.rg1 a) tg (.Call (.Name "range" p) [x] [] pos) := by
  refine PIH.imp (L2H.pi_range1H (glb_of x0 hv) (x0.blt _ (by decide +kernel)) (pa_cons ha pa_nil (star_cons hs)) (star_cons hs)) fun σ H R h => ?_
  obtain ⟨w, sl, mu, hH, F, P⟩ := h
  refine tE.bnd hH F P fun p v sl1 mu1 w1 e1 F1 rv P1 => ?_
  obtain ⟨ps, hz, h⟩ := P1.lift
  split at hz
  · simp only [RepV] at rv
    subst rv
    unfold RA.rng at hz
    split at hz
    · rename_i j hj
      cases hz
      refine ⟨j, rfl, by have := hj.2; omega, by have := hj.2; omega, ?_⟩
      have k := h w1 (Ext.refl w1) F1 _ IWalk.rng
      simpa using k
    · cases hz
  · cases hz
theorem i_zipH (x0 : XOk S C sc fb X) {a b : Ex} {x y : Expr} {elts : List Expr} {kk : Nat} {tpos p pos : Pos} (ha : SE S W X a x) (hb : SE S W X b y) (hv : glb sc "zip" = true) (hs : notStar x = true) (hs2 : notStar y = true) : SIH S W X (.zip a b) (.Tuple elts kk tpos) (.Call (.Name "zip" p) [x, y] [] pos) := by
  refine PIH.imp (pi_zipH (glb_of x0 hv) (x0.blt _ (by decide +kernel)) (pa_cons ha (pa_cons hb pa_nil (star_cons hs2)) (star_cons hs)) (star_cons hs) (by rw [star_cons hs2]; rfl)) fun σ H R h => ?_
  obtain ⟨w, sl, mu, hH, F, P⟩ := h
  simp only [iZipW, tCons]
  refine tE.bnd hH F P fun p v sl1 mu1 w1 e1 F1 rv P1 => ?_
  refine tE.bnd rfl F1 P1 fun q u sl2 mu2 w2 e2 F2 ru P2 => ?_
  obtain ⟨ps, hz, h⟩ := P2.lift
  simp only [Option.bind_eq_some_iff, Option.map_eq_some_iff] at hz
  obtain ⟨l, hl, r, hr, rfl⟩ := hz
  obtain ⟨xs, PP, hw, st⟩ := walk_of F2.wok (RepV.ext F1.wok e2 _ _ rv) hl
  obtain ⟨ys, QQ, hw2, st2⟩ := walk_of F2.wok ru hr
  rw [x0.hK] at hw hw2
  refine ⟨v, u, xs, ys, PP, QQ, rfl, hw, hw2, fun r1 r2 m1 m2 => ?_⟩
  have z := h w2 (Ext.refl w2) F2 _ (IWalk.zip (st r1 m1) (st2 r2 m2))
  rw [x0.hK] at z
  exact z
theorem rgV_reps {T : Tb} {w : Wd} {lo hi : Int} : Reps T w ((List.range (hi - lo).toNat).map fun (i : Nat) => PV.int (lo + (i : Int))) (rgV lo hi) := by
  have : ∀ l : List Nat, Reps T w (l.map fun (i : Nat) => PV.int (lo + (i : Int))) (l.map fun (i : Nat) => V.int (lo + (i : Int))) := fun l => by
    induction l with
    | nil => simp [Reps]
    | cons a l ih => simp only [List.map_cons, Reps, RepV]; exact ⟨_, _, rfl, rfl, ih⟩
  exact this _
theorem pe_listRgA {e : Expr} {te : L2.St → Hp → (Int → Int → Hp → Prop) → Prop} {p pos : Pos} (x0 : XOk S C sc fb X) (hg : Gl X "list") (hm : X.mg "list" = none) (he : PRg X e te) (na : starEach [e] X.env = (false, eval e X.env) :: starEach [] X.env := by rfl) : PE X (.Call (.Name "list" p) [e] [] pos) (tLstRg te) := by
  cases hc : C.hot with
  | false => exact pe_listRg (x0.calm hc) hg hm he na
  | true => exact pe_lrgH (x0.hotc hc) hg hm he na
theorem s_lrg1 (x0 : XOk S C sc fb X) {a : Ex} {x : Expr} {p pos p2 pos2 : Pos} (ha : SE S W X a x) (hv : glb sc "range" = true) (hl : glb sc "list" = true) (hs : notStar x = true) : SE S W X (.lrg (.rg1 a)) (.Call (.Name "list" p2) [.Call (.Name "range" p) [x] [] pos] [] pos2) := by
  refine PE.imp (pe_listRgA x0 (glb_of x0 hl) (x0.blt _ (by decide +kernel)) (prg_1 (glb_of x0 hv) (x0.blt _ (by decide +kernel)) ha (star_cons hs))) fun σ H Q h => ?_
  obtain ⟨w, sl, mu, hH, F, P⟩ := h
  have P : Pst S.T S.C W σ w (((sE S a sl mu).bnd fun x s m => lift (match x with | .int j => RA.rng 0 j | _ => none) s m).bnd fun xs s m => .ok (PV.lst xs) s m) (QE S.T Q) := P
  have P' := P.bnd F.wok
  simp only [tLstRg, tRg1]
  refine tE.bnd hH F P' fun p v sl1 mu1 w1 e1 F1 rv P1 => ?_
  obtain ⟨ps, hz, h⟩ := P1.lift
  split at hz
  · simp only [RepV] at rv
    subst rv
    unfold RA.rng at hz
    split at hz
    · rename_i j hj
      cases hz
      refine ⟨j, rfl, ⟨by omega, by omega, by have := hj.2; omega, by have := hj.2; omega, by have := hj.1; simp at this ⊢; omega⟩, fun q hq => ?_⟩
      exact P2.lst F1 (h w1 (Ext.refl w1) F1) rgV_reps hq
    · cases hz
  · cases hz
theorem s_lrg2 (x0 : XOk S C sc fb X) {a b : Ex} {x y : Expr} {p pos p2 pos2 : Pos} (ha : SE S W X a x) (hb : SE S W X b y) (hv : glb sc "range" = true) (hl : glb sc "list" = true) (hs : notStar x = true) (hs2 : notStar y = true) : SE S W X (.lrg (.rg2 a b)) (.Call (.Name "list" p2) [.Call (.Name "range" p) [x, y] [] pos] [] pos2) := by
  refine PE.imp (pe_listRgA x0 (glb_of x0 hl) (x0.blt _ (by decide +kernel)) (prg_2 (glb_of x0 hv) (x0.blt _ (by decide +kernel)) ha hb (star_cons hs) (star_cons hs2) (by rw [star_cons hs2]; rfl))) fun σ H Q h => ?_
  obtain ⟨w, sl, mu, hH, F, P⟩ := h
  have P : Pst S.T S.C W σ w (((sE S a sl mu).bnd fun x s m => (sE S b s m).bnd fun y s m => lift (match x, y with | .int i, .int j => RA.rng i j | _, _ => none) s m).bnd fun xs s m => .ok (PV.lst xs) s m) (QE S.T Q) := P
  have P' := P.bnd F.wok
  simp only [tLstRg, tRg2]
  refine tE.bnd hH F P' fun p v sl1 mu1 w1 e1 F1 rv P1 => ?_
  refine tE.bnd rfl F1 P1 fun q u sl2 mu2 w2 e2 F2 ru PP => ?_
  obtain ⟨ps, hz, h⟩ := PP.lift
  split at hz
  · simp only [RepV] at rv ru
    subst rv ru
    unfold RA.rng at hz
    split at hz
    · rename_i i j hj
      cases hz
      refine ⟨i, j, rfl, rfl, ⟨by have := hj.2; omega, by have := hj.2; omega, by have := hj.2; omega, by have := hj.2; omega, by have := hj.1; simp at this ⊢; omega⟩, fun q hq => ?_⟩
      exact P2.lst F2 (h w2 (Ext.refl w2) F2) rgV_reps hq
    · cases hz
  · cases hz
end
end RA

/-! Soundness: comprehensions. -/
namespace RA
open PySem L2

theorem Res.bnd_assoc {α β γ : Type} (r : Res α) (f : α → List Sl → List PV → Res β) (g : β → List Sl → List PV → Res γ) : (r.bnd f).bnd g = r.bnd fun a s m => (f a s m).bnd g := by cases r <;> rfl
/-- what a result wishes for that never raises, seen from a world -/
def Pk {α : Type} (T : Tb) (τ : L2.St) (w : Wd) (r : Res α) (Q : α → List Sl → List PV → Wd → Prop) : Prop :=
  match r with
  | .ok a sl mu => ∀ w', Ext w w' → FRel T w' τ sl mu → Q a sl mu w'
  | _ => False
theorem Pk.bnd {α β : Type} {T : Tb} {Cl : Nat → Value} {W : WX} {τ : L2.St} {w0 : Wd} {r : Res α} {f : α → List Sl → List PV → Res β} {Q : β → List Sl → List PV → Wd → Prop} (h : Pk T τ w0 (r.bnd f) Q) (σ : L2.St) (w : Wd) :
    Pst T Cl W σ w r fun a sl mu _ => Pk T τ w0 (f a sl mu) Q := by
  cases r with
  | stk => exact h
  | ok a sl mu => exact fun w' _ _ => h
  | exc x sl mu => exact h.elim
theorem Pk.map {α β : Type} {T : Tb} {τ : L2.St} {w0 : Wd} {r : Res α} {f : α → β} {Q : β → List Sl → List PV → Wd → Prop} (h : Pk T τ w0 (r.bnd fun a s m => .ok (f a) s m) Q) : Pk T τ w0 r fun a sl mu w' => Q (f a) sl mu w' := by
  cases r with
  | stk => exact h
  | ok a sl mu => exact h
  | exc x sl mu => exact h

theorem wipeS_len (s : List Sl) : ∀ vs : List Nat, (RA.wipe s vs).length = s.length
  | [] => rfl
  | v :: vs => by unfold RA.wipe; rw [List.length_set, wipeS_len s vs]
theorem wipeS_some {s : List Sl} {i : Nat} {x : Sl} (hx : x ≠ .un) : ∀ {vs : List Nat}, (RA.wipe s vs)[i]? = some x → s[i]? = some x ∧ i ∉ vs
  | [], h => ⟨h, by simp⟩
  | v :: vs, h => by
    unfold RA.wipe at h
    by_cases hi : v = i
    · subst hi
      by_cases hv : v < (RA.wipe s vs).length
      · rw [List.getElem?_set_self hv] at h; cases h; exact absurd rfl hx
      · rw [List.getElem?_eq_none (by simpa using hv)] at h; cases h
    · rw [List.getElem?_set_ne hi] at h
      obtain ⟨h1, h2⟩ := wipeS_some hx h
      exact ⟨h1, by simp only [List.mem_cons, not_or]; exact ⟨fun e => hi e.symm, h2⟩⟩
theorem rest_len (s0 s : List Sl) : ∀ vs : List Nat, (rest s0 s vs).length = s.length
  | [] => rfl
  | v :: vs => by unfold rest; rw [List.length_set, rest_len s0 s vs]
theorem rest_some {s0 s : List Sl} {i : Nat} {x : Sl} (hx : x ≠ .un) : ∀ {vs : List Nat}, (rest s0 s vs)[i]? = some x → (i ∉ vs ∧ s[i]? = some x) ∨ (∃ p, x = .va p ∧ s0[i]? = some (.va p))
  | [], h => .inl ⟨by simp, h⟩
  | v :: vs, h => by
    unfold rest at h
    by_cases hi : v = i
    · subst hi
      by_cases hv : v < (rest s0 s vs).length
      · rw [List.getElem?_set_self hv] at h
        cases h
        split at hx
        · rename_i p e
          exact .inr ⟨p, rfl, e⟩
        · exact absurd rfl hx
      · rw [List.getElem?_eq_none (by simpa using hv)] at h; cases h
    · rw [List.getElem?_set_ne hi] at h
      rcases rest_some hx h with ⟨h1, h2⟩ | h1
      · exact .inl ⟨by simp only [List.mem_cons, not_or]; exact ⟨fun e => hi e.symm, h1⟩, h2⟩
      · exact .inr h1
section
variable {T : Tb} {w w' w1 : Wd} {σ : L2.St} {sl s1 : List Sl} {mu mu1 : List PV} {D : Addr}
theorem FRel.wipe (F : FRel T w σ sl mu) (vs : List Nat) : FRel T w (L2.wipe σ vs) (RA.wipe sl vs) mu := by
  refine ⟨F.wok, by rw [wipeS_len, wipe_length]; exact F.len, fun i p h => ?_, fun i p h => ?_, fun i j p q a h1 h2 k1 k2 => ?_, F.cel, fun i c fs h => ?_⟩
  · obtain ⟨h1, h2⟩ := wipeS_some (by simp) h
    obtain ⟨v, k1, k2⟩ := F.va i p h1
    exact ⟨v, by rw [wipe_out h2]; exact k1, k2⟩
  · obtain ⟨h1, h2⟩ := wipeS_some (by simp) h
    obtain ⟨a, k1, k2⟩ := F.ow i p h1
    exact ⟨a, by rw [wipe_out h2]; exact k1, k2⟩
  · exact F.ows i j p q a (wipeS_some (by simp) h1).1 (wipeS_some (by simp) h2).1 (wipe_some k1).1 (wipe_some k2).1
  · obtain ⟨h1, h2⟩ := wipeS_some (by simp) h
    rw [wipe_out h2]
    exact F.ex i c fs h1
theorem wipe_wipe (σ : L2.St) (vs : List Nat) : L2.wipe (L2.wipe σ vs) vs = L2.wipe σ vs := by
  refine List.ext_getElem? fun j => ?_
  by_cases hj : j ∈ vs
  · by_cases hl : j < σ.length
    · rw [wipe_in hj hl, wipe_in hj (by rw [wipe_length]; exact hl)]
    · rw [List.getElem?_eq_none (by rw [wipe_length, wipe_length]; omega), List.getElem?_eq_none (by rw [wipe_length]; omega)]
  · rw [wipe_out hj]
theorem FRel.rest (F1 : FRel T w1 σ sl mu1) (ex : Ext w1 w') {vs : List Nat} (F : FRel T w' (L2.wipe σ vs) s1 mu) : FRel T w' σ (RA.rest sl s1 vs) mu := by
  refine ⟨F.wok, by rw [rest_len, F.len, wipe_length], fun i p h => ?_, fun i p h => ?_, fun i j p q a h1 h2 k1 k2 => ?_, F.cel, fun i c fs h => ?_⟩
  · rcases rest_some (by simp) h with ⟨h1, h2⟩ | ⟨q, e, h2⟩
    · obtain ⟨v, k1, k2⟩ := F.va i p h2
      exact ⟨v, (wipe_some k1).1, k2⟩
    · cases e
      obtain ⟨v, k1, k2⟩ := F1.va i p h2
      exact ⟨v, k1, RepV.ext F1.wok ex _ _ k2⟩
  · rcases rest_some (by simp) h with ⟨h1, h2⟩ | ⟨q, e, h2⟩
    · obtain ⟨a, k1, k2⟩ := F.ow i p h2
      exact ⟨a, (wipe_some k1).1, k2⟩
    · cases e
  · rcases rest_some (by simp) h1 with ⟨g1, g2⟩ | ⟨q, e, _⟩
    · rcases rest_some (by simp) h2 with ⟨g3, g4⟩ | ⟨q, e, _⟩
      · exact F.ows i j p q a g2 g4 (by rw [wipe_out g1]; exact k1) (by rw [wipe_out g3]; exact k2)
      · cases e
    · cases e
  · rcases rest_some (by simp) h with ⟨h1, h2⟩ | ⟨q, e, h2⟩
    · obtain ⟨a, d, vs', k1, k2⟩ := F.ex i c fs h2
      exact ⟨a, d, vs', (wipe_some k1).1, k2⟩
    · cases e
/-- a lock, and a thing that is locked -/
theorem lockT (F : FRel T w σ sl mu) (hm : w.mb D) : WOk (w.wrs fun a => w.wr a ∨ a = D) := ⟨fun a h => h.elim (F.wok.sub a) fun e => e ▸ hm, F.wok.mtr⟩
def Wd.putD (w : Wd) (D : Addr) (o : HO) : Wd := { w with H := upd w.H D o }
def Wd.free (w : Wd) (D : Addr) : Wd := { w with mb := fun a => w.mb a ∧ a ≠ D }
theorem ext_putD {o : HO} (hw : ¬ w.wr D) (hm : w.mb D) (hd : w.H D ≠ none) : Ext (w.wrs fun a => w.wr a ∨ a = D) ((w.putD D o).wrs fun a => w.wr a ∨ a = D) where
  pre := fun _ _ h => h
  keep := fun a u h k => by show upd w.H D o a = _; rw [upd_ne fun e => k (.inr e)]; exact h
  trk := fun a h => by
    show upd w.H D o a ≠ none
    by_cases e : a = D
    · rw [e, upd_same]; simp
    · rw [upd_ne e]; exact h
  mt := fun _ h => .inl h
  mkp := fun _ h _ => h
  ws := fun _ h => .inl h
  xs := rfl
theorem ext_free (hw : ¬ w.wr D) : Ext (w.wrs fun a => w.wr a ∨ a = D) (w.free D) where
  pre := fun _ _ h => h
  keep := fun a u h k => h
  trk := fun a h => h
  mt := fun _ h => .inl h.1
  mkp := fun a h k => ⟨h, fun e => k (.inr e)⟩
  ws := fun _ h => .inl (.inl h)
  xs := rfl
theorem reps_putD {o : HO} (F : FRel T w σ sl mu) (hw : ¬ w.wr D) (hm : w.mb D) (hd : w.H D ≠ none) {ps : List PV} {vs : List V} (r : Reps T w ps vs) : Reps T (w.putD D o) ps vs :=
  Reps.wrs (f := w.wr) ps vs (Reps.ext (lockT F hm) (ext_putD hw hm hd) ps vs (Reps.wrs ps vs r))
theorem rep_putD {o : HO} (F : FRel T w σ sl mu) (hw : ¬ w.wr D) (hm : w.mb D) (hd : w.H D ≠ none) {p : PV} {v : V} (r : RepV T w p v) : RepV T (w.putD D o) p v :=
  RepV.wrs (f := w.wr) p v (RepV.ext (lockT F hm) (ext_putD hw hm hd) p v (RepV.wrs p v r))
theorem reps_free (F : FRel T w σ sl mu) (hw : ¬ w.wr D) (hm : w.mb D) {ps : List PV} {vs : List V} (r : Reps T w ps vs) : Reps T (w.free D) ps vs :=
  Reps.ext (lockT F hm) (ext_free hw) ps vs (Reps.wrs ps vs r)
theorem rep_free (F : FRel T w σ sl mu) (hw : ¬ w.wr D) (hm : w.mb D) {p : PV} {v : V} (r : RepV T w p v) : RepV T (w.free D) p v :=
  RepV.ext (lockT F hm) (ext_free hw) p v (RepV.wrs p v r)
theorem FRel.putD {o : HO} (F : FRel T w σ sl mu) (hw : ¬ w.wr D) (hm : w.mb D) (hd : w.H D ≠ none) : FRel T (w.putD D o) σ sl mu := by
  have ne : ∀ {a : Addr}, w.wr a → a ≠ D := fun h e => hw (e ▸ h)
  have cr : ∀ {a : Addr} {c : PV}, w.wr a → CRep T w a c → CRep T (w.putD D o) a c := fun {a c} hwa h => by
    cases c with
    | lst l =>
      obtain ⟨xs, h1, h2⟩ := h
      exact ⟨xs, by show upd w.H D o a = _; rw [upd_ne (ne hwa)]; exact h1, reps_putD F hw hm hd h2⟩
    | obj c fs =>
      obtain ⟨dx, vs, h1, h2, h3⟩ := h
      exact ⟨dx, vs, by show upd w.H D o a = _; rw [upd_ne (ne hwa)]; exact h1, h2, reps_putD F hw hm hd h3⟩
    | dic ks vs =>
      obtain ⟨h0, es, h1, h2, h3, h4, h5⟩ := h
      exact ⟨h0, es, by show upd w.H D o a = _; rw [upd_ne (ne hwa)]; exact h1, h2, h3, h4, reps_putD F hw hm hd h5⟩
    | cl j =>
      obtain ⟨c0, q, h1, ps, h2, h3, h4⟩ := h
      refine ⟨c0, q, h1, ps, by show upd w.H D o a = _; rw [upd_ne (ne hwa)]; exact h2, h3, fun p' cv hc => ?_⟩
      obtain ⟨c', z1, z2, z3⟩ := h4 p' cv hc
      exact ⟨c', z1, by show upd w.H D o c' = _; rw [upd_ne (show c' ≠ D by intro e; subst e; exact z3 hm)]; exact z2, z3⟩
    | _ => exact h.elim
  have co : ∀ {a : Addr} {c : PV}, w.wr a → ORep T w a c → ORep T (w.putD D o) a c := fun {a c} hwa h => by
    cases c with
    | lst l =>
      obtain ⟨xs, h1, h2⟩ := h
      exact ⟨xs, by show upd w.H D o a = _; rw [upd_ne (ne hwa)]; exact h1, reps_putD F hw hm hd h2⟩
    | _ => exact h.elim
  refine ⟨⟨F.wok.sub, fun a h => (ext_putD hw hm hd).trk a (F.wok.mtr a h)⟩, F.len, fun i p h => ?_, fun i p h => ?_, F.ows, ⟨F.cel.mlen, fun n c a h1 h2 => ?_, F.cel.inj⟩, fun i c fs h => ?_⟩
  · obtain ⟨v, k1, k2⟩ := F.va i p h
    exact ⟨v, k1, rep_putD F hw hm hd k2⟩
  · obtain ⟨a, k1, k2, k3, k4⟩ := F.ow i p h
    exact ⟨a, k1, co k3 k2, k3, k4⟩
  · obtain ⟨k1, k2⟩ := F.cel.cl n c a h1 h2
    exact ⟨cr k2 k1, k2⟩
  · obtain ⟨a, d, vs, k1, k2, k3, k4, k5, k6⟩ := F.ex i c fs h
    exact ⟨a, d, vs, k1, k2, by show upd w.H D o d = _; rw [upd_ne (show d ≠ D by intro z; subst z; exact k5 hm)]; exact k3, k4, k5, reps_putD F hw hm hd k6⟩
theorem FRel.free (F : FRel T w σ sl mu) (hw : ¬ w.wr D) (hm : w.mb D) : FRel T (w.free D) σ sl mu := by
  have ne : ∀ {a : Addr}, w.wr a → a ≠ D := fun h e => hw (e ▸ h)
  have cr : ∀ {a : Addr} {c : PV}, CRep T w a c → CRep T (w.free D) a c := fun {a c} h => by
    cases c with
    | lst l =>
      obtain ⟨xs, h1, h2⟩ := h
      exact ⟨xs, h1, reps_free F hw hm h2⟩
    | obj c fs =>
      obtain ⟨dx, vs, h1, h2, h3⟩ := h
      exact ⟨dx, vs, h1, h2, reps_free F hw hm h3⟩
    | dic ks vs =>
      obtain ⟨h0, es, h1, h2, h3, h4, h5⟩ := h
      exact ⟨h0, es, h1, h2, h3, h4, reps_free F hw hm h5⟩
    | cl j =>
      obtain ⟨c0, q, h1, ps, h2, h3, h4⟩ := h
      refine ⟨c0, q, h1, ps, h2, h3, fun p' cv hc => ?_⟩
      obtain ⟨c', z1, z2, z3⟩ := h4 p' cv hc
      exact ⟨c', z1, z2, fun z => z3 z.1⟩
    | _ => exact h.elim
  have co : ∀ {a : Addr} {c : PV}, ORep T w a c → ORep T (w.free D) a c := fun {a c} h => by
    cases c with
    | lst l =>
      obtain ⟨xs, h1, h2⟩ := h
      exact ⟨xs, h1, reps_free F hw hm h2⟩
    | _ => exact h.elim
  refine ⟨⟨fun a h => ⟨F.wok.sub a h, ne h⟩, fun a h => F.wok.mtr a h.1⟩, F.len, fun i p h => ?_, fun i p h => ?_, F.ows, ⟨F.cel.mlen, fun n c a h1 h2 => ?_, F.cel.inj⟩, fun i c fs h => ?_⟩
  · obtain ⟨v, k1, k2⟩ := F.va i p h
    exact ⟨v, k1, rep_free F hw hm k2⟩
  · obtain ⟨a, k1, k2, k3, k4⟩ := F.ow i p h
    exact ⟨a, k1, co k2, k3, k4⟩
  · obtain ⟨k1, k2⟩ := F.cel.cl n c a h1 h2
    exact ⟨cr k1, k2⟩
  · obtain ⟨a, d, vs, k1, k2, k3, k4, k5, k6⟩ := F.ex i c fs h
    exact ⟨a, d, vs, k1, k2, k3, k4, fun z => k5 z.1, reps_free F hw hm k6⟩
/-- a new list that is being filled: locked, not to be written by others -/
def Wd.lay (w : Wd) (D : Addr) : Wd := { w with H := upd w.H D (.lst []), mb := fun a => w.mb a ∨ a = D }
theorem lay_ext (hD : w.H D = none) : Ext w (w.lay D) where
  pre := fun _ _ h => h
  keep := fun a u h _ => by show upd w.H D _ a = _; rw [upd_ne (ne_of_none h hD)]; exact h
  trk := fun a h => by
    show upd w.H D _ a ≠ none
    by_cases e : a = D
    · rw [e, upd_same]; simp
    · rw [upd_ne e]; exact h
  mt := fun a h => h.elim .inl fun e => .inr (e ▸ hD)
  mkp := fun a h _ => .inl h
  ws := fun _ h => .inl h
  xs := rfl
theorem FRel.lay (F : FRel T w σ sl mu) (hD : w.H D = none) : FRel T (w.lay D) σ sl mu := by
  have e := lay_ext hD
  have k : ∀ a u, w.H a = some u → (w.lay D).H a = some u := fun a u h => by show upd w.H D _ a = _; rw [upd_ne (ne_of_none h hD)]; exact h
  refine ⟨⟨fun a h => .inl (F.wok.sub a h), fun a h => ?_⟩, F.len, fun i q h => ?_, fun i q h => ?_, F.ows, ⟨F.cel.mlen, fun n c a h1 h2 => ?_, F.cel.inj⟩, fun i c fs h => ?_⟩
  · rcases h with h | rfl
    · exact e.trk a (F.wok.mtr a h)
    · show upd w.H a _ a ≠ none
      rw [upd_same]; simp
  · obtain ⟨v, h1, h2⟩ := F.va i q h
    exact ⟨v, h1, RepV.ext F.wok e q v h2⟩
  · obtain ⟨a, h1, h2, h3, h4⟩ := F.ow i q h
    exact ⟨a, h1, h2.ext_keep F.wok e (k a), h3, h4⟩
  · obtain ⟨h3, h4⟩ := F.cel.cl n c a h1 h2
    exact ⟨h3.ext_keep F.wok e (k a), h4⟩
  · exact ex_ext F.wok e (F.ex i c fs h)
end
def W0 : WX := fun _ _ _ _ => False

section
variable {S : Gs} {C : Ck} {sc : Scope} {fb : Str → Bool} {X : Cx} {W : WX}
theorem PTs.imp {X : Cx} {e : List Expr} {t t' : TT} (h : PTs X e t) (f : ∀ σ H Q, t' σ H Q → t σ H Q) : PTs X e t' := ⟨fun pins s σ H Q I q => h.run pins s σ H Q I (f σ H Q q)⟩
theorem s_ifs {ts : Tts} {es : List Expr} (h : (ts = .nil ∧ es = []) ∨ ∃ t e, ts = .cons t .nil ∧ es = [e] ∧ ST S W X t e) : PTs X es (tT S.T S.C W (evall S.G S.cf ts)) := by
  rcases h with ⟨rfl, rfl⟩ | ⟨t, e, rfl, rfl, h⟩
  · refine PTs.imp pts_nil fun σ H Q h => ?_
    obtain ⟨w, sl, mu, rfl, F, P⟩ := h
    exact P w (Ext.refl w) F
  · refine PTs.imp (pts_one h) fun σ H Q h => ?_
    obtain ⟨w, sl, mu, hH, F, P⟩ := h
    refine tT.bnd hH F P fun c sl1 mu1 w1 e1 F1 P1 => ?_
    cases c with
    | true => exact P1 w1 (Ext.refl w1) F1
    | false => exact P1 w1 (Ext.refl w1) F1
/-- one turn -/
def lcG (S : Gs) (own : List Nat) (elt : Ex) (tg : Tg) (ifs : Tts) : PV → List Sl → List PV → Res (Option PV) :=
  fun x s1 m => (lift (asg tg x s1) s1 m).bnd fun s2 _ m => (evall S.G S.cf ifs s2 m).bnd fun c s3 m => if c then (ev S.G S.cf elt s3 m).bnd fun y s4 m => .ok (some y) (RA.wipe s4 own) m else .ok none (RA.wipe s3 own) m
theorem ev_lc {own : List Nat} {elt : Ex} {tg : Tg} {it : It} {ifs : Tts} {s : List Sl} {m : List PV} : ev S.G S.cf (.lc own elt tg it ifs) s m = (evi S.G S.cf it s m).bnd fun xs s m => if Nat.ble xs.length SZ then ((lcL (lcG S own elt tg ifs) xs (RA.wipe s own) m).nox).bnd fun ys s1 m => .ok (.lst ys) (RA.rest s s1 own) m else .stk := by
  conv => lhs; unfold ev
  rfl
theorem lc_wish {own : List Nat} {elt : Ex} {tg : Tg} {it : It} {ifs : Tts} (hsl : ∀ i ∈ tg.sl, i ∈ own) {σ : St} {H : Hp} {Q : VK} (h : tE S.T S.C W (sE S (.lc own elt tg it ifs)) σ H Q) :
    tLc (tI S.T S.C W (sI S it)) (tG S.T tg) (tT S.T S.C W0 (evall S.G S.cf ifs)) (tE S.T S.C W0 (sE S elt)) own σ H Q := by
  obtain ⟨w0, sl0, mu0, hH, F0, P⟩ := h
  have P : Pst S.T S.C W σ w0 (ev S.G S.cf (.lc own elt tg it ifs) sl0 mu0) (QE S.T Q) := P
  rw [ev_lc] at P
  refine ⟨w0, sl0, mu0, hH, F0, (P.bnd F0.wok).mono fun ps s mu1 w1 e1 F1 P1 J hJ D hD => ?_⟩
  by_cases hz : Nat.ble ps.length SZ = true
  case neg => rw [if_neg hz] at P1; exact P1.elim
  rw [if_pos hz] at P1
  have hz : ps.length ≤ 16777216 := Nat.le_of_ble_eq_true hz
  -- what the turns' result wishes for
  let R : List PV → List Sl → List PV → Wd → Prop := fun ys s1 m1 w' => ∀ acc, w'.H D = some (.lst acc) → w'.mb D → ¬ w'.wr D → Reps S.T w' ys acc → Q (.ref D) w'.H
  have hk : Pk S.T (L2.wipe σ own) w1 (lcL (lcG S own elt tg ifs) ps (RA.wipe s own) mu1) R := by
    generalize lcL (lcG S own elt tg ifs) ps (RA.wipe s own) mu1 = r at P1
    cases r with
    | stk => exact P1
    | exc _ _ _ => exact P1
    | ok ys s1 m1 =>
      intro w' ex F' acc h1 h2 h3 h4
      have P1 : ∀ w', Ext w1 w' → FRel S.T w' σ (RA.rest s s1 own) m1 → ∀ v, RepV S.T w' (.lst ys) v → Q v w'.H := P1
      have F2 := (F1.rest ex F')
      have F3 := F2.free (D := D) h3 h2
      have ex' : Ext w1 (w'.free D) := ⟨ex.pre, ex.keep, ex.trk, fun a h => ex.mt a h.1, fun a h k => ⟨ex.mkp a h k, fun e => F1.wok.mtr a h (e ▸ hD)⟩, ex.ws, ex.xs⟩
      refine P1 _ ex' F3 (.ref D) ?_
      simp only [RepV]
      exact ⟨D, acc, rfl, h1, fun z => z.2 rfl, reps_free F2 h3 h2 h4⟩
  have FL := (F1.wipe own).lay hD
  refine ⟨fun i n H' => n = ps.length - i ∧ i ≤ ps.length ∧ ∃ w sl mu dn acc, w.H = H' ∧ Ext w1 w ∧ w.H D = some (.lst acc) ∧ w.mb D ∧ ¬ w.wr D ∧ Reps S.T w dn acc ∧ dn.length ≤ i ∧ FRel S.T w (L2.wipe σ own) sl mu ∧
    Pk S.T (L2.wipe σ own) w1 (lcL (lcG S own elt tg ifs) (ps.drop i) sl mu) (fun ys s1 m1 w' => R (dn ++ ys) s1 m1 w'), ⟨ps.length, by simp, Nat.zero_le _, w1.lay D, RA.wipe s own, mu1, [], [], rfl, lay_ext hD, by show upd w1.H D _ D = _; rw [upd_same], .inr rfl, fun z => F1.wok.mtr D (F1.wok.sub D z) hD, by simp only [Reps], Nat.zero_le _, FL, by simpa using hk⟩, ?_⟩
  rintro i n H' ⟨rfl, hi, w, sl, mu, dn, acc, rfl, ex, hDa, hDm, hDw, rdn, hdn, F, pk⟩
  by_cases hlt : i < ps.length
  case neg =>
    have e : i = ps.length := by omega
    subst e
    refine .inl ⟨hJ.stop w ex, ?_⟩
    rw [List.drop_length] at pk
    have pk : ∀ w', Ext w1 w' → FRel S.T w' (L2.wipe σ own) sl mu → R (dn ++ []) sl mu w' := pk
    rw [List.append_nil] at pk
    exact pk w ex F acc hDa hDm hDw rdn
  have hp : ps[i]? = some ps[i] := List.getElem?_eq_getElem hlt
  refine .inr ⟨hJ.go i ps[i] w ex hp, fun H' => ∃ w sl mu dn acc, w.H = H' ∧ Ext w1 w ∧ w.H D = some (.lst acc) ∧ w.mb D ∧ ¬ w.wr D ∧ Reps S.T w dn acc ∧ dn.length ≤ i + 1 ∧ FRel S.T w (L2.wipe σ own) sl mu ∧
    Pk S.T (L2.wipe σ own) w1 (lcL (lcG S own elt tg ifs) (ps.drop (i + 1)) sl mu) (fun ys s1 m1 w' => R (dn ++ ys) s1 m1 w'), fun H' h => ⟨ps.length - (i + 1), by omega, rfl, hlt, h⟩, fun x H' hy => ?_⟩
  obtain ⟨w2, rfl, hw2, rx⟩ := hJ.yld i ps[i] w x H' ex F.wok hp hy
  have step : Ext w w2 ∧ FRel S.T w2 (L2.wipe σ own) sl mu := by
    rcases hw2 with rfl | ⟨a, o, ha, rfl⟩
    · exact ⟨Ext.refl _, F⟩
    · exact ⟨Wd.put_ext ha, F.put ha⟩
  obtain ⟨e2, F2⟩ := step
  -- D stands from here on
  have stand : ∀ {w3 : Wd}, Ext w w3 → Ext w1 w3 ∧ w3.H D = some (.lst acc) ∧ w3.mb D ∧ ¬ w3.wr D ∧ Reps S.T w3 dn acc := fun {w3} e3 =>
    ⟨ex.trans F1.wok e3, e3.keep D _ hDa hDw, e3.mkp D hDm hDw, fun z => (e3.ws D z).elim hDw fun q => (by rw [hDa] at q; cases q), Reps.ext F.wok e3 _ _ rdn⟩
  rw [List.drop_eq_getElem_cons hlt] at pk
  unfold lcL at pk
  unfold lcG at pk
  rw [Res.bnd_assoc] at pk
  obtain ⟨s2, ha⟩ : ∃ s2, asg tg ps[i] sl = some s2 := by
    cases q : asg tg ps[i] sl with
    | none => rw [q] at pk; exact pk.elim
    | some s2 => exact ⟨s2, rfl⟩
  rw [ha] at pk
  have pk : Pk S.T (L2.wipe σ own) w1 (((evall S.G S.cf ifs s2 mu).bnd fun c s3 m => if c then (ev S.G S.cf elt s3 m).bnd fun y s4 m => .ok (some y) (RA.wipe s4 own) m else .ok none (RA.wipe s3 own) m).bnd fun o s m => (lcL (lcG S own elt tg ifs) (ps.drop (i + 1)) s m).bnd fun ys s m => .ok (match o with | some y => y :: ys | none => ys) s m) (fun ys s1 m1 w' => R (dn ++ ys) s1 m1 w') := pk
  rw [Res.bnd_assoc] at pk
  refine ⟨w2, sl, mu, ps[i], s2, rfl, F2, rx, ha, fun σ2 Fσ hw => ?_⟩
  have hwe : L2.wipe σ2 own = L2.wipe σ own := by rw [hw own hsl, wipe_wipe]
  refine ⟨hwe, w2, s2, mu, rfl, Fσ, (pk.bnd σ2 w2).mono fun c s3 m3 w3 e3 F3 pk3 => ?_⟩
  cases c with
  | false =>
    have pk3 : Pk S.T (L2.wipe σ own) w1 ((lcL (lcG S own elt tg ifs) (ps.drop (i + 1)) (RA.wipe s3 own) m3).bnd fun ys s m => .ok ys s m) (fun ys s1 m1 w' => R (dn ++ ys) s1 m1 w') := pk3
    obtain ⟨k1, k2, k3, k4, k5⟩ := stand (e2.trans F.wok e3)
    have F3' := F3.wipe own
    rw [hwe] at F3'
    exact ⟨w3, _, m3, dn, acc, rfl, k1, k2, k3, k4, k5, by omega, F3', pk3.map⟩
  | true =>
    have pk3 : Pk S.T (L2.wipe σ own) w1 (((ev S.G S.cf elt s3 m3).bnd fun y s4 m => .ok (some y) (RA.wipe s4 own) m).bnd fun o s m => (lcL (lcG S own elt tg ifs) (ps.drop (i + 1)) s m).bnd fun ys s m => .ok (match o with | some y => y :: ys | none => ys) s m) (fun ys s1 m1 w' => R (dn ++ ys) s1 m1 w') := pk3
    rw [Res.bnd_assoc] at pk3
    rw [if_pos rfl]
    refine ⟨w3, s3, m3, rfl, F3, (pk3.bnd σ2 w3).mono fun y s4 m4 w4 e4 F4 pk4 v rv => ?_⟩
    have pk4 : Pk S.T (L2.wipe σ own) w1 ((lcL (lcG S own elt tg ifs) (ps.drop (i + 1)) (RA.wipe s4 own) m4).bnd fun ys s m => .ok (y :: ys) s m) (fun ys s1 m1 w' => R (dn ++ ys) s1 m1 w') := pk4
    obtain ⟨k1, k2, k3, k4, k5⟩ := stand ((e2.trans F.wok e3).trans F.wok e4)
    have hacc := k5.len
    have hd4 : w4.H D ≠ none := by rw [k2]; simp
    have F4' := F4.wipe own
    rw [hwe] at F4'
    refine ⟨acc, k2, by rw [sizeLine_eq]; omega, w4.putD D (.lst (acc ++ [v])), _, m4, dn ++ [y], acc ++ [v], rfl, ?_, by show upd w4.H D _ D = _; rw [upd_same], k3, k4, ?_, by simp; omega, F4'.putD k4 k3 hd4, ?_⟩
    · exact ⟨k1.pre, fun a o h k => by show upd w4.H D _ a = _; rw [upd_ne (ne_of_none h hD)]; exact k1.keep a o h k, fun a h => (ext_putD k4 k3 hd4).trk a (k1.trk a h), k1.mt, k1.mkp, k1.ws, k1.xs⟩
    · exact (reps_putD F4 k4 k3 hd4 k5).append (by simp only [Reps]; exact ⟨v, [], rfl, rep_putD F4 k4 k3 hd4 rv, rfl⟩)
    · have := pk4.map
      simpa using this
theorem s_lc (x0 : XOk S C sc fb X) (hc : C.hot = false) {own : List Nat} {elt : Ex} {tg : Tg} {it : It} {ifs : Tts} {x tge iter : Expr} {fs : List Expr} {scope : Scope} {pos : Pos} (hown : (ownOf C.N own).map (·.2) = own) (hb : blkC C.N sc scope (ownOf C.N own) = true) (hsl : ∀ i ∈ tg.sl, i ∈ own) (hi : SI S W X it tge iter) (hn : notSet iter = true)
    (hg : ∀ (s : Shared) (H : Hp) (A : Addr) (cl : List (Str × Addr)) (fp : List Addr), PG (X.blk s H scope (compEnvC scope cl A X.env) fp) tge (tG S.T tg))
    (ht : ∀ (s : Shared) (H : Hp) (A : Addr) (cl : List (Str × Addr)) (fp : List Addr), PTs (X.blk s H scope (compEnvC scope cl A X.env) fp) fs (tT S.T S.C W0 (evall S.G S.cf ifs)))
    (he : ∀ (s : Shared) (H : Hp) (A : Addr) (cl : List (Str × Addr)) (fp : List Addr), SE S W0 (X.blk s H scope (compEnvC scope cl A X.env) fp) elt x) :
    SE S W X (.lc own elt tg it ifs) (.ListComp x [⟨tge, iter, fs, 0⟩] scope pos) := by
  refine PE.imp (pe_lc (x0.calm hc) x0.nd hi (by rw [x0.N, x0.sc]; exact blkOk_by hb) hg ht he (noFold hn)) fun σ H Q h => by rw [hown]; exact lc_wish hsl h
theorem s_lcH (x0 : XOk S C sc fb X) (hc : C.hot = true) {own : List Nat} {elt : Ex} {tg : Tg} {it : It} {ifs : Tts} {x tge iter : Expr} {fs : List Expr} {scope : Scope} {pos : Pos} (hown : (ownOf C.N own).map (·.2) = own) (hb : blkC C.N sc scope (ownOf C.N own) = true) (hsl : ∀ i ∈ tg.sl, i ∈ own) (hi : SIH S W X it tge iter) (hn : notSet iter = true)
    (hg : ∀ (s : Shared) (H : Hp) (A : Addr) (cl : List (Str × Addr)) (fp : List Addr), PG (RA.blkH X s H scope (compEnvC scope cl A X.env) fp) tge (tG S.T tg))
    (ht : ∀ (s : Shared) (H : Hp) (A : Addr) (cl : List (Str × Addr)) (fp : List Addr), PTs (RA.blkH X s H scope (compEnvC scope cl A X.env) fp) fs (tT S.T S.C W0 (evall S.G S.cf ifs)))
    (he : ∀ (s : Shared) (H : Hp) (A : Addr) (cl : List (Str × Addr)) (fp : List Addr), SE S W0 (RA.blkH X s H scope (compEnvC scope cl A X.env) fp) elt x) :
    SE S W X (.lc own elt tg it ifs) (.ListComp x [⟨tge, iter, fs, 0⟩] scope pos) := by
  refine PE.imp (pe_lcH (x0.hotc hc) x0.nd hi (by rw [x0.N, x0.sc]; exact blkOk_by hb) (fun s H C cl fp => hg s H C cl fp) (fun s H C cl fp => ht s H C cl fp) (fun s H C cl fp => he s H C cl fp) (noFold hn)) fun σ H Q h => by rw [hown]; exact lc_wish hsl h
end
end RA

/-! The last built-ins: list of a text, sum of lists, index of a sign. -/
namespace RA
open PySem PySem.Spec PyProof.Rows L2

/-- the heap grows -/
def Grow (H H' : Hp) : Prop := ∀ a o, H a = some o → H' a = some o
theorem sub_list_bytes' : isSubtype (.type "list") (.type "bytes") = pure false := by rw [isSubtype_type]; kernel_rfl
theorem sub_list_bytearray' : isSubtype (.type "list") (.type "bytearray") = pure false := by rw [isSubtype_type]; kernel_rfl
theorem args_sum2 (a b : Value) : argsOk "sum" ⟨[a, b], []⟩ := by unfold argsOk; kernel_rfl
section
variable {X : Cx}
theorem FpOk.upd {pins : List (Addr × Obj)} {H : Hp} {b p : Addr} {o : HO} (f : FpOk X pins H b) (h : b ≠ p) : FpOk X pins (upd H p o) b := ⟨by rw [upd_ne h]; exact f.1, f.2⟩
theorem sum_lists (hc : X.calm = true) {A : Around} (hh : A.handled = none) {R : Result → Shared → Prop} {pins : List (Addr × Obj)} {σ : L2.St} {S I a : Addr} {vs : List V} {f : List (List V)} (hSI : S ≠ I) (hlen : f.length = vs.length) :
    ∀ (k i : Nat) (s : Shared) (H : Hp) (acc : List V) (tot : Addr) (c : Nat), vs.length - i = k → i ≤ vs.length → Inv X pins σ H s → s.heap.get? S = some { cls := .type "list", dict := none, data := .seq #[.ref tot] c, slots := #[] } → FpOk X pins H S → FpOk X pins H I →
    s.heap.IsListIter I a i → SqL X.K H a vs → (∀ (j : Nat) xs, f[j]? = some xs → ∃ q, vs[j]? = some (.ref q) ∧ H q = some (.lst xs)) → H tot = some (.lst acc) → acc.length + (f.drop i).flatten.length ≤ sizeLine →
    (∀ H' p s', Grow H H' → Inv X pins σ H' s' → H' p = some (.lst (acc ++ (f.drop i).flatten)) → (p = tot ∨ H p = none) → R (.ok (.ret (.ref p))) s') →
    codeAny (model X.prog X.w) A (.builtin "sum.loop" ⟨[.ref I, .ref S, rawInt 2, rawInt 0], []⟩) R s := by
  intro k
  induction k with
  | zero =>
    intro i s H acc tot c hk hi I0 hS fS fI hit ha hf hT hz hR
    have hin : i = vs.length := by omega
    subst hin
    obtain ⟨its, rv, pl, _⟩ := I0.list ha
    have hvl := rv.length
    refine codeAny_builtin F.entry_sum_loop ?_
    rw [Around.under_plainId F.plain_sum_loop _]
    show wpAny _ A.in1 (seqItems? (.ref S) >>= _) _ _ s
    refine wpAny_bind (wpAny_seqItems hS rfl ?_)
    show wpAny _ A.in1 (tryCatch (pyNext (.ref I)) _ >>= _) _ _ s
    refine wpAny_bind (wpAny_tryCatch (wpAny_pyNext_list_end hh hit pl.isList (by simp; omega) fun h' eb => ?_))
    obtain ⟨g0, g1, g2, g3, g4, g5⟩ := fI
    have I1 : Inv X pins σ H { s with heap := h' } := I0.turned (t' := s.toks) (fun b o hb e => eb b o hb e) g0 g1 g3 g4 g5
    refine wpAny_pure (hR H tot _ (fun _ _ h => h) I1 ?_ (.inl rfl))
    rw [List.drop_eq_nil_of_le (by omega)]
    simpa using hT
  | succ k ih =>
    intro i s H acc tot c hk hi I0 hS fS fI hit ha hf hT hz hR
    have hlt : i < vs.length := by omega
    have hfl : i < f.length := by omega
    obtain ⟨its, rv, pl, _⟩ := I0.list ha
    obtain ⟨q, hq, hHq⟩ := hf i f[i] (List.getElem?_eq_getElem hfl)
    obtain ⟨u, hu, ru⟩ := rv.get hq
    cases ru
    refine codeAny_builtin F.entry_sum_loop ?_
    rw [Around.under_plainId F.plain_sum_loop _]
    show wpAny _ A.in1 (seqItems? (.ref S) >>= _) _ _ s
    refine wpAny_bind (wpAny_seqItems hS rfl ?_)
    show wpAny _ A.in1 (tryCatch (pyNext (.ref I)) _ >>= _) _ _ s
    refine wpAny_bind (wpAny_tryCatch (wpAny_pyNext_list_item hit pl.isList (x := .ref q) (by simpa using hu) fun h' hit' sb => ?_))
    obtain ⟨g0, g1, g2, g3, g4, g5⟩ := id fI
    have I1 : Inv X pins σ H { s with heap := h' } := I0.turned (t' := s.toks) (fun b o hb e => (sb.2 b hb).trans e) g0 g1 g3 g4 g5
    have hS1 : h'.get? S = some { cls := .type "list", dict := none, data := .seq #[.ref tot] c, slots := #[] } := (sb.2 S hSI).trans hS
    obtain ⟨z, i1, n1, r1, hl1, e1⟩ := I1.lstM hT
    obtain ⟨z2, i2, n2, r2, hl2, e2⟩ := I1.lstM hHq
    have hdrop : f.drop i = f[i] :: f.drop (i + 1) := List.drop_eq_getElem_cons hfl
    rw [hdrop, List.flatten_cons, List.length_append] at hz
    show wpAny _ A.in1 ((holding [Value.ref q] (binaryOp .Add (.ref tot) (.ref q))).attempt >>= _) _ _ _
    refine wpAny_bind (wpAny_attempt (wpAny_holding (PySem.P.add_list e1 e2 ?_ (by rw [List.size_toArray, List.size_toArray]; omega))))
    have ea : i1.toArray ++ i2.toArray = (i1 ++ i2).toArray := by simp
    rw [ea]
    have I2 := I1.lnew (t' := s.toks) (r1.append r2) (by rw [List.length_append]; omega)
    generalize hp : h'.objs.size = p at I2
    have hpS : S ≠ p := by rw [← hp]; exact Nat.ne_of_lt (Heap.lt_size hS1)
    have hpI : I ≠ p := by obtain ⟨oi, ei, _⟩ := hit'; rw [← hp]; exact Nat.ne_of_lt (Heap.lt_size ei)
    have hpn : H p = none := by rw [← hp]; exact I1.hok.fresh (Nat.le_refl _)
    have fS2 : FpOk X pins (L2.upd H p (.lst (acc ++ f[i]))) S := FpOk.upd fS hpS
    have fI2 : FpOk X pins (L2.upd H p (.lst (acc ++ f[i]))) I := FpOk.upd fI hpI
    show wpAny _ A.in1 (updateSeq S (fun _ => #[.ref p]) >>= _) _ _ _
    generalize hs2 : ({ s with heap := h'.push { cls := .type "list", data := .seq (i1 ++ i2).toArray } } : Shared) = s2
    have I2 : Inv X pins σ (L2.upd H p (.lst (acc ++ f[i]))) s2 := by
      subst hs2
      subst hp
      exact I2
    have hS2 : s2.heap.get? S = some { cls := .type "list", dict := none, data := .seq #[.ref tot] c, slots := #[] } := by subst hs2; exact Heap.get?_push_of_some _ hS1
    have hit2 : s2.heap.IsListIter I a (i + 1) := by
      obtain ⟨oi, ei, di⟩ := hit'
      subst hs2
      exact ⟨oi, Heap.get?_push_of_some _ ei, di⟩
    have hs2' : ({ heap := h'.push { cls := .type "list", data := .seq (i1 ++ i2).toArray }, gens := s.gens, drawn := s.drawn, toks := s.toks, os := s.os } : Shared) = s2 := hs2
    have goal : wpAny (model X.prog X.w) A.in1 (updateSeq S (fun _ => #[.ref p]) >>= fun _ => letGo [Value.ref tot, Value.ref q] >>= fun _ => (updateSeq S (fun _ => #[.ref p]) >>= fun _ => pure (Fin.again (.builtin "sum.loop" ⟨[.ref I, .ref S, rawInt 2, rawInt 0], []⟩))))
      (fun fin s' => match fin with
        | .done f => R (.ok f) s'
        | .again c' => c'.quiet = true ∧ codeAny (model X.prog X.w) A c' R s') (fun e s' => R (.error e) s') s2 := by
      refine wpAny_bind (wpAny_updateSeq hS2 rfl ?_)
      have hS3 := Heap.get?_update_self (Obj.mapSeq fun _ => #[Value.ref p]) hS2 rfl
      refine wpAny_bind (wpAny_letGo ?_)
      refine wpAny_bind (wpAny_updateSeq hS3 rfl (wpAny_pure ⟨plainId_quiet F.plain_sum_loop _, ?_⟩))
      have hS4 := Heap.get?_update_self (Obj.mapSeq fun _ => #[Value.ref p]) hS3 rfl
      obtain ⟨k0, k1, k2, k3, k4, k5⟩ := id fS2
      have oth : ∀ b o, b ≠ S → s2.heap.get? b = some o → ((s2.heap.update S (Obj.mapSeq fun _ => #[Value.ref p])).update S (Obj.mapSeq fun _ => #[Value.ref p])).get? b = some o := fun b o hb e =>
        (Heap.get?_update_other _ _ (Ne.symm hb)).trans ((Heap.get?_update_other _ _ (Ne.symm hb)).trans e)
      have I3 : Inv X pins σ (L2.upd H p (.lst (acc ++ f[i]))) { s2 with heap := (s2.heap.update S (Obj.mapSeq fun _ => #[Value.ref p])).update S (Obj.mapSeq fun _ => #[Value.ref p]) } := I2.turned (t' := s2.toks) oth k0 k1 k3 k4 k5
      have gr : Grow H (L2.upd H p (.lst (acc ++ f[i]))) := fun b o e => by rw [upd_ne (ne_of_none e hpn)]; exact e
      refine ih (i + 1) _ _ (acc ++ f[i]) p _ (by omega) hlt I3 hS4 fS2 fI2 ?_ ?_ (fun j xs hj => ?_) (by rw [upd_same]) (by rw [List.length_append]; omega) fun H' p' s' g I' hp' hor => hR H' p' s' (fun b o e => g b o (gr b o e)) I' ?_ (.inr ?_)
      · obtain ⟨oi, ei, di⟩ := hit2
        exact ⟨oi, oth _ _ (Ne.symm hSI) ei, di⟩
      · rcases ha with (ha | ⟨o, ha⟩) | ha
        · exact .inl (.inl (gr _ _ ha))
        · exact .inl (.inr ⟨o, gr _ _ ha⟩)
        · exact .inr ha
      · obtain ⟨q', h1, h2⟩ := hf j xs hj
        exact ⟨q', h1, gr _ _ h2⟩
      · rw [hdrop, List.flatten_cons, ← List.append_assoc]; exact hp'
      · rcases hor with rfl | h
        · exact hpn
        · cases e : H p' with
          | none => rfl
          | some o => rw [gr _ _ e] at h; cases h
    exact goal
def rSumL (K : PySem.W.Frag) : List V → Hp → VK → Prop := fun vs H Q => ∃ (a b : Addr) (xs : List V) (f : List (List V)), vs = [.ref a, .ref b] ∧ SqL K H a xs ∧ f.length = xs.length ∧ (∀ (j : Nat) ys, f[j]? = some ys → ∃ q, xs[j]? = some (.ref q) ∧ H q = some (.lst ys)) ∧ H b = some (.lst []) ∧ f.flatten.length ≤ sizeLine ∧
  ∀ H' p, Grow H H' → H' p = some (.lst f.flatten) → (p = b ∨ H p = none) → Q (.ref p) H'
theorem cr_sumL (hc : X.calm = true) : CallR X (.builtin "sum") (rSumL X.K) := by
  intro pins s σ H vs us Q I0 r h
  obtain ⟨a, b, xs, f, rfl, ha, hl, hf, hb, hz, hQ⟩ := h
  cases r with
  | cons r1 rr =>
    cases rr with
    | cons r2 rr =>
      cases rr
      cases r1
      cases r2
      have hh : X.A.in1.handled = none := I0.ok.hd hc
      obtain ⟨its, rv, pl, _⟩ := I0.list ha
      obtain ⟨z, ib, nb, rb, hlb, eb⟩ := I0.lstM hb
      refine call_function_tree F.kind_sum F.plain_sum F.entry_sum (args_sum2 _ _) ?_
      unfold Builtin.«sum»
      simp only [List.length_cons, List.length_nil]
      rw [if_neg (by decide)]
      refine wpAny_bind (wpAny_of_eq (show Builtin.Builtins.bindParams "sum" ["start"] 0 ⟨[.ref b], []⟩ = pure [some (.ref b)] from rfl) ?_)
      refine wpAny_bind (wpAny_pyIter_list pl.isList ?_)
      have I1 : Inv X pins σ H { s with heap := s.heap.push { cls := .type "list_iterator", data := .fields #[.ref a, .int 0 0] } } := I0.kept (t' := s.toks) fun b o e => Heap.get?_push_of_some _ e
      have fI : FpOk X pins H s.heap.objs.size := I0.fpOk (Nat.le_refl _) (I0.hok.fresh (Nat.le_refl _))
      have hit : (s.heap.push { cls := .type "list_iterator", data := .fields #[.ref a, .int 0 0] }).IsListIter s.heap.objs.size a 0 := ⟨_, Heap.get?_push_size _ rfl, rfl, rfl⟩
      have eb1 : (s.heap.push { cls := .type "list_iterator", data := .fields #[.ref a, .int 0 0] }).get? b = some _ := Heap.get?_push_of_some _ eb
      generalize hI : s.heap.objs.size = I at fI hit I1 ⊢
      generalize hs1 : ({ s with heap := s.heap.push { cls := .type "list_iterator", data := .fields #[.ref a, .int 0 0] } } : Shared) = s1 at I1 ⊢
      have hit1 : s1.heap.IsListIter I a 0 := by subst hs1; exact hit
      have tb : s1.TypeIs (.ref b) "list" := by subst hs1; exact ⟨_, eb1, rfl⟩
      refine wpAny_bind (wpAny_pure ?_)
      simp only [List.forIn_cons, List.forIn_nil]
      refine wpAny_bind (wpAny_bind (wpAny_bind (wpAny_isInstance (T := "list") (b := false) tb F.sub_list_str ?_)))
      simp only [Bool.false_eq_true, if_false]
      refine wpAny_pure (wpAny_bind (wpAny_bind (wpAny_isInstance (T := "list") (b := false) tb sub_list_bytes' ?_)))
      simp only [Bool.false_eq_true, if_false]
      refine wpAny_pure (wpAny_bind (wpAny_bind (wpAny_isInstance (T := "list") (b := false) tb sub_list_bytearray' ?_)))
      simp only [Bool.false_eq_true, if_false]
      refine wpAny_pure (wpAny_pure ?_)
      refine wpAny_bind (wpAny_newObj_type ?_)
      have I2 : Inv X pins σ H { s1 with heap := s1.heap.push { cls := .type "list", data := .seq [Value.ref b].toArray } } := I1.kept (t' := s1.toks) fun b o e => Heap.get?_push_of_some _ e
      have fS : FpOk X pins H s1.heap.objs.size := I1.fpOk (Nat.le_refl _) (I1.hok.fresh (Nat.le_refl _))
      have hSI : s1.heap.objs.size ≠ I := by obtain ⟨oi, ei, _⟩ := hit1; exact Nat.ne_of_gt (Heap.lt_size ei)
      refine wpAny_pure ⟨plainId_quiet F.plain_sum_loop _, sum_lists hc (A := X.A) (I0.ok.hd hc) hSI hl xs.length 0 _ H [] b 0 rfl (Nat.zero_le _) I2 (Heap.get?_push_size _ rfl) fS fI ?_ ha hf hb (by simpa using hz) fun H' p s' g I' hp hor => ?_⟩
      · obtain ⟨oi, ei, di⟩ := hit1
        exact ⟨oi, Heap.get?_push_of_some _ ei, di⟩
      · exact ⟨.ref p, H', I', rfl, hQ H' p g (by simpa using hp) hor⟩
end

/-! ### worlds that grow by themselves -/
def Wd.hp (w : Wd) (H : Hp) : Wd := { w with H := H }
theorem Wd.hp_ext {w : Wd} {H : Hp} (g : Grow w.H H) : Ext w (w.hp H) where
  pre := fun _ _ h => h
  keep := fun a u h _ => g a u h
  trk := fun a h z => by
    cases e : w.H a with
    | none => exact h e
    | some o => have e2 : H a = some o := g a o e; have z : H a = none := z; rw [e2] at z; cases z
  mt := fun _ h => .inl h
  mkp := fun _ h _ => h
  ws := fun _ h => .inl h
  xs := rfl
theorem FRel.hp {T : Tb} {w : Wd} {σ : L2.St} {sl : List Sl} {mu : List PV} {H : Hp} (F : FRel T w σ sl mu) (g : Grow w.H H) : FRel T (w.hp H) σ sl mu := by
  have e := Wd.hp_ext g
  refine ⟨⟨F.wok.sub, fun a h => e.trk a (F.wok.mtr a h)⟩, F.len, fun i q h => ?_, fun i q h => ?_, F.ows, ⟨F.cel.mlen, fun n c a h1 h2 => ?_, F.cel.inj⟩, fun i c fs h => ex_ext F.wok e (F.ex i c fs h)⟩
  · obtain ⟨v, h1, h2⟩ := F.va i q h
    exact ⟨v, h1, RepV.ext F.wok e q v h2⟩
  · obtain ⟨a, h1, h2, h3, h4⟩ := F.ow i q h
    exact ⟨a, h1, h2.ext_keep F.wok e (g a), h3, h4⟩
  · obtain ⟨h3, h4⟩ := F.cel.cl n c a h1 h2
    exact ⟨h3.ext_keep F.wok e (g a), h4⟩
theorem Reps.lsts {T : Tb} {w : Wd} : ∀ {l : List PV} {ls : List (List PV)} {vs : List V}, pLsts l = some ls → Reps T w l vs → ∃ f : List (List V), f.length = vs.length ∧ (∀ (j : Nat) ys, f[j]? = some ys → ∃ q, vs[j]? = some (.ref q) ∧ w.H q = some (.lst ys)) ∧ Reps T w ls.flatten f.flatten
  | [], ls, vs, e, h => by
    simp only [pLsts, Option.some.injEq] at e
    subst e
    simp only [Reps] at h
    subst h
    exact ⟨[], rfl, fun j ys hj => by simp at hj, by simp [Reps]⟩
  | p :: l, ls, vs, e, h => by
    cases p with
    | lst x =>
      simp only [RA.pLsts, Option.map_eq_some_iff] at e
      obtain ⟨ns', e', rfl⟩ := e
      simp only [Reps] at h
      obtain ⟨v, r, rfl, h1, h2⟩ := h
      simp only [RepV] at h1
      obtain ⟨a, xs, rfl, k1, k2, k3⟩ := h1
      obtain ⟨f, f1, f2, f3⟩ := Reps.lsts e' h2
      refine ⟨xs :: f, by simp [f1], fun j ys hj => ?_, by rw [List.flatten_cons, List.flatten_cons]; exact k3.append f3⟩
      cases j with
      | zero => simp at hj; subst hj; exact ⟨a, rfl, k1⟩
      | succ j => simpa using f2 j ys (by simpa using hj)
    | _ => simp [RA.pLsts] at e
section
variable {T : Tb} {X : Cx}
theorem bi_sum2 {ps : List PV} {z : PV} (e : bi .sum2 ps = some z) : ∃ l ls, ps = [.lst l, .lst []] ∧ pLsts l = some ls ∧ ls.flatten.length ≤ SZ ∧ z = .lst ls.flatten := by
  unfold bi at e
  split at e <;> (try simp only [Option.bind_eq_some_iff, Option.ite_none_right_eq_some, Option.some.injEq] at e) <;> simp_all
  obtain ⟨ls, h1, h2, h3⟩ := e
  exact ⟨ls, h1, h2, h3.symm⟩
theorem snd_sum2 (hK : T.K = X.K) (hc : X.calm = true) : CallR X (.builtin "sum") (rPs T (bi .sum2)) := by
  intro pins s σ H vs us Q I rs h
  obtain ⟨w, σ', sl, mu, ps, z, rfl, F, rp, e, h⟩ := h
  obtain ⟨l, ls, rfl, h1, h2, rfl⟩ := bi_sum2 e
  obtain ⟨v1, v2, rfl, r1, r2⟩ := reps2 rp
  simp only [RepV] at r1 r2
  obtain ⟨a, xs, rfl, k1, k2, k3⟩ := r1
  obtain ⟨b, ys, rfl, j1, j2, j3⟩ := r2
  simp only [Reps] at j3
  subst j3
  obtain ⟨f, f1, f2, f3⟩ := Reps.lsts h1 k3
  refine cr_sumL hc pins s σ w.H _ us Q I rs ⟨a, b, xs, f, rfl, SqL.of k1, f1, f2, j1, ?_, fun H' p g hp hor => ?_⟩
  · rw [← f3.len, sizeLine_eq]; exact h2
  · have ex := Wd.hp_ext g
    refine h (w.hp H') ex (F.hp g) _ ?_
    simp only [RepV]
    refine ⟨p, f.flatten, rfl, hp, fun z => ?_, Reps.ext F.wok ex _ _ f3⟩
    rcases hor with rfl | hn
    · exact j2 z
    · exact F.wok.mtr p z hn
theorem vals_at {xs : List V} {us : List Value} (hl : xs.length = us.length) (h : ∀ (i : Nat) x u, xs[i]? = some x → us[i]? = some u → RelV x u) : Vals xs us := by
  induction xs generalizing us with
  | nil => cases us with
    | nil => exact .nil
    | cons _ _ => simp at hl
  | cons x xs ih => cases us with
    | nil => simp at hl
    | cons u us => exact .cons (h 0 x u rfl rfl) (ih (by simpa using hl) fun i x u h1 h2 => h (i + 1) x u (by simpa using h1) (by simpa using h2))
theorem bi_list2 {ps : List PV} {z : PV} (e : bi .list ps = some z) : lsV ps = some z ∨ ∃ x, ps = [.str x] := by
  unfold bi at e
  split at e <;> simp_all [lsV]
theorem snd_lists (hK : T.K = X.K) (hc : X.calm = true) : CallR X (.type "list") (rPs T (bi .list)) := by
  intro pins s σ H vs us Q I rs h
  obtain ⟨w, σ', sl, mu, ps, z, rfl, F, rp, e, h⟩ := h
  by_cases hx : ∃ x, ps = [.str x]
  · obtain ⟨x, rfl⟩ := hx
    simp only [bi, Option.some.injEq] at e
    subst e
    obtain ⟨v, rfl, r⟩ := reps1 rp
    simp only [RepV] at r
    obtain ⟨rfl, hz⟩ := r
    cases rs with
    | cons r1 rr =>
      cases rr
      obtain ⟨t, rfl⟩ := r1
      have hn : (⟨x.toArray⟩ : Str).cps.size ≤ sizeLine := by rw [sizeLine_eq]; simpa using hz
      refine PySem.call_list_str (I.ok.hd hc) _ t (fun h' tk acc' c' kp e2 it => ?_) hn
      have hvs : Vals (x.map fun c => V.str ⟨#[c]⟩) acc'.toList := by
        obtain ⟨hsz, hat⟩ := it
        refine vals_at (by simp [hsz]) fun i y u h1 h2 => ?_
        obtain ⟨c, k, hc', rfl⟩ := hat i u (by simpa using h2)
        simp only [List.getElem?_map, Option.map_eq_some_iff] at h1
        obtain ⟨c2, hc2, rfl⟩ := h1
        have hc' : x[i]? = some c := by simpa using hc'
        rw [hc2] at hc'; cases hc'
        exact ⟨k, rfl⟩
      have I2 : Inv X pins σ (L2.upd w.H s.heap.objs.size (.lst (x.map fun c => V.str ⟨#[c]⟩))) { s with heap := h', toks := tk } :=
        I.laid kp (Nat.le_refl _) (show ObjOk X.prog X.w _ _ _ (.lst _) from ⟨by rw [List.length_map, sizeLine_eq]; exact hz, acc'.toList, c', hvs, by rw [Array.toArray_toList]; exact e2⟩)
      exact ⟨.ref s.heap.objs.size, _, I2, rfl, P2.lst F h (charsReps x) (I.hok.fresh (Nat.le_refl _))⟩
  · refine snd_list hK pins s σ _ _ us Q I rs ⟨w, σ', sl, mu, ps, z, rfl, F, rp, ?_, h⟩
    exact (bi_list2 e).resolve_right hx
end

/-! ### index of a sign -/
theorem at_iff (s : List Nat) (c i : Nat) : StrLaws.At (⟨s.toArray⟩ : Str) ⟨#[c]⟩ (⟨s.toArray⟩ : Str).length i ↔ s[i]? = some c := by
  unfold StrLaws.At
  rw [StrLaws.subAt_eq]
  have hl : (⟨s.toArray⟩ : Str).length = s.length := by simp [Str.length]
  have h1 : (⟨#[c]⟩ : Str).length = 1 := rfl
  rw [hl, h1]
  constructor
  · rintro ⟨h, e⟩
    have e := eq_of_beq e
    have e : (s.drop i).take 1 = [c] := e
    have hi : i < s.length := by omega
    rw [List.drop_eq_getElem_cons hi, List.take_succ_cons] at e
    injection e with e _
    rw [List.getElem?_eq_getElem hi, e]
  · intro h
    obtain ⟨hi, e⟩ := List.getElem?_eq_some_iff.mp h
    refine ⟨by omega, ?_⟩
    show ((s.drop i).take 1 == [c]) = true
    rw [List.drop_eq_getElem_cons hi, List.take_succ_cons, e]
    simp
theorem index_occ (s : List Nat) (c j : Nat) (h : s.findIdx? (· == c) = some j) : ∃ rest, Builtin.Str.occurrences (⟨s.toArray⟩ : Str) ⟨#[c]⟩ 0 (⟨s.toArray⟩ : Str).length 1 = j :: rest := by
  rw [List.findIdx?_eq_some_iff_getElem] at h
  obtain ⟨hj, e, hb⟩ := h
  have e : s[j] = c := by simpa using e
  have aj := (at_iff s c j).mpr (by rw [List.getElem?_eq_getElem hj, e])
  rcases StrLaws.occ_head (⟨s.toArray⟩ : Str) ⟨#[c]⟩ 1 (Nat.le_refl _) with ⟨_, hn⟩ | ⟨i, r, hr, ai, hk⟩
  · exact absurd aj (hn j)
  · have hi := (at_iff s c i).mp ai
    obtain ⟨hil, ei⟩ := List.getElem?_eq_some_iff.mp hi
    rcases Nat.lt_trichotomy i j with z | z | z
    · have := hb i z
      simp [ei] at this
    · subst z; exact ⟨r, hr⟩
    · exact absurd aj (hk j z)
theorem mt_idx {p : PV} {ps : List PV} {z : PV} (e : mt .index p ps = some z) : ∃ s c j, p = .str s ∧ ps = [.str [c]] ∧ s.findIdx? (· == c) = some j ∧ z = .int (j : Nat) := by
  unfold mt at e
  split at e <;> (try simp only [Option.map_eq_some_iff] at e) <;> simp_all
  obtain ⟨a, h1, h2⟩ := e
  exact ⟨a, h1, h2.symm⟩
theorem snd_index {T : Tb} {X : Cx} (hK : T.K = X.K) : MtR X "str.index" (rMt T .index) := by
  intro pins s σ H x xs v us Q I rx rs h
  obtain ⟨w, σ', sl, mu, p, ps, z, rfl, F, rp, rps, e, h⟩ := h
  obtain ⟨y, c, j, rfl, rfl, h1, rfl⟩ := mt_idx e
  obtain ⟨u, rfl, r⟩ := reps1 rps
  simp only [RepV] at r rp
  obtain ⟨rfl, _⟩ := rp
  obtain ⟨rfl, _⟩ := r
  obtain ⟨rest, hr⟩ := index_occ y c j h1
  exact L2.mt_sindex pins s σ _ _ _ v us Q I rx rs ⟨_, _, j, rest, rfl, rfl, hr, P2.here F h (by simp only [RepV])⟩
end RA

/-! Dicts of texts; a text backwards. -/
namespace RA
open PySem PySem.Spec PyProof.Rows L2

/-! ### backwards -/
theorem rev_idx (z : Str) : (Builtin.Str.strSliceIndices none none (-1) z.length).filterMap (z.cps[·]?) = z.cps.toList.reverse := by
  show (sliceRange ((z.cps.size : Int) - 1) (-1) (-1)).filterMap (z.cps[·]?) = _
  rw [PySem.W.krv_sliceRange, PySem.W.krv_range, List.filterMap_reverse, PySem.W.krv_all]
section
variable {X : Cx}
def tRevS (te : TE) : TE := fun σ H Q => te σ H fun x H1 => ∃ z : Str, x = .str z ∧ z.length ≤ sizeLine ∧ Q (.str ⟨z.cps.toList.reverse.toArray⟩) H1
theorem pe_revS {e : Expr} {te : TE} {k : Nat} {p1 p2 p3 pos : Pos} (he : PE X e te) : PE X (.Subscript e (.Slice none none (some (.UnaryOp .USub (.Constant (.int 1) k p1) p2)) p3) pos) (tRevS te) := by
  refine ⟨fun pins s σ H Q I h => ?_⟩
  refine Subscript_ (thn (he.run pins s σ H _ I h) fun v s1 ⟨x, H1, I1, r1, q1⟩ => ?_)
  obtain ⟨z, ex, hz, q⟩ := q1
  subst ex
  obtain ⟨t, rfl⟩ := r1
  have hst : PO X (some (.UnaryOp .USub (.Constant (.int 1) k p1) p2)) (tPart (tUn (rU fun i => .int (-i)) (tC (.int 1)))) := po_some (pe_un un_neg pe_int)
  refine wpAny_Slice (thn (po_none.run pins s1 σ H1 (fun o H2 => o = none ∧ H2 = H1) I1 ⟨rfl, rfl⟩) fun vl s2 ⟨l, H2, I2, pl, el, e2⟩ => ?_)
  subst el e2
  refine thn (po_none.run pins s2 σ H2 (fun o H3 => o = none ∧ H3 = H2) I2 ⟨rfl, rfl⟩) fun vu s3 ⟨u, H3, I3, pu, eu, e3⟩ => ?_
  subst eu e3
  refine thn (hst.run pins s3 σ H3 (fun o H4 => o = some (-1) ∧ H4 = H3) I3 ⟨1, rfl, -1, rfl, rfl, rfl⟩) fun vs s4 ⟨o, H4, I4, ps, eo, e4⟩ => ?_
  subst eo e4
  obtain ⟨l0, rfl, hl0⟩ := IsPart.raw pl
  obtain ⟨u0, rfl, hu0⟩ := IsPart.raw pu
  obtain ⟨st, rfl, hst0⟩ := IsPart.raw ps
  have I5 : L2.Inv X pins σ H4 { s4 with heap := s4.heap.push { cls := .type "slice", data := .fields #[partValue l0, partValue u0, partValue st] } } := I4.kept (t' := s4.toks) fun b ob q => Heap.get?_push_of_some _ q
  show wpAny (model X.prog X.w) X.A (subscriptTail e (.Slice none none (some (.UnaryOp .USub (.Constant (.int 1) k p1) p2)) p3) (.str z t) (.ref s4.heap.objs.size)) (EP X pins σ Q) X.xe { s4 with heap := s4.heap.push { cls := .type "slice", data := .fields #[partValue l0, partValue u0, partValue st] } }
  refine tail_any (ops := [.ref s4.heap.objs.size, .str z t]) (typeIs_str _ z t) (PySem.F.slot_str_getitem.lookup) ?_ (by with_unfolding_all rfl)
  refine wpAny_getItem_str_slice (l := l0) (u := u0) (st := st) ⟨_, Heap.get?_push_size _ rfl, rfl, rfl⟩ (by rw [hst0]; rfl) ?_
  unfold sliceMade slicePicked
  rw [hl0, hu0, hst0]
  show Made.post (if ((-1 : Int) == 1 && _) = true then _ else Made.str ⟨((Builtin.Str.strSliceIndices none none (-1) z.length).filterMap (z.cps[·]?)).toArray⟩) _ _
  rw [rev_idx]
  refine ⟨?_, .str _, H4, I5.tok _, ⟨_, rfl⟩, q⟩
  show (z.cps.toList.reverse.toArray).size ≤ sizeLine
  simpa [Str.length] using hz
end

/-! ### keys that are not there twice -/
def keyOf : PV → Key
  | .str t => .inr ⟨t.toArray⟩
  | _ => .inl 0
theorem keyOf_inj {x y : List Nat} (h : (Sum.inr (⟨x.toArray⟩ : Str) : Key) = Sum.inr ⟨y.toArray⟩) : x = y := by
  have h := Sum.inr.inj h
  have h2 := congrArg (fun s : Str => s.cps.toList) h
  simpa using h2
theorem merge_mkG : ∀ (l : List (PV × PV)) (seen : List PV) (acc : List (Key × V)) (vv : List V), mkG l seen = true → vv.length = l.length → (∀ t, hasD seen t = false → valV acc (.inr ⟨t.toArray⟩) = none) →
    mergeK acc ((l.map fun p => keyOf p.1).zip vv) = acc ++ ((l.map fun p => keyOf p.1).zip vv)
  | [], seen, acc, vv, _, _, _ => by simp [mergeK]
  | (k, x) :: l, seen, acc, [], _, h, _ => by simp at h
  | (k, x) :: l, seen, acc, v :: vv, h, hl, hs => by
    unfold mkG at h
    cases k with
    | str t =>
      simp only [Bool.and_eq_true, Bool.not_eq_true'] at h
      have h0 := hs t h.1
      have hp : putK acc (.inr ⟨t.toArray⟩) v = acc ++ [(.inr ⟨t.toArray⟩, v)] := putK_new v h0
      have ih := merge_mkG l (.str t :: seen) (acc ++ [(.inr ⟨t.toArray⟩, v)]) vv h.2 (by simpa using hl) fun t' ht' => by
        unfold hasD at ht'
        rw [List.any_cons, Bool.or_eq_false_iff] at ht'
        obtain ⟨h1, h2⟩ := ht'
        rw [valV_snoc _ _ _ _ h0, if_neg fun e => ?_]
        · exact hs t' h2
        · have := keyOf_inj e
          subst this
          simp at h1
      show mergeK (putK acc (.inr ⟨t.toArray⟩) v) ((l.map fun p => keyOf p.1).zip vv) = acc ++ ((.inr ⟨t.toArray⟩, v) :: (l.map fun p => keyOf p.1).zip vv)
      rw [hp, ih, List.append_assoc]; rfl
    | _ => simp at h
theorem keys_rep {T : Tb} {w : Wd} : ∀ {l : List (PV × PV)} {seen : List PV} {ks : List V}, mkG l seen = true → Reps T w (l.map (·.1)) ks → ks = l.map fun p => kV (keyOf p.1)
  | [], seen, ks, _, h => by simpa only [List.map_nil, Reps] using h
  | (k, x) :: l, seen, ks, h, r => by
    unfold mkG at h
    cases k with
    | str t =>
      simp only [Bool.and_eq_true, Bool.not_eq_true'] at h
      simp only [List.map_cons, Reps, RepV] at r
      obtain ⟨v, rr, rfl, ⟨rfl, _⟩, r2⟩ := r
      rw [keys_rep h.2 r2]
      rfl
    | _ => simp at h
/-- the dict that pairs make, in the abstract heap -/
theorem dic_rep {T : Tb} {w : Wd} {l : List (PV × PV)} {ks vs : List V} {a : Addr} (hg : mkG l [] = true) (rk : Reps T w (l.map (·.1)) ks) (rv : Reps T w (l.map (·.2)) vs) (ha : w.H a = some (.dK ((l.map fun p => keyOf p.1).zip vs))) (hm : ¬ w.mb a) : RepV T w (.dic (l.map (·.1)) (l.map (·.2))) (.ref a) := by
  have hl : (l.map fun p => keyOf p.1).length = vs.length := by have := rv.len; simpa using this
  simp only [RepV]
  refine ⟨a, _, rfl, ha, hm, ?_, ?_⟩
  · have e : ((l.map fun p => keyOf p.1).zip vs).map (fun p => kV p.1) = ks := by
      rw [keys_rep hg rk]
      have : (fun (p : Key × V) => kV p.1) = kV ∘ Prod.fst := rfl
      rw [this, ← List.map_map, List.map_fst_zip (by omega), List.map_map]
      rfl
    rw [e]; exact rk
  · rw [List.map_snd_zip (by omega)]; exact rv
theorem getD_val {T : Tb} {w : Wd} : ∀ {ks vs : List PV} {kvs : List (Key × V)} {t : List Nat} {o : Option PV}, getD ks vs t = some o → Reps T w ks (kvs.map fun p => kV p.1) → Reps T w vs (kvs.map (·.2)) →
    (o = none ∧ valV kvs (.inr ⟨t.toArray⟩) = none) ∨ ∃ p v, o = some p ∧ valV kvs (.inr ⟨t.toArray⟩) = some v ∧ RepV T w p v
  | [], vs, kvs, t, o, h, rk, rv => by
    unfold getD at h
    split at h
    · cases h
      simp only [Reps] at rk
      have : kvs = [] := by simpa using rk
      subst this
      exact .inl ⟨rfl, rfl⟩
    · cases h
  | k :: ks, vs, kvs, t, o, h, rk, rv => by
    unfold getD at h
    split at h
    · rename_i v vs
      split at h
      · rename_i x
        cases kvs with
        | nil => simp [Reps] at rk
        | cons p kvs =>
          simp only [List.map_cons, Reps, RepV] at rk rv
          obtain ⟨_, _, e1, ⟨e2, _⟩, rk⟩ := rk
          obtain ⟨_, _, e3, r3, rv⟩ := rv
          cases e1
          cases e3
          obtain ⟨pk, pv⟩ := p
          have hk : pk = .inr ⟨x.toArray⟩ := by
            cases pk with
            | inl i => cases e2
            | inr s => have e2 : V.str s = V.str _ := e2; cases e2; rfl
          subst hk
          split at h
          · rename_i hx
            obtain rfl := eq_of_beq hx
            cases h
            exact .inr ⟨v, pv, rfl, valV_pos rfl, r3⟩
          · rename_i hx
            have hne : ¬ (Sum.inr (⟨x.toArray⟩ : Str) : Key) = .inr ⟨t.toArray⟩ := fun e => hx (by rw [keyOf_inj e]; simp)
            rw [valV_neg hne]
            exact getD_val h rk rv
      · cases h
    · cases h

/-! ### dict(t) of a tuple of pairs -/
section
variable {X : Cx}
theorem pairs_ofT {pins : List (Addr × Obj)} {σ : L2.St} {H : Hp} {s : Shared} (I : L2.Inv X pins σ H s) : ∀ {ps : List Addr} {kvs : List (Key × V)}, Paired (fun p kv => SqT X.K H p [kV kv.1, kv.2]) ps kvs →
    ∃ (prs : List (Key × Value)) (us : List Value), KV kvs prs ∧ prs.length = ps.length ∧ us.length = ps.length ∧ ∀ (j : Nat) (k v : Value), (us.zip (prs.map (·.2)))[j]? = some (k, v) → ∃ (b : Addr) (q : Key × Value), ps[j]? = some b ∧ prs[j]? = some q ∧ q.2 = v ∧ IsTup s.heap b #[k, v] ∧ keyIs q.1 k = true
  | _, _, .nil => ⟨[], [], .nil, rfl, rfl, fun j k v e => by simp at e⟩
  | _, _, .cons (a := p) (b := kv) h t => by
    obtain ⟨prs, us, r, hl, hl2, hp⟩ := pairs_ofT I t
    obtain ⟨its, rv, ht, _⟩ := I.tuple h
    obtain ⟨u, y, ei, ru, ry⟩ := vals2 rv
    subst ei
    refine ⟨(kv.1, y) :: prs, u :: us, .cons ⟨rfl, ry⟩ r, by simp [hl], by simp [hl2], fun j k v e => ?_⟩
    cases j with
    | zero =>
      have e' : (u, y) = (k, v) := by simpa using e
      cases e'
      exact ⟨p, (kv.1, y), rfl, rfl, rfl, ht, kV_is (P := X.prog) (w := X.w) ru⟩
    | succ j =>
      obtain ⟨b, q, e1, e2, e3⟩ := hp j k v (by simpa using e)
      exact ⟨b, q, by simpa using e1, by simpa using e2, e3⟩
def rDof (K : PySem.W.Frag) : List V → Hp → VK → Prop := fun xs H Q => ∃ (a : Addr) (ps : List Addr) (kvs : List (Key × V)), xs = [.ref a] ∧ ((∃ O, O.dict = none ∧ H a = some (.frz O (.tup (ps.map V.ref)))) ∨ KT K a (ps.map V.ref)) ∧ Paired (fun p kv => SqT K H p [kV kv.1, kv.2]) ps kvs ∧
    ∀ p, H p = none → Q (.ref p) (L2.upd H p (.dK (mergeK [] kvs)))
theorem call_dof (hcalm : X.calm = true) : CallR X (.type "dict") (rDof X.K) := by
  intro pins s σ H xs us Q I r q
  obtain ⟨a, ps, kvs, ex, hq, hp, q⟩ := q
  subst ex
  obtain ⟨u, eu, rx⟩ := vals1 r
  subst eu
  cases rx
  have hsq : SqT X.K H a (ps.map V.ref) := hq.elim (fun ⟨O, _, h⟩ => .inl (.inr ⟨O, h⟩)) fun ⟨o, its, n, h1, h2, _, h4⟩ => .inr ⟨o, its, n, h1, h2, h4⟩
  obtain ⟨its, rv, pl, hz⟩ := I.tuple hsq
  have ei := refs_at rv
  subst ei
  rw [List.length_map] at hz
  have plain : PlainSeq "tuple" s.heap a (ps.map Value.ref).toArray := by
    obtain ⟨o, ho, hc, n, hd⟩ := pl
    refine ⟨o, n, ho, hc, ?_, hd⟩
    rcases hq with ⟨O, hO, h⟩ | ⟨o', its', n', h1, h2, h3, h4⟩
    · have e : s.heap.get? a = some O := (I.hok a _ h).1
      rw [ho] at e; cases e
      exact hO
    · have e := I.kIn _ _ h1
      rw [ho] at e; cases e
      exact h3
  obtain ⟨prs, us, rel, hl, hl2, hpr⟩ := pairs_ofT I hp
  have hzl : (us.zip (prs.map (·.2))).length = ps.length := by rw [List.length_zip, List.length_map]; omega
  refine PySem.call_dict_pairs (knd := mixKind X.prog X.w) (kvs := prs) (PairArg.tuple a (ps.map Value.ref).toArray (fun j => ps.getD j 0) (us.zip (prs.map (·.2)))) (I.ok.hd hcalm) ⟨plain, by rw [hzl]; simp, fun j k v e => ?_⟩ ⟨by rw [hzl]; exact hl, fun i key v e => ?_⟩ (by rw [hzl]; exact hz) fun h' tk hd' k => ?_
  · obtain ⟨b, q', e1, e2, e3, e4, e5⟩ := hpr j k v e
    have hb : ps.getD j 0 = b := by rw [List.getD_eq_getElem?_getD, e1]; rfl
    show _ = some (Value.ref (ps.getD j 0)) ∧ PairAt s.heap (ps.getD j 0) k v
    rw [hb]
    exact ⟨by simp [e1], .inl e4⟩
  · obtain ⟨b, q', e1, e2, e3, e4, e5⟩ := hpr i key v e
    obtain ⟨q1, q2⟩ := q'
    have e3 : q2 = v := e3
    subst e3
    exact ⟨q1, e2, e5⟩
  · have hm : (s.heap.objs.size == sysModules) = false := beq_eq_false_iff_ne.mpr (Nat.ne_of_gt I.big)
    have hlen : (mergeK [] kvs).length ≤ sizeLine := by
      refine Nat.le_trans (length_mergeK kvs []) ?_
      rw [List.length_nil, Nat.zero_add, rel.length, hl]
      exact hz
    exact ⟨.ref s.heap.objs.size, L2.upd H s.heap.objs.size (.dK (mergeK [] kvs)), I.laid (t' := tk) (fun b o e => k b o (by simp) e) (Nat.le_refl _) (show ObjOk X.prog X.w _ _ _ (.dK (mergeK [] kvs)) from ⟨hlen, hm, merged [] prs, KV.merge rel .nil, hd'⟩), rfl, q _ (I.hok.fresh (Nat.le_refl _))⟩
end
end RA

/-! Soundness: dicts of texts; a text backwards. -/
namespace RA
open PySem L2

section
variable {S : Gs} {C : Ck} {sc : Scope} {fb : Str → Bool} {X : Cx} {W : WX}
theorem s_rev (x0 : XOk S C sc fb X) {a : Ex} {x : Expr} {k : Nat} {p1 p2 p3 pos : Pos} (ha : SE S W X a x) : SE S W X (.rev a) (.Subscript x (.Slice none none (some (.UnaryOp .USub (.Constant (.int 1) k p1) p2)) p3) pos) := by
  refine PE.imp (pe_revS ha) fun σ H Q h => ?_
  obtain ⟨w, sl, mu, hH, F, P⟩ := h
  refine tE.bnd hH F P fun p v sl1 mu1 w1 e1 F1 rv P1 => ?_
  obtain ⟨z, hz, h⟩ := P1.lift
  cases p <;> simp at hz
  subst hz
  simp only [RepV] at rv
  obtain ⟨rfl, hl⟩ := rv
  refine ⟨_, rfl, by rw [str_len, sizeLine_eq]; exact hl, h w1 (Ext.refl w1) F1 _ ?_⟩
  simp only [RepV]
  exact ⟨by simp, by rw [List.length_reverse]; exact hl⟩
/-- a new thing that is being filled -/
def Wd.layO (w : Wd) (D : Addr) (o : HO) : Wd := { w with H := upd w.H D o, mb := fun a => w.mb a ∨ a = D }
theorem layO_ext {w : Wd} {D : Addr} {o : HO} (hD : w.H D = none) : Ext w (w.layO D o) where
  pre := fun _ _ h => h
  keep := fun a u h _ => by show upd w.H D _ a = _; rw [upd_ne (ne_of_none h hD)]; exact h
  trk := fun a h => by
    show upd w.H D _ a ≠ none
    by_cases e : a = D
    · rw [e, upd_same]; simp
    · rw [upd_ne e]; exact h
  mt := fun a h => h.elim .inl fun e => .inr (e ▸ hD)
  mkp := fun a h _ => .inl h
  ws := fun _ h => .inl h
  xs := rfl
theorem FRel.layO {T : Tb} {w : Wd} {σ : L2.St} {sl : List Sl} {mu : List PV} {D : Addr} {o : HO} (F : FRel T w σ sl mu) (hD : w.H D = none) : FRel T (w.layO D o) σ sl mu := by
  have e := layO_ext (o := o) hD
  have k : ∀ a u, w.H a = some u → (w.layO D o).H a = some u := fun a u h => by show upd w.H D _ a = _; rw [upd_ne (ne_of_none h hD)]; exact h
  refine ⟨⟨fun a h => .inl (F.wok.sub a h), fun a h => ?_⟩, F.len, fun i q h => ?_, fun i q h => ?_, F.ows, ⟨F.cel.mlen, fun n c a h1 h2 => ?_, F.cel.inj⟩, fun i c fs h => ex_ext F.wok e (F.ex i c fs h)⟩
  · rcases h with h | rfl
    · exact e.trk a (F.wok.mtr a h)
    · show upd w.H a _ a ≠ none
      rw [upd_same]; simp
  · obtain ⟨v, h1, h2⟩ := F.va i q h
    exact ⟨v, h1, RepV.ext F.wok e q v h2⟩
  · obtain ⟨a, h1, h2, h3, h4⟩ := F.ow i q h
    exact ⟨a, h1, h2.ext_keep F.wok e (k a), h3, h4⟩
  · obtain ⟨h3, h4⟩ := F.cel.cl n c a h1 h2
    exact ⟨h3.ext_keep F.wok e (k a), h4⟩
/-- the readings of a display's pairs -/
def trsOf (S : Gs) (W : WX) : Exs → List (TE × TE)
  | .cons k (.cons v r) => (tE S.T S.C W (sE S k), tE S.T S.C W (sE S v)) :: trsOf S W r
  | _ => []
def flat : List (V × V) → List V
  | [] => []
  | p :: r => p.1 :: p.2 :: flat r
theorem Reps.flat {T : Tb} {w : Wd} : ∀ {l : List PV} {prs' : List (PV × PV)} {ps : List (V × V)}, prs l = some prs' → Reps T w l (RA.flat ps) → Reps T w (prs'.map (·.1)) (ps.map (·.1)) ∧ Reps T w (prs'.map (·.2)) (ps.map (·.2))
  | [], prs', ps, h, r => by
    unfold prs at h
    cases h
    cases ps with
    | nil => simp [Reps]
    | cons p ps => simp [RA.flat, Reps] at r
  | [_], prs', ps, h, r => by
    unfold prs at h
    simp at h
  | k :: v :: l, prs', ps, h, r => by
    unfold prs at h
    simp only [Option.map_eq_some_iff] at h
    obtain ⟨q, h, rfl⟩ := h
    cases ps with
    | nil => simp [RA.flat, Reps] at r
    | cons p ps =>
      simp only [RA.flat, Reps] at r
      obtain ⟨_, _, e1, r1, _, _, e2, r2, r⟩ := r
      cases e1
      cases e2
      obtain ⟨h1, h2⟩ := Reps.flat h r
      simp only [List.map_cons, Reps]
      exact ⟨⟨_, _, rfl, r1, h1⟩, _, _, rfl, r2, h2⟩
theorem pairs_wish {G : List PV} {cf : Nat → List PV → List PV → CR} (hG : G = S.G) (hc : cf = S.cf) : ∀ (es : Exs) {keys : List (Option Expr)} {values : List Expr} (hk : ckD C sc fb es keys values = true) {σ : L2.St} {R : List (V × V) → Hp → Prop} {w : Wd} {sl : List Sl} {mu : List PV}, FRel S.T w σ sl mu →
    Pst S.T S.C W σ w (evs G cf es sl mu) (fun l _ _ w' => ∀ ps, Reps S.T w' l (RA.flat ps) → R ps w'.H) → tPairs (trsOf S W es) σ w.H R
  | .nil, keys, values, hk, σ, R, w, sl, mu, F, P => by
    unfold evs at P
    exact P w (Ext.refl w) F [] (by simp [RA.flat, Reps])
  | .cons k .nil, keys, values, hk, σ, R, w, sl, mu, F, P => by simp [ckD] at hk
  | .cons k (.cons v r), keys, values, hk, σ, R, w, sl, mu, F, P => by
    subst hG hc
    have hk' : ∃ ks vs, ckD C sc fb r ks vs = true := by
      unfold ckD at hk
      simp only at hk
      split at hk
      · simp only [Bool.and_eq_true] at hk; exact ⟨_, _, hk.2⟩
      · cases hk
    obtain ⟨ks, vs, hk'⟩ := hk'
    have P : Pst S.T S.C W σ w ((ev S.G S.cf k sl mu).bnd fun x s m => ((ev S.G S.cf v s m).bnd fun y s m => (evs S.G S.cf r s m).bnd fun l s m => .ok (y :: l) s m).bnd fun l s m => .ok (x :: l) s m) (fun l _ _ w' => ∀ ps, Reps S.T w' l (RA.flat ps) → R ps w'.H) := by
      have e : evs S.G S.cf (.cons k (.cons v r)) sl mu = (ev S.G S.cf k sl mu).bnd fun x s m => ((ev S.G S.cf v s m).bnd fun y s m => (evs S.G S.cf r s m).bnd fun l s m => .ok (y :: l) s m).bnd fun l s m => .ok (x :: l) s m := by
        conv => lhs; unfold evs
        rfl
      rw [← e]; exact P
    refine tE.bnd rfl F P fun p x sl1 mu1 w1 e1 F1 rx P1 => ?_
    rw [Res.bnd_assoc] at P1
    refine tE.bnd rfl F1 P1 fun q y sl2 mu2 w2 e2 F2 ry P2 => ?_
    rw [Res.bnd_assoc] at P2
    refine pairs_wish rfl rfl r hk' F2 ((P2.bnd F2.wok).mono fun l sl3 mu3 w3 e3 F3 P3 ps rps => ?_)
    refine P3 w3 (Ext.refl w3) F3 ((x, y) :: ps) ?_
    simp only [RA.flat, Reps]
    exact ⟨_, _, rfl, RepV.ext F1.wok (e2.trans F1.wok e3) _ _ rx, _, _, rfl, RepV.ext F2.wok e3 _ _ ry, rps⟩
theorem s_dcd (x0 : XOk S C sc fb X) {es : Exs} {keys : List (Option Expr)} {values : List Expr} {pos : Pos} (hk : ckD C sc fb es keys values = true) (hl : keys.length ≤ 15) (hall : keys.all (·.isSome) = true) (hlen : keys.length = values.length) (hp : PPs X pos keys values (trsOf S W es)) : SE S W X (.dcd es) (.Dict keys values pos) := by
  cases keys with
  | nil =>
    cases values with
    | cons _ _ => simp at hlen
    | nil =>
      refine PE.imp pe_dnewK fun σ H Q h => ?_
      obtain ⟨w, sl, mu, rfl, F, P⟩ := h
      cases es with
      | cons k r =>
        cases r with
        | nil => simp [ckD] at hk
        | cons v r => simp [ckD] at hk
      | nil =>
        intro p hpn
        have P : ∀ w', Ext w w' → FRel S.T w' σ sl mu → ∀ v, RepV S.T w' (.dic [] []) v → Q v w'.H := P
        refine P (w.put p (.dK [])) (Wd.put_ext hpn) (F.put hpn) _ ?_
        simp only [RepV]
        exact ⟨p, [], rfl, (by show upd w.H p _ p = _; rw [upd_same]), F.fresh hpn, by simp [Reps], by simp [Reps]⟩
  | cons k0 ks =>
    refine PE.imp (pe_disp hp hall hlen (by simp) hl) fun σ H Q h => ?_
    obtain ⟨w, sl, mu, rfl, F, P⟩ := h
    intro p hpn
    have P : Pst S.T S.C W σ w ((evs S.G S.cf es sl mu).bnd fun l s m => lift ((prs l).bind mkD) s m) (QE S.T Q) := P
    have F1 := F.layO (o := .dK []) hpn
    have e1 := layO_ext (o := .dK []) hpn
    have P1 : Pst S.T S.C W σ (w.layO p (.dK [])) ((evs S.G S.cf es sl mu).bnd fun l s m => lift ((prs l).bind mkD) s m) (fun z _ _ w' => Ext w w' ∧ ∀ w'', Ext w w'' → FRel S.T w'' σ (match (evs S.G S.cf es sl mu).bnd fun l s m => lift ((prs l).bind mkD) s m with | .ok _ s _ => s | _ => sl) (match (evs S.G S.cf es sl mu).bnd fun l s m => lift ((prs l).bind mkD) s m with | .ok _ _ m => m | _ => mu) → ∀ v, RepV S.T w'' z v → Q v w''.H) := by
      generalize (evs S.G S.cf es sl mu).bnd (fun l s m => lift ((prs l).bind mkD) s m) = r at P ⊢
      cases r with
      | stk => exact P
      | ok z s m => exact fun w' ex F' => ⟨e1.trans F.wok ex, fun w'' ex'' F'' v rv => P w'' ex'' F'' v rv⟩
      | exc e s m => exact fun cls d w' ex F' rx => P cls d w' (e1.trans F.wok ex) F' rx
    refine pairs_wish rfl rfl es hk F1 ((P1.bnd F1.wok).mono_ok fun l s m w2 hev ex2 F2 P2 ps rps => ?_)
    have hwr : ¬ w2.wr p := fun z => (ex2.ws p z).elim (fun y => F.wok.mtr p (F.wok.sub p y) hpn) fun y => by
      have y : upd w.H p (.dK []) p = none := y
      rw [upd_same] at y; cases y
    have hwr0 : ¬ (w.layO p (.dK [])).wr p := fun y => F.wok.mtr p (F.wok.sub p y) hpn
    have hmb : w2.mb p := ex2.mkp p (.inr rfl) hwr0
    have hHp : w2.H p = some (.dK []) := ex2.keep p _ (by show upd w.H p _ p = _; rw [upd_same]) hwr0
    obtain ⟨z, hz, P3⟩ := P2.lift
    obtain ⟨q, hq, hz⟩ := Option.bind_eq_some_iff.mp hz
    unfold mkD at hz
    split at hz
    · rename_i hg
      rw [Bool.and_eq_true] at hg
      cases hz
      obtain ⟨rk, rv⟩ := Reps.flat hq rps
      obtain ⟨_, fin⟩ := P3 w2 (Ext.refl w2) F2
      have hll : q.length = ps.length := by have := rk.len; simpa using this
      have hks := keys_rep hg.1 rk
      refine ⟨hHp, (q.map fun p => keyOf p.1).zip (ps.map (·.2)), ?_, ?_, ?_⟩
      · refine List.ext_getElem (by simp [hll]) fun i h1 h2 => ?_
        have hkk : (ps.map (·.1))[i]'(by simpa using h1) = (q.map fun p => kV (keyOf p.1))[i]'(by rw [← hks]; simpa using h1) := by simp only [hks]
        simp only [List.getElem_map, List.getElem_zip] at hkk ⊢
        rw [← hkk]
      · have := Nat.le_of_ble_eq_true hg.2
        simp; omega
      · rw [merge_mkG q [] [] (ps.map (·.2)) hg.1 (by simp [hll]) fun t _ => rfl, List.nil_append]
        have hd : w2.H p ≠ none := by rw [hHp]; simp
        have F3 := F2.putD (o := .dK ((q.map fun p => keyOf p.1).zip (ps.map (·.2)))) hwr hmb hd
        have F4 := F3.free (D := p) hwr hmb
        have ex4 : Ext w ((w2.putD p (.dK ((q.map fun p => keyOf p.1).zip (ps.map (·.2))))).free p) := by
          have k1 := e1.trans F.wok ex2
          exact ⟨k1.pre, fun a o h k => by show upd w2.H p _ a = _; rw [upd_ne (ne_of_none h hpn)]; exact k1.keep a o h k, fun a h => (ext_putD hwr hmb hd).trk a (k1.trk a h), fun a h => k1.mt a h.1, fun a h k => ⟨k1.mkp a h k, fun e => F.wok.mtr a h (e ▸ hpn)⟩, k1.ws, k1.xs⟩
        refine fin _ ex4 ?_ (.ref p) (dic_rep hg.1 (reps_free F3 hwr hmb (reps_putD F2 hwr hmb hd rk)) (reps_free F3 hwr hmb (reps_putD F2 hwr hmb hd rv)) (by show upd w2.H p _ p = _; rw [upd_same]) fun y => y.2 rfl)
        rw [hev]
        show FRel S.T _ σ (match lift ((prs l).bind mkD) s m with | .ok _ s _ => s | _ => sl) (match lift ((prs l).bind mkD) s m with | .ok _ _ m => m | _ => mu)
        rw [hq]
        show FRel S.T _ σ (match lift (mkD q) s m with | .ok _ s _ => s | _ => sl) (match lift (mkD q) s m with | .ok _ _ m => m | _ => mu)
        unfold mkD
        rw [if_pos (by rw [Bool.and_eq_true]; exact hg)]
        exact F4
    · cases hz
theorem noSl_of {e : Expr} (h : notSlice e = true) : NoSl e := by
  intro o i
  cases e <;> first | rfl | (simp [notSlice] at h)
theorem hu_room (x0 : XOk S C sc fb X) : X.A.units + 1 < cLine := by have := x0.un; omega
theorem s_dix (x0 : XOk S C sc fb X) {a b : Ex} {x y : Expr} {pos : Pos} (ha : SE S W X a x) (hb : SE S W X b y) (hs : notSlice y = true) : SE S W X (.dix a b) (.Subscript x y pos) := by
  refine PE.imp (pe_dget (hu_room x0) ha hb (noSl_of hs)) fun σ H Q h => ?_
  obtain ⟨w, sl, mu, hH, F, P⟩ := h
  refine tE.bnd hH F P fun p v sl1 mu1 w1 e1 F1 rv P1 => ?_
  refine tE.bnd rfl F1 P1 fun q u sl2 mu2 w2 e2 F2 ru P2 => ?_
  obtain ⟨z, hz, h⟩ := P2.lift
  split at hz
  · rename_i ks vs t
    obtain ⟨o, ho, hz⟩ := Option.bind_eq_some_iff.mp hz
    have r1 := RepV.ext F1.wok e2 _ _ rv
    simp only [RepV] at r1 ru
    obtain ⟨ad, kvs, rfl, hH2, _, rk, rvs⟩ := r1
    obtain ⟨rfl, _⟩ := ru
    rcases getD_val ho rk rvs with ⟨e, _⟩ | ⟨p, v, e, hv, rp⟩
    · subst e; cases hz
    · subst e
      cases hz
      refine ⟨ad, v, rfl, ?_, h w2 (Ext.refl w2) F2 v rp⟩
      rw [← hv]
      exact DGet.k (k := .inr _) hH2
  · cases hz
theorem s_dgt (x0 : XOk S C sc fb X) {d k e : Ex} {o x y : Expr} {ap cp : Pos} (hd : SE S W X d o) (hk : SE S W X k x) (he : SE S W X e y) (hsu : notSuper o = true) (h1 : notStar x = true) (h2 : notStar y = true) (hline : (ap.endLine == cp.line) = true) : SE S W X (.dgt d k e) (.Call (.Attribute o "get" ap) [x, y] [] cp) := by
  have hst : ∀ z ∈ [x, y], notStar z = true := fun z hz => by
    rcases List.mem_cons.mp hz with rfl | hz
    · exact h1
    · rw [List.mem_singleton.mp hz]; exact h2
  have m : M2 X o "get" ap x y cp := ⟨attr_of hsu, by rw [back_all hst]; rfl, hline, by rw [star_cons h1, star_cons h2]; rfl⟩
  refine PE.imp (pe_dget2 (hu_room x0) hd hk he m) fun σ H Q h => ?_
  obtain ⟨w, sl, mu, hH, F, P⟩ := h
  refine tE.bnd hH F P fun p v sl1 mu1 w1 e1 F1 rv P1 => ?_
  cases p with
  | dic ks vs =>
    have rv0 := rv
    simp only [RepV] at rv0
    obtain ⟨ad, kvs, rfl, hH1, _, _, _⟩ := rv0
    refine ⟨ad, rfl, .inl ⟨kvs, .inl hH1⟩, ?_⟩
    refine tE.bnd rfl F1 P1 fun q u sl2 mu2 w2 e2 F2 ru P2 => ?_
    refine tE.bnd rfl F2 P2 fun q3 u3 sl3 mu3 w3 e3 F3 ru3 P3 => ?_
    obtain ⟨z, hz, h⟩ := P3.lift
    cases q with
    | str t =>
      simp only [Option.map_eq_some_iff] at hz
      obtain ⟨oo, ho, hz⟩ := hz
      have r1 := RepV.ext F1.wok (e2.trans F1.wok e3) _ _ rv
      simp only [RepV] at r1 ru
      obtain ⟨ad', kvs', e, hH3, _, rk, rvs⟩ := r1
      cases e
      obtain ⟨rfl, _⟩ := ru
      rcases getD_val ho rk rvs with ⟨e, hv⟩ | ⟨p, v, e, hv, rp⟩
      · subst e
        refine ⟨none, ?_, ?_⟩
        · rw [← hv]; exact DGet.k (k := .inr _) hH3
        · have hz : q3 = z := hz
          subst hz
          exact h w3 (Ext.refl w3) F3 u3 ru3
      · subst e
        refine ⟨some v, ?_, ?_⟩
        · rw [← hv]; exact DGet.k (k := .inr _) hH3
        · have hz : p = z := hz
          subst hz
          exact h w3 (Ext.refl w3) F3 v rp
    | _ => cases hz
  | _ => exact P1.elim
theorem pPairs_rep {T : Tb} {w : Wd} : ∀ {l : List PV} {q : List (PV × PV)} {xs : List V}, pPairs l = some q → Reps T w l xs → ∃ (ps : List Addr) (ks vs : List V), xs = ps.map V.ref ∧ Reps T w (q.map (·.1)) ks ∧ Reps T w (q.map (·.2)) vs ∧ Paired (fun p kv => SqT T.K w.H p [kv.1, kv.2]) ps (ks.zip vs)
  | [], q, xs, h, r => by
    unfold pPairs at h
    cases h
    simp only [Reps] at r
    subst r
    exact ⟨[], [], [], rfl, by simp [Reps], by simp [Reps], .nil⟩
  | p :: l, q, xs, h, r => by
    unfold pPairs at h
    split at h
    · rename_i k v
      simp only [Option.map_eq_some_iff] at h
      obtain ⟨q, h, rfl⟩ := h
      simp only [Reps] at r
      obtain ⟨u, rr, rfl, r1, r2⟩ := r
      obtain ⟨ps, ks, vs, rfl, h1, h2, h3⟩ := pPairs_rep h r2
      unfold RepV at r1
      obtain ⟨a, ys, rfl, hs, ry⟩ := r1
      obtain ⟨k', v', rfl, rk, rv⟩ := reps2 ry
      exact ⟨a :: ps, k' :: ks, v' :: vs, rfl, by simp only [List.map_cons, Reps]; exact ⟨_, _, rfl, rk, h1⟩, by simp only [List.map_cons, Reps]; exact ⟨_, _, rfl, rv, h2⟩, .cons hs.sq h3⟩
    · cases h
theorem paired_keys {T : Tb} {w : Wd} : ∀ {q : List (PV × PV)} {ps : List Addr} {vs : List V}, vs.length = q.length → Paired (fun p (kv : V × V) => SqT T.K w.H p [kv.1, kv.2]) ps ((q.map fun p => kV (keyOf p.1)).zip vs) → Paired (fun p (kv : Key × V) => SqT T.K w.H p [kV kv.1, kv.2]) ps ((q.map fun p => keyOf p.1).zip vs)
  | [], ps, vs, hl, h => by
    simp only [List.map_nil, List.zip_nil_left] at h ⊢
    cases h
    exact .nil
  | p :: q, ps, [], hl, h => by simp at hl
  | p :: q, ps, v :: vs, hl, h => by
    simp only [List.map_cons, List.zip_cons_cons] at h ⊢
    cases h with
    | cons h1 h2 => exact .cons h1 (paired_keys (by simpa using hl) h2)
theorem s_dof (x0 : XOk S C sc fb X) (hc : C.hot = false) {a : Ex} {x : Expr} {p pos : Pos} (ha : SE S W X a x) (hv : glb sc "dict" = true) (hs : notStar x = true) : SE S W X (.dof a) (.Call (.Name "dict" p) [x] [] pos) := by
  refine PE.imp (pe_callTy (call_dof (x0.calm hc)) (glb_of x0 hv) (x0.blt _ (by decide +kernel)) (show bootBuiltins "dict" = some (.type "dict") by decide +kernel) (pa_cons ha pa_nil (star_cons hs)) (by decide) (by decide) (star_cons hs) rfl) fun σ H Q h => ?_
  obtain ⟨w, sl, mu, hH, F, P⟩ := h
  refine tE.bnd hH F P fun p v sl1 mu1 w1 e1 F1 rv P1 => ?_
  obtain ⟨z, hz, h⟩ := P1.lift
  cases p with
  | tup l =>
    simp only [Option.bind_eq_some_iff] at hz
    obtain ⟨q, hq, hz⟩ := hz
    unfold mkD at hz
    split at hz
    · rename_i hg
      rw [Bool.and_eq_true] at hg
      cases hz
      simp only [RepV] at rv
      obtain ⟨ad, xs, rfl, hst, rx⟩ := rv
      obtain ⟨ps, ks, vs, rfl, rk, rvs, hpp⟩ := pPairs_rep hq rx
      have hl : vs.length = q.length := by have := rvs.len; simpa using this.symm
      have hks := keys_rep hg.1 rk
      subst hks
      refine ⟨ad, ps, (q.map fun p => keyOf p.1).zip vs, rfl, ?_, ?_, fun b hb => ?_⟩
      · rw [← x0.hK]
        exact hst.elim (fun ⟨O, hO, h, _⟩ => .inl ⟨O, hO.1, h⟩) .inr
      · rw [← x0.hK]
        exact paired_keys hl hpp
      · rw [merge_mkG q [] [] vs hg.1 hl fun t _ => rfl, List.nil_append]
        have ex := Wd.put_ext (o := .dK ((q.map fun p => keyOf p.1).zip vs)) hb
        refine h (w1.put b _) ex (F1.put hb) (.ref b) ?_
        exact dic_rep hg.1 (Reps.ext F1.wok ex _ _ rk) (Reps.ext F1.wok ex _ _ rvs) (by show upd w1.H b _ b = _; rw [upd_same]) (F1.fresh hb)
    · cases hz
  | _ => cases hz
end
end RA

/-! Soundness: functions as values, stars, own classes, what a handler knows. -/
namespace RA
open PySem L2

section
variable {T : Tb} {w : Wd} {σ : L2.St} {sl : List Sl} {mu : List PV}
/-- a new cell, whatever else is laid beside it -/
def Wd.newG (w : Wd) (q : Addr) (H' : Hp) : Wd := { w with H := H', m := w.m ++ [q], wr := fun a => w.wr a ∨ a = q, mb := fun a => w.mb a ∨ a = q }
theorem newG_ext {q : Addr} {H' : Hp} (hq : w.H q = none) (k : ∀ a u, w.H a = some u → H' a = some u) : Ext w (w.newG q H') where
  pre := fun n a h => by
    show (w.m ++ [q])[n]? = some a
    rw [List.getElem?_append_left (List.getElem?_eq_some_iff.mp h).1]; exact h
  keep := fun a u h _ => k a u h
  trk := fun a h => by
    show H' a ≠ none
    cases e : w.H a with
    | none => exact absurd e h
    | some u => rw [k a u e]; simp
  mt := fun a h => h.elim .inl fun e => .inr (e ▸ hq)
  mkp := fun a h _ => .inl h
  ws := fun a h => h.elim .inl fun e => .inr (e ▸ hq)
  xs := rfl
theorem FRel.newG {q : Addr} {H' : Hp} {c : PV} (F : FRel T w σ sl mu) (hq : w.H q = none) (k : ∀ a u, w.H a = some u → H' a = some u) (hn : H' q ≠ none) (r : CRep T (w.newG q H') q c) : FRel T (w.newG q H') σ sl (mu ++ [c]) := by
  have e := newG_ext hq k
  have nw : ∀ {a : Addr}, w.wr a → a ≠ q := fun h z => F.wok.mtr _ (F.wok.sub _ h) (z ▸ hq)
  have nm : q ∉ w.m := fun z => nw (F.cellOf z) rfl
  have hml := F.cel.mlen
  refine ⟨⟨fun a h => h.elim (fun z => .inl (F.wok.sub a z)) .inr, fun a h => ?_⟩, F.len, fun i p h => ?_, fun i p h => ?_, F.ows, ⟨by show (w.m ++ [q]).length = _; simp [hml], fun n c' a h1 h2 => ?_, fun n n' a h1 h2 => ?_⟩, fun i c' fs h => ex_ext F.wok e (F.ex i c' fs h)⟩
  · rcases h with h | rfl
    · exact e.trk a (F.wok.mtr a h)
    · exact hn
  · obtain ⟨v, h1, h2⟩ := F.va i p h
    exact ⟨v, h1, RepV.ext F.wok e p v h2⟩
  · obtain ⟨a, h1, h2, h3, h4⟩ := F.ow i p h
    refine ⟨a, h1, h2.ext_keep F.wok e (k a), .inl h3, fun z => ?_⟩
    have z : a ∈ w.m ++ [q] := z
    rcases List.mem_append.mp z with z | z
    · exact h4 z
    · exact nw h3 (List.mem_singleton.mp z)
  · have h2 : (w.m ++ [q])[n]? = some a := h2
    by_cases hn : n < w.m.length
    · rw [List.getElem?_append_left hn] at h2
      rw [List.getElem?_append_left (by omega)] at h1
      obtain ⟨h3, h4⟩ := F.cel.cl n c' a h1 h2
      exact ⟨h3.ext_keep F.wok e (k a), .inl h4⟩
    · rw [List.getElem?_append_right (by omega)] at h1 h2
      have hz : n - w.m.length = 0 := by
        have := (List.getElem?_eq_some_iff.mp h2).1
        simp at this; omega
      rw [hz] at h2
      rw [← hml, hz] at h1
      simp at h1 h2
      subst h1 h2
      exact ⟨r, .inr rfl⟩
  · have h1 : (w.m ++ [q])[n]? = some a := h1
    have h2 : (w.m ++ [q])[n']? = some a := h2
    have cas : ∀ {j : Nat}, (w.m ++ [q])[j]? = some a → (j < w.m.length ∧ w.m[j]? = some a) ∨ (j = w.m.length ∧ a = q) := fun {j} h => by
      by_cases hn : j < w.m.length
      · rw [List.getElem?_append_left hn] at h; exact .inl ⟨hn, h⟩
      · rw [List.getElem?_append_right (by omega)] at h
        have hz : j - w.m.length = 0 := by
          have := (List.getElem?_eq_some_iff.mp h).1
          simp at this; omega
        rw [hz] at h
        simp at h
        exact .inr ⟨by omega, h.symm⟩
    rcases cas h1 with ⟨a1, b1⟩ | ⟨a1, b1⟩ <;> rcases cas h2 with ⟨a2, b2⟩ | ⟨a2, b2⟩
    · exact F.cel.inj n n' a b1 b2
    · subst b2; exact absurd (List.mem_of_getElem? b1) nm
    · subst b1; exact absurd (List.mem_of_getElem? b2) nm
    · omega
/-- a cell is written -/
def Wd.wrG (w : Wd) (q : Addr) (o : HO) : Wd := { w with H := upd w.H q o }
theorem wrG_ext {q : Addr} {o : HO} (hq : w.wr q) : Ext w (w.wrG q o) where
  pre := fun _ _ h => h
  keep := fun a u h k => by show upd w.H q _ a = _; rw [upd_ne (by intro z; subst z; exact k hq)]; exact h
  trk := fun a h => by
    show upd w.H q _ a ≠ none
    by_cases e : a = q
    · rw [e, upd_same]; simp
    · rw [upd_ne e]; exact h
  mt := fun a h => .inl h
  mkp := fun a h _ => h
  ws := fun a h => .inl h
  xs := rfl
theorem FRel.wrG {q : Addr} {o : HO} {c : PV} {n : Nat} (F : FRel T w σ sl mu) (hn : w.m[n]? = some q) (r : CRep T (w.wrG q o) q c) : FRel T (w.wrG q o) σ sl (mu.set n c) := by
  have hq : w.wr q := F.cellOf (List.mem_of_getElem? hn)
  have e := wrG_ext (o := o) hq
  have k : ∀ a u, a ≠ q → w.H a = some u → (w.wrG q o).H a = some u := fun a u n h => by show upd w.H q _ a = _; rw [upd_ne n]; exact h
  have hnl : n < mu.length := by rw [← F.cel.mlen]; exact (List.getElem?_eq_some_iff.mp hn).1
  refine ⟨⟨F.wok.sub, fun a h => e.trk a (F.wok.mtr a h)⟩, F.len, fun j p hj => ?_, fun j p hj => ?_, F.ows, ⟨by simp; exact F.cel.mlen, fun j c' a h1 h2 => ?_, F.cel.inj⟩, fun i c' fs h => ex_ext F.wok e (F.ex i c' fs h)⟩
  · obtain ⟨v, h1, h2⟩ := F.va j p hj
    exact ⟨v, h1, RepV.ext F.wok e p v h2⟩
  · obtain ⟨a, h1, h2, h3, h4⟩ := F.ow j p hj
    exact ⟨a, h1, h2.ext_keep F.wok e fun o => k a o fun y => h4 (y ▸ List.mem_of_getElem? hn), h3, h4⟩
  · have h2 : w.m[j]? = some a := h2
    by_cases z : n = j
    · subst z
      rw [List.getElem?_set_self hnl] at h1
      cases h1
      rw [hn] at h2; cases h2
      exact ⟨r, hq⟩
    · rw [List.getElem?_set_ne z] at h1
      obtain ⟨h3, h4⟩ := F.cel.cl j c' a h1 h2
      exact ⟨h3.ext_keep F.wok e fun o => k a o fun y => z (F.cel.inj n j q hn (y ▸ h2)), h4⟩
end

section
variable {S : Gs} {C : Ck} {sc : Scope} {fb : Str → Bool} {X : Cx} {W : WX}
theorem s_stk {e : Expr} : SE S W X .stk e := ⟨fun pins s σ H Q I h => by
  obtain ⟨w, sl, mu, hH, F, P⟩ := h
  exact P.elim⟩
theorem s_fnv (x0 : XOk S C sc fb X) {f : Nat} {x : Str} {pos : Pos} (hi : C.fnm[f]? = some (some x)) (hv : glb sc x = true) (ho : okNm x = true) : SE S W X (.fnv f) (.Name x pos) := by
  obtain ⟨h1, _, _⟩ := okNm_of ho
  obtain ⟨a, k1, g1⟩ := x0.fa f x hi
  refine PE.imp (pe_glob (v := .ref a) (glb_of x0 hv) k1 rfl h1) fun σ H Q h => ?_
  obtain ⟨w, sl, mu, rfl, F, P⟩ := h
  exact P w (Ext.refl w) F (.ref a) (by simp only [RepV]; exact ⟨a, rfl, g1⟩)
/-- the wish behind a call, at the caller -/
theorem call_got {f : Nat} {σ : L2.St} {w1 : Wd} {ps : List PV} {vs : List V} {sl1 : List Sl} {mu1 : List PV} {Q : VK} (F1 : FRel S.T w1 σ sl1 mu1) (rv : Reps S.T w1 ps vs)
    (P1 : Pst S.T S.C W σ w1 (match S.cf f ps mu1 with | .stk => .stk | .ok p m => .ok p sl1 m | .exc e m => .exc e sl1 m) (QE S.T Q)) : spF S f vs w1.H Q (WE W σ) := by
  obtain ⟨i1, i2⟩ := call_in F1
  refine ⟨w1.wrs (· ∈ w1.m), ps, mu1, rfl, i1, i2, fun a h => h, Reps.wrs ps vs rv, ?_⟩
  generalize S.cf f ps mu1 = r at P1 ⊢
  cases r with
  | stk => exact P1
  | ok p mu' =>
    intro v w' ex ok cr rv
    obtain ⟨o1, o2⟩ := call_out F1 ex ok cr
    exact P1 _ o1 o2 v (RepV.wrs p v rv)
  | exc e mu' =>
    intro cls d w' ex ok cr rx
    obtain ⟨o1, o2⟩ := call_out F1 ex ok cr
    refine P1 cls d (w'.wrs fun a => w1.wr a ∨ w'.wr a) o1 o2 ?_
    obtain ⟨c, fs, d', vs, r1, r0, r2, r3, r4, r5, r6, r7⟩ := rx
    exact ⟨c, fs, d', vs, r1, r0, r2, r3, r4, r5, r6, Reps.wrs fs vs r7⟩
/-- a call of a name that holds a function -/
def tLoc (S : Gs) (W : WX) (i : Nat) (f : Nat) (a : Addr) (t : TA) : TE := fun σ H Q => σ[i]? = some (some (.ref a)) ∧ t σ H fun vs H1 => spF S f vs H1 Q (WE W σ)
theorem pe_loc {i f : Nat} {a : Addr} {x : Str} {e : Expr} {es : List Expr} {p pos : Pos} {t : TA} (K : FcOk S X f a) (hr : Room S.r X.A) (tk : L2N.Takes X W) (hN : X.N[i]? = some x) (hv : Vis X.env.scope x) (ha : PA X (e :: es) t)
    (hdb : (x == ("__debug__" : Str)) = false) (hcd : (x == ("__classdict__" : Str)) = false) (he : starEach (e :: es) X.env = (false, eval e X.env) :: starEach es X.env) (hpl : (backTo pos (starEach es X.env)).any (·.1) = false) :
    PE X (.Call (.Name x p) (e :: es) [] pos) (tLoc S W i f a t) := by
  obtain ⟨fd, ps, l, kl, k2, k3, k4⟩ := K.ex
  refine ⟨fun pins s σ H Q I ⟨hs, ht⟩ => wpAny_Call_Name_kw (thn ((pe_var (pos := p) hN hv hdb hcd).run pins s σ H (fun v H1 => v = .ref a ∧ H1 = H) I ⟨.ref a, hs, rfl, rfl⟩) fun u s1 ⟨v, H1, I1, r1, e1, e2⟩ => ?_)⟩
  subst e1 e2
  obtain rfl : u = Value.ref a := r1
  exact PySem.W.callWith_K (h₀ := X.base) I.ok.mod.kin k2 (thn (ha.run pos pins s1 σ _ _ I1 ht) fun us s2 ⟨vs, H2, I2, r, q⟩ => ⟨I2.kIn, run_S k4 K.gd (hr.mono (by omega)) k3 (L2N.passAt tk σ) I2 r q⟩) he hpl
/-! ### stars -/
def SSt (S : Gs) (W : WX) (X : Cx) (bs : List Bool) (es : Exs) (xs : List Expr) : Prop := PA X xs (tA S.T S.C W (evst S.G S.cf es bs))
theorem st_nil : SSt S W X [] .nil [] := PA.imp pa_nil fun σ H Q h => by
  obtain ⟨w, sl, mu, rfl, F, P⟩ := h
  exact P w (Ext.refl w) F [] (by simp only [Reps])
theorem st_cons {bs : List Bool} {a : Ex} {as : Exs} {e : Expr} {es : List Expr} (ha : SE S W X a e) (hr : SSt S W X bs as es) (hs : notStar e = true) : SSt S W X (false :: bs) (.cons a as) (e :: es) := by
  refine PA.imp (pa_cons ha hr (star_cons hs)) fun σ H Q h => ?_
  obtain ⟨w, sl, mu, hH, F, P⟩ := h
  refine tE.bnd hH F P fun p v sl1 mu1 w1 e1 F1 rv P1 => ?_
  refine tA.bnd rfl F1 P1 fun ps vs sl2 mu2 w2 e2 F2 rvs P2 => ?_
  exact P2 w2 (Ext.refl w2) F2 _ (by simp only [Reps]; exact ⟨_, _, rfl, RepV.ext F1.wok e2 p v rv, rvs⟩)
theorem st_star (x0 : XOk S C sc fb X) {bs : List Bool} {a : Ex} {as : Exs} {e : Expr} {es : List Expr} {pos : Pos} (ha : SE S W X a e) (hr : SSt S W X bs as es) : SSt S W X (true :: bs) (.cons a as) (.Starred e pos :: es) := by
  refine PA.imp (StX.pa_star ha hr) fun σ H Q h => ?_
  obtain ⟨w, sl, mu, hH, F, P⟩ := h
  refine tE.bnd hH F P fun p v sl1 mu1 w1 e1 F1 rv P1 => ?_
  cases p with
  | tup y =>
    simp only [RepV] at rv
    obtain ⟨ad, xs, rfl, hq, ry⟩ := rv
    rw [x0.hK] at hq
    refine ⟨ad, xs, rfl, .inl hq.sq, tA.bnd rfl F1 P1 fun ps vs sl2 mu2 w2 e2 F2 rvs P2 => ?_⟩
    exact P2 w2 (Ext.refl w2) F2 _ (Reps.append (Reps.ext F1.wok e2 _ _ ry) rvs)
  | lst y =>
    simp only [RepV] at rv
    obtain ⟨ad, xs, rfl, hq, _, ry⟩ := rv
    refine ⟨ad, xs, rfl, .inr (SqL.of hq), tA.bnd rfl F1 P1 fun ps vs sl2 mu2 w2 e2 F2 rvs P2 => ?_⟩
    exact P2 w2 (Ext.refl w2) F2 _ (Reps.append (Reps.ext F1.wok e2 _ _ ry) rvs)
  | _ => exact P1.elim
theorem s_tst {bs : List Bool} {as : Exs} {es : List Expr} {k pos} (ha : SSt S W X bs as es) : SE S W X (.tst bs as) (.Tuple es k pos) := by
  refine PE.imp (pe_tupP ha) fun σ H Q h => ?_
  obtain ⟨w, sl, mu, hH, F, P⟩ := h
  refine tA.bnd hH F P fun l vs s m w' e F' rv P' => ?_
  by_cases hl : l.length ≤ SZ
  · rw [if_pos hl] at P'
    refine ⟨by rw [← rv.len, sizeLine_eq]; exact hl, fun p O hp hO => P2.tup F' P' rv hp hO⟩
  · rw [if_neg hl] at P'
    exact P'.elim
theorem s_lsx {bs : List Bool} {as : Exs} {es : List Expr} {pos} (ha : SSt S W X bs as es) : SE S W X (.lsx bs as) (.List es pos) := by
  refine PE.imp (pe_lst ha) fun σ H Q h => ?_
  obtain ⟨w, sl, mu, hH, F, P⟩ := h
  refine tA.bnd hH F P fun l vs s m w' e F' rv P' => ?_
  by_cases hl : l.length ≤ SZ
  · rw [if_pos hl] at P'
    exact ⟨by rw [← rv.len, sizeLine_eq]; exact hl, fun p hp => P2.lst F' P' rv hp⟩
  · rw [if_neg hl] at P'
    exact P'.elim
end
end RA

set_option maxHeartbeats 4000000
/-! Exceptions as values: made, their fields read, their classes asked. -/
namespace RA
open PySem PySem.Spec PyProof.Rows L2

theorem Reps.reverse {T : Tb} {w : Wd} : ∀ {ps : List PV} {vs : List V}, Reps T w ps vs → Reps T w ps.reverse vs.reverse
  | [], vs, h => by simp only [Reps] at h; subst h; simp [Reps]
  | p :: ps, vs, h => by
    simp only [Reps] at h
    obtain ⟨v, r, rfl, h1, h2⟩ := h
    rw [List.reverse_cons, List.reverse_cons]
    exact Reps.append (Reps.reverse h2) (by simp only [Reps]; exact ⟨v, [], rfl, h1, rfl⟩)
theorem okV_of {T : Tb} {w : Wd} : ∀ {ks : List Bool} {ps : List PV} {vs : List V}, okX ks ps = true → Reps T w ps vs → okV ks vs
  | [], ps, vs, h, r => by
    simp only [okX, List.isEmpty_iff] at h
    subst h
    simp only [Reps] at r
    exact r
  | b :: ks, ps, vs, h, r => by
    unfold okX at h
    split at h
    · rename_i x q
      simp only [Bool.and_eq_true] at h
      obtain ⟨h1, h2⟩ := h
      simp only [Reps] at r
      obtain ⟨v, rr, rfl, r1, r2⟩ := r
      refine ⟨v, rr, rfl, fun hb => ?_, okV_of h2 r2⟩
      rw [if_pos hb] at h1
      split at h1
      · rename_i i
        simp only [Bool.and_eq_true, decide_eq_true_eq] at h1
        simp only [RepV] at r1
        exact ⟨i, r1, h1⟩
      · cases h1
    · cases h
/-- the reading: an exception is made and held -/
def tXn (C : Addr) (sp : Sp) (ta : TA) : TE := fun σ H Q => ta σ H fun vs H1 => vs.length ≤ 1000 ∧ ∀ a, H1 a = none → sp (.ref a :: vs) (upd H1 a (exo a C none)) (fun v H2 => v = .non ∧ Q (.ref a) H2) fun _ _ _ => False
theorem pe_xnw {X : Cx} {C fI : Addr} {k : Nat} {fd : FuncData} {ps : List Str} {sp : Sp} {x : Str} {e : Expr} {es : List Expr} {ta : TA} {p pos : Pos} (T : OexC X.K C) (iC : PySem.W.findIn X.K (.ref C) "__init__" = some (some (.ref fI))) (tI : PySem.W.typeIn X.K (.ref fI) = some (.type "function"))
    (F : FnOk X.prog X.w X.K X.mg X.base (L2N.CX X.prog X.w) k fI fd ps sp) (hr : Room (k + 1) X.A) (hb : Binds X.K fd ps []) (hg : Gl X x) (hm : X.mg x = some (.ref C)) (ha : PA X (e :: es) ta)
    (hdb : (x == ("__debug__" : Str)) = false) (he : starEach (e :: es) X.env = (false, eval e X.env) :: starEach es X.env) (hpl : (backTo pos (starEach es X.env)).any (·.1) = false) : PE X (.Call (.Name x p) (e :: es) [] pos) (tXn C sp ta) := by
  refine ⟨fun pins s0 σ H Q I h => wpAny_Call_Name_kw (ld_glob I hg hm (PySem.W.callWith_K (h₀ := X.base) I.ok.mod.kin T.kC (thn (ha.run pos pins s0 σ H _ I h) fun us s1 ⟨vs, H1, I1, r1, hz, q1⟩ => ⟨I1.kIn, ?_⟩) he hpl) hdb)⟩
  refine made_by T iC tI F hr hb (fun _ _ _ _ z => by obtain ⟨_, _, _, _, _, _, _, _, _, _, _, _, no⟩ := z; exact no) I1 r1 hz (q1 (s1.heap.objs.size + 1) (I1.hok.fresh (Nat.le_succ _))) fun u s2 got => ?_
  obtain ⟨v, H', J', rv, ev, q⟩ := (hpX_inv I1 us C).after got
  subst ev
  exact ⟨rv, V.ref (s1.heap.objs.size + 1), H', J', rfl, q⟩

/-- a field of an exception that is held -/
def tXa (K : PySem.W.Frag) (n : Str) (te : TE) : TE := fun σ H Q => te σ H fun x H1 => ∃ a d C fs v, x = .ref a ∧ H1 a = some (exo a C (some d)) ∧ H1 d = some (exd d fs) ∧ XfC K C ∧ PySem.W.findIn K (.ref C) n = some none ∧ fs.lookup n = some v ∧ Q v H1
theorem pe_xat {X : Cx} {e : Expr} {te : TE} {pos : Pos} {n : Str} (he : PE X e te) (hb : attributeBase e n X.env (eval e X.env) = eval e X.env) : PE X (.Attribute e n pos) (tXa X.K n te) := by
  refine ⟨fun pins s σ H Q I h => L2.attr_of hb (thn (he.run pins s σ H _ I h) fun u s1 ⟨x, H1, I1, rx, a, d, C, fs, v, ex, ea, ed, T, no, l, q⟩ => ?_)⟩
  subst ex
  obtain rfl : u = Value.ref a := rx
  obtain ⟨t1, at1⟩ := exo_at I1.hok ea
  obtain ⟨mA, ns, rel⟩ := exd_at I1.hok ed
  obtain ⟨od, atd, looks⟩ := lookIn_ns ns
  obtain ⟨w, hw, rw'⟩ := RelO.some_of (v := v) (o := mA n) (by rw [← l]; exact rel n)
  exact PySem.HandSPX.exc_get I1.kIn (⟨at1, rfl, rfl, atd⟩ : PySem.W.InstAt s1.heap a _ C (some od)) T.ga T.gg T.exC (PySem.W.findObj_own T.hdC no rfl (by rw [looks, hw])) (handed_of rw') ⟨v, H1, I1.tok _, rw', q⟩
/-- isinstance of an exception that is held -/
def rXi (K : PySem.W.Frag) : List V → Hp → VK → Prop := fun xs H Q => ∃ (a d C : Addr) (fs : List (Str × V)) (t : V) (tv : Value) (b : Bool), xs = [.ref a, t] ∧ H a = some (exo a C (some d)) ∧ H d = some (exd d fs) ∧ XfC K C ∧ XiC K C ∧ (∀ u, RelV t u → u = tv) ∧ PySem.W.kitOne K (.ref C) tv = some b ∧ Q (.bl b) H
theorem call_xis {X : Cx} : CallR X (.builtin "isinstance") (rXi X.K) := by
  intro pins s σ H xs us Q I r h
  obtain ⟨a, d, C, fs, t, tv, b, rfl, ea, ed, T, T2, ht, hk, q⟩ := h
  cases r with
  | cons r1 rr =>
    cases rr with
    | cons r2 rr =>
      cases rr
      cases r1
      have e2 := ht _ r2
      subst e2
      obtain ⟨t1, at1⟩ := exo_at I.hok ea
      obtain ⟨mA, ns, rel⟩ := exd_at I.hok ed
      obtain ⟨od, atd, looks⟩ := lookIn_ns ns
      have J : PySem.W.InstAt s.heap a { cls := .ref C, dict := some d, data := .fields #[.ref t1, .none, .none, .none, .bool false, .none] } C (some od) := ⟨at1, rfl, rfl, atd⟩
      exact PySem.W.kia_one (PySem.W.kitx_exc T2.hcl T.ga T.gg T.exC T2.ha T2.hn T2.ht T2.hm) I.kIn J hk (fun z => nomatch z) fun tk => ⟨.bl b, H, I.kept (t' := tk) fun _ _ z => z, rfl, q⟩
theorem zip_look {α : Type} : ∀ {ns : List Str} {vs : List α} {i : Nat} {n : Str} {v : α}, ns.Nodup → ns[i]? = some n → vs[i]? = some v → (ns.zip vs).lookup n = some v
  | [], _, _, _, _, _, h, _ => by simp at h
  | _ :: _, [], _, _, _, _, _, h => by simp at h
  | m :: ns, u :: vs, 0, n, v, _, h1, h2 => by
    simp at h1 h2
    subst h1 h2
    simp [List.lookup]
  | m :: ns, u :: vs, i + 1, n, v, nd, h1, h2 => by
    have h1 : ns[i]? = some n := by simpa using h1
    have h2 : vs[i]? = some v := by simpa using h2
    have hne : n ≠ m := fun e => (List.nodup_cons.mp nd).1 (e ▸ List.mem_of_getElem? h1)
    rw [List.zip_cons_cons]
    have e : (n == m) = false := by simpa using hne
    simp only [List.lookup, e]
    exact zip_look (List.nodup_cons.mp nd).2 h1 h2
section
variable {S : Gs} {C : Ck} {sc : Scope} {fb : Str → Bool} {X : Cx} {W : WX}
theorem s_xnw (x0 : XOk S C sc fb X) (hc : C.hot = false) {c : Nat} {ks : List Bool} {as : Exs} {n : Str} {e : Expr} {es : List Expr} {p pos : Pos} (hx : C.xcn[c]? = some (n, ks)) (hg : glb sc n = true) (ho : okNm n = true) (ha : SA S W X as (e :: es)) (hk : ckEs C sc fb as (e :: es) = true) :
    SE S W X (.xnw c ks as) (.Call (.Name n p) (e :: es) [] pos) := by
  obtain ⟨h1, _, _⟩ := okNm_of ho
  have hs := notStar_all hk
  obtain ⟨Ca, fI, fd, ps, lv, klv, k1, k2, k3, k4, k5, k6, k7, _, _, _, k10, k11, k12, _⟩ := (x0.xcs c n ks hx).ex
  refine PE.imp (pe_xnw k3 k4 k5 k6 ((x0.room hc).mono (by omega)) k7 (glb_of x0 hg) k2 ha h1 (star_cons (hs e List.mem_cons_self)) (back_any fun y hy => hs y (List.mem_cons_of_mem _ hy))) fun σ H Q h => ?_
  obtain ⟨w, sl, mu, hH, F, P⟩ := h
  refine tA.bnd hH F P fun l vs sl1 mu1 w1 e1 F1 rv P1 => ?_
  by_cases hk : okX ks l = true
  case neg => rw [if_neg hk] at P1; exact P1.elim
  rw [if_pos hk] at P1
  have hv := okV_of hk rv
  have hfl : vs.length = (S.T.fld c).length := (okV_len hv).trans k10
  refine ⟨by rw [hfl]; omega, fun a ha => ⟨a, vs, rfl, hfl, hv, upd_same, fun d H' hd hne g1 g2 g3 => ⟨rfl, ?_⟩⟩⟩
  rw [upd_ne hne] at hd
  have gr : Grow w1.H H' := fun b o hb => g3 b o (ne_of_none hb ha) (by rw [upd_ne (ne_of_none hb ha)]; exact hb)
  have e2 := Wd.hp_ext gr
  exact P1 (w1.hp H') e2 (F1.hp gr) (.ref a) (by
    simp only [RepV]
    exact ⟨a, d, vs.reverse, rfl, by rw [k12]; exact g1, fun z => F1.wok.mtr a z ha, g2, fun z => F1.wok.mtr d z hd, by rw [List.length_reverse, hfl], Reps.reverse (Reps.ext F1.wok e2 _ _ rv)⟩)
theorem s_xat (x0 : XOk S C sc fb X) {tb : List (Nat × Nat)} {a : Ex} {n : Str} {o : Expr} {pos : Pos} (ht : tb.all (fun p => decide ((C.xfl[p.1]?).bind (·[p.2]?) = some n) && Nat.blt p.1 C.xcn.length) = true) (ha : SE S W X a o) (hs : notSuper o = true) :
    SE S W X (.xat tb a) (.Attribute o n pos) := by
  refine PE.imp (pe_xat ha (RA.attr_of hs)) fun σ H Q h => ?_
  obtain ⟨w, sl, mu, hH, F, P⟩ := h
  refine tE.bnd hH F P fun q u sl1 mu1 w1 e1 F1 rv P1 => ?_
  cases q with
  | exc c fs =>
    obtain ⟨z, hz, P1⟩ := P1.lift
    simp only [RepV] at rv
    obtain ⟨ad, d, vs, rfl, g1, _, g2, _, g3, g4⟩ := rv
    simp only [Option.bind_eq_some_iff] at hz
    obtain ⟨i, hi, hz⟩ := hz
    have hmem : (c, i) ∈ tb := by
      obtain ⟨l1, l2, rfl, _⟩ := List.lookup_eq_some_iff.mp hi
      simp
    have hq := List.all_eq_true.mp ht _ hmem
    simp only [Bool.and_eq_true, decide_eq_true_eq, Option.bind_eq_some_iff] at hq
    obtain ⟨⟨ns, n1, n2⟩, n3⟩ := hq
    have hlt : c < C.xcn.length := Nat.blt_eq.mp n3
    obtain ⟨Ca, fI, fd, ps, lv, klv, k1, k2, k3, k4, k5, k6, k7, k8, k9, k9', k10, k11, k12, _⟩ := (x0.xcs c C.xcn[c].1 C.xcn[c].2 (List.getElem?_eq_getElem hlt)).ex
    have hfl := x0.xfl c ns n1
    obtain ⟨v, hv, rv⟩ := g4.get hz
    rw [k12] at g1
    exact ⟨ad, d, Ca, _, v, rfl, g1, g2, k8, k9 n (by rw [hfl]; exact List.mem_of_getElem? n2), zip_look k9' (by rw [hfl]; exact n2) hv, P1 w1 (Ext.refl w1) F1 v rv⟩
  | _ => exact P1.elim
theorem s_xis (x0 : XOk S C sc fb X) {k : Nat} {tb : List (Nat × Bool)} {a : Ex} {y : Str} {x : Expr} {p p2 pos : Pos} (hk : C.icl[k]? = some (y, tb)) (hi : glb sc "isinstance" = true) (hg : glb sc y = true) (ho : okNm y = true) (ha : SE S W X a x) (hs : notStar x = true) :
    SE S W X (.xis k tb a) (.Call (.Name "isinstance" p) [x, .Name y p2] [] pos) := by
  obtain ⟨h1, _, h3⟩ := okNm_of ho
  obtain ⟨v, cv, rv, hu, hm, htb⟩ := x0.icl k y tb hk
  have hty : PE X (.Name y p2) (tC v) := by
    rcases hm with hm | ⟨hm, hbt⟩
    · exact pe_glob (glb_of x0 hg) hm rv h1
    · exact pe_bltn (glb_of x0 hg) hm hbt rv h3 h1
  refine PE.imp (pe_callB call_xis (glb_of x0 hi) (x0.blt _ (by decide +kernel)) PyProof.Rows.boot_isinstance (pa_cons ha (pa_cons hty pa_nil) (star_cons hs)) (by decide) (by decide) (star_cons hs) (by rfl)) fun σ H Q h => ?_
  obtain ⟨w, sl, mu, hH, F, P⟩ := h
  refine tE.bnd hH F P fun q u sl1 mu1 w1 e1 F1 rq P1 => ?_
  cases q with
  | exc c fs =>
    obtain ⟨z, hz, P1⟩ := P1.lift
    simp only [RepV] at rq
    obtain ⟨ad, d, vs, rfl, g1, _, g2, _, g3, g4⟩ := rq
    simp only [Option.map_eq_some_iff] at hz
    obtain ⟨b, hb, rfl⟩ := hz
    have hmem : (c, b) ∈ tb := by
      obtain ⟨l1, l2, rfl, _⟩ := List.lookup_eq_some_iff.mp hb
      simp
    obtain ⟨hlt, hkit⟩ := htb _ hmem
    obtain ⟨Ca, fI, fd, ps, lv, klv, k1, k2, k3, k4, k5, k6, k7, k8, k9, k9', k10, k11, k12, k13⟩ := (x0.xcs c C.xcn[c].1 C.xcn[c].2 (List.getElem?_eq_getElem hlt)).ex
    rw [k12] at g1 hkit
    exact ⟨ad, d, Ca, _, v, cv, b, rfl, g1, g2, k8, k13, hu, hkit, P1 w1 (Ext.refl w1) F1 (.bl b) (by simp only [RepV])⟩
  | _ => exact P1.elim
end
end RA

/-! The caught exception, by its name: its fields, isinstance. -/
namespace RA
open PySem PySem.Spec PyProof.Rows L2

/-- a field of the exception that is caught -/
def tExf (X : Cx) (i : Nat) (n : Str) : TE := fun σ H Q => ∃ a oe C d fs v, σ[i]? = some (some (.ref a)) ∧ (a, oe) ∈ X.pn ∧ Zc (.ref C) (some d) oe ∧ (∃ vs, oe.data = .fields vs) ∧ H d = some (.xd fs) ∧ XfC X.K C ∧ PySem.W.findIn X.K (.ref C) n = some none ∧ fs.lookup n = some v ∧ Q v H
theorem pe_exf {X : Cx} {i : Nat} {x n : Str} {p pos : Pos} (hN : X.N[i]? = some x) (hv : Vis X.env.scope x) (hb : attributeBase (.Name x p) n X.env (eval (.Name x p) X.env) = eval (.Name x p) X.env) (h1 : (x == ("__debug__" : Str)) = false) (h2 : (x == ("__classdict__" : Str)) = false) : PE X (.Attribute (.Name x p) n pos) (tExf X i n) := by
  refine ⟨fun pins s σ H Q I ⟨a, oe, C, d, fs, v, hs, hp, hz, hf, ea, T, hno, l, q⟩ => ?_⟩
  refine L2.attr_of hb (thn ((pe_var hN hv h1 h2).run pins s σ H (fun v H1 => v = .ref a ∧ H1 = H) I ⟨.ref a, hs, rfl, rfl⟩) fun u s1 hh => ?_)
  obtain ⟨y, H1, I1, rx, ey, eH⟩ := hh
  subst ey eH
  obtain rfl : u = Value.ref a := rx
  obtain ⟨ha, _⟩ := I1.pin (a, oe) (List.mem_append_left _ hp)
  obtain ⟨vs, hd⟩ := hf
  have hx : ObjOk X.prog X.w H1 s1.heap d (.xd fs) := I1.hok d _ ea
  obtain ⟨mA, hns, hr⟩ := hx
  obtain ⟨od, ho, hl⟩ := lookIn_ns hns
  obtain ⟨u, hu, ru⟩ := RelO.some_of (v := v) (o := mA n) (by rw [← l]; exact hr n)
  have J : PySem.W.InstAt s1.heap a oe C (some od) := ⟨ha, hz.1, by unfold PySem.W.notCls; rw [hd] <;> rfl, by rw [hz.2]; exact ho⟩
  exact HandSPX.exc_get I1.kIn J T.ga T.gg T.exC (PySem.W.findObj_own T.hdC hno rfl (by rw [hl, hu])) (handed_of ru) ⟨v, H1, I1.tok _, ru, q⟩
/-- isinstance of the exception that is caught -/
def rXie (X : Cx) : List V → Hp → VK → Prop := fun xs H Q => ∃ (a d C : Addr) (oe : Obj) (fs : List (Str × V)) (t : V) (tv : Value) (b : Bool), xs = [.ref a, t] ∧ (a, oe) ∈ X.pn ∧ Zc (.ref C) (some d) oe ∧ (∃ vs, oe.data = .fields vs) ∧ H d = some (.xd fs) ∧ XfC X.K C ∧ XiC X.K C ∧ (∀ u, RelV t u → u = tv) ∧ PySem.W.kitOne X.K (.ref C) tv = some b ∧ Q (.bl b) H
theorem call_xie {X : Cx} : CallR X (.builtin "isinstance") (rXie X) := by
  intro pins s σ H xs us Q I r h
  obtain ⟨a, d, C, oe, fs, t, tv, b, rfl, hp, hz, hf, ed, T, T2, ht, hk, q⟩ := h
  cases r with
  | cons r1 rr =>
    cases rr with
    | cons r2 rr =>
      cases rr
      cases r1
      have e2 := ht _ r2
      subst e2
      obtain ⟨ha, _⟩ := I.pin (a, oe) (List.mem_append_left _ hp)
      obtain ⟨vs, hd⟩ := hf
      have hx : ObjOk X.prog X.w H s.heap d (.xd fs) := I.hok d _ ed
      obtain ⟨mA, hns, hr⟩ := hx
      obtain ⟨od, ho, hl⟩ := lookIn_ns hns
      have J : PySem.W.InstAt s.heap a oe C (some od) := ⟨ha, hz.1, by unfold PySem.W.notCls; rw [hd] <;> rfl, by rw [hz.2]; exact ho⟩
      exact PySem.W.kia_one (PySem.W.kitx_exc T2.hcl T.ga T.gg T.exC T2.ha T2.hn T2.ht T2.hm) I.kIn J hk (fun z => nomatch z) fun tk => ⟨.bl b, H, I.kept (t' := tk) fun _ _ z => z, rfl, q⟩
section
variable {S : Gs} {C : Ck} {sc : Scope} {fb : Str → Bool} {X : Cx} {W : WX}
theorem s_exf (x0 : XOk S C sc fb X) {i c k : Nat} {x n : Str} {p pos : Pos} (hi : C.N[i]? = some x) (hv : vis sc x = true) (ho : okNm x = true) (hn : (C.xfl[c]?).bind (·[k]?) = some n) : SE S W X (.exf i c k) (.Attribute (.Name x p) n pos) := by
  obtain ⟨h1, h2, _⟩ := okNm_of ho
  refine PE.imp (pe_exf (i := i) (by rw [x0.N]; exact hi) (vis_of x0 hv) (RA.attr_of rfl) h1 h2) fun σ H Q h => ?_
  obtain ⟨w, sl, mu, hH, F, P⟩ := h
  subst hH
  have P2 : Pst S.T S.C W σ w (match sl[i]? with
    | some (.ex c' fs) => if c' == c then lift fs[k]? sl mu else .stk
    | _ => .stk) (QE S.T Q) := P
  clear P
  cases e : sl[i]? with
  | none => rw [e] at P2; exact P2.elim
  | some z =>
    rw [e] at P2
    cases z with
    | ex c' fs =>
      by_cases hc : (c' == c) = true
      · have P3 : Pst S.T S.C W σ w (if (c' == c) = true then lift fs[k]? sl mu else .stk) (QE S.T Q) := P2
        rw [if_pos hc] at P3
        obtain rfl := eq_of_beq hc
        obtain ⟨v0, hv0, P1⟩ := P3.lift
        obtain ⟨a, d, vs, hs, hx, hd, hl, hm, hr⟩ := F.ex i c' fs e
        obtain ⟨hlt, oe, hp, hz, hf⟩ := x0.pin _ hx
        obtain ⟨Ca, fI, fd, ps, lv, klv, k1, k2, k3, k4, k5, k6, k7, k8, k9, k9', k10, k11, k12, k13⟩ := (x0.xcs c' C.xcn[c'].1 C.xcn[c'].2 (List.getElem?_eq_getElem hlt)).ex
        simp only [Option.bind_eq_some_iff] at hn
        obtain ⟨ns, n1, n2⟩ := hn
        have hfl := x0.xfl c' ns n1
        obtain ⟨v, hv, rv⟩ := hr.get hv0
        have hz := hz.zc
        rw [k1] at hz
        exact ⟨a, oe, Ca, d, _, v, hs, hp, hz, hf, hd, k8, k9 n (by rw [hfl]; exact List.mem_of_getElem? n2), zip_look k9' (by rw [hfl]; exact n2) hv, P1 w (Ext.refl w) F v rv⟩
      · have P3 : Pst S.T S.C W σ w (if (c' == c) = true then lift fs[k]? sl mu else .stk) (QE S.T Q) := P2
        rw [if_neg hc] at P3
        exact P3.elim
    | _ => exact P2.elim
theorem s_xie (x0 : XOk S C sc fb X) {i k : Nat} {tb : List (Nat × Bool)} {z y : Str} {pz p p2 pos : Pos} (hN : C.N[i]? = some z) (hvz : vis sc z = true) (hoz : okNm z = true) (hk : C.icl[k]? = some (y, tb)) (hi : glb sc "isinstance" = true) (hg : glb sc y = true) (ho : okNm y = true) :
    SE S W X (.xie i k tb) (.Call (.Name "isinstance" p) [.Name z pz, .Name y p2] [] pos) := by
  obtain ⟨h1, _, h3⟩ := okNm_of ho
  obtain ⟨g1, g2, _⟩ := okNm_of hoz
  obtain ⟨v, cv, rv, hu, hm, htb⟩ := x0.icl k y tb hk
  have hty : PE X (.Name y p2) (tC v) := by
    rcases hm with hm | ⟨hm, hbt⟩
    · exact pe_glob (glb_of x0 hg) hm rv h1
    · exact pe_bltn (glb_of x0 hg) hm hbt rv h3 h1
  have hz : PE X (.Name z pz) _ := pe_var (i := i) (by rw [x0.N]; exact hN) (vis_of x0 hvz) g1 g2
  refine PE.imp (pe_callB call_xie (glb_of x0 hi) (x0.blt _ (by decide +kernel)) PyProof.Rows.boot_isinstance (pa_cons hz (pa_cons hty pa_nil) rfl) (by decide) (by decide) rfl (by rfl)) fun σ H Q h => ?_
  obtain ⟨w, sl, mu, hH, F, P⟩ := h
  subst hH
  have P2 : Pst S.T S.C W σ w (match sl[i]? with
    | some (.ex c' fs) => lift ((tb.lookup c').map .bl) sl mu
    | _ => .stk) (QE S.T Q) := P
  clear P
  cases e : sl[i]? with
  | none => rw [e] at P2; exact P2.elim
  | some q =>
    rw [e] at P2
    cases q with
    | ex c' fs =>
      have P3 : Pst S.T S.C W σ w (lift ((tb.lookup c').map .bl) sl mu) (QE S.T Q) := P2
      obtain ⟨v0, hv0, P1⟩ := P3.lift
      simp only [Option.map_eq_some_iff] at hv0
      obtain ⟨b, hb, rfl⟩ := hv0
      obtain ⟨a, d, vs, hs, hx, hd, hl, hm', hr⟩ := F.ex i c' fs e
      obtain ⟨hlt, oe, hp, hz, hf⟩ := x0.pin _ hx
      have hmem : (c', b) ∈ tb := by
        obtain ⟨l1, l2, rfl, _⟩ := List.lookup_eq_some_iff.mp hb
        simp
      obtain ⟨_, hkit⟩ := htb _ hmem
      obtain ⟨Ca, fI, fd, ps, lv, klv, k1, k2, k3, k4, k5, k6, k7, k8, k9, k9', k10, k11, k12, k13⟩ := (x0.xcs c' C.xcn[c'].1 C.xcn[c'].2 (List.getElem?_eq_getElem hlt)).ex
      have hz := hz.zc
      rw [k1] at hz
      rw [k12] at hkit
      exact ⟨.ref a, hs, a, d, Ca, oe, _, v, cv, b, rfl, hp, hz, hf, hd, k8, k13, hu, hkit, P1 w (Ext.refl w) F (.bl b) (by simp only [RepV])⟩
    | _ => exact P2.elim
end
end RA

set_option maxHeartbeats 1000000
/-! Own objects: made, their fields read and stored, their methods called; lists that change. -/
namespace RA
open PySem PySem.Spec PyProof.Rows L2

/-! ### worlds with a new cell, with a changed cell -/
section
variable {T : Tb} {w : Wd} {σ : L2.St} {sl : List Sl} {mu : List PV}
def Wd.nuX (w : Wd) (q : Addr) (o : HO) : Wd := { w with H := upd w.H q o, m := w.m ++ [q], wr := fun a => w.wr a ∨ a = q, mb := fun a => w.mb a ∨ a = q }
theorem nuX_ext {q : Addr} {o : HO} (hq : w.H q = none) : Ext w (w.nuX q o) where
  pre := fun n a h => by
    show (w.m ++ [q])[n]? = some a
    rw [List.getElem?_append_left (List.getElem?_eq_some_iff.mp h).1]; exact h
  keep := fun a u h _ => by show upd w.H q _ a = _; rw [upd_ne (ne_of_none h hq)]; exact h
  trk := fun a h => by
    show upd w.H q _ a ≠ none
    by_cases e : a = q
    · rw [e, upd_same]; simp
    · rw [upd_ne e]; exact h
  mt := fun a h => h.elim .inl fun e => .inr (e ▸ hq)
  mkp := fun a h _ => .inl h
  ws := fun a h => h.elim .inl fun e => .inr (e ▸ hq)
  xs := rfl
theorem FRel.nuX {q : Addr} {o : HO} {c : PV} (F : FRel T w σ sl mu) (hq : w.H q = none) (r : CRep T (w.nuX q o) q c) : FRel T (w.nuX q o) σ sl (mu ++ [c]) := by
  have e := nuX_ext (o := o) hq
  have k : ∀ a u, w.H a = some u → (w.nuX q o).H a = some u := fun a u h => by show upd w.H q _ a = _; rw [upd_ne (ne_of_none h hq)]; exact h
  have nw : ∀ {a : Addr}, w.wr a → a ≠ q := fun h z => F.wok.mtr _ (F.wok.sub _ h) (z ▸ hq)
  have nm : q ∉ w.m := fun z => nw (F.cellOf z) rfl
  have hml := F.cel.mlen
  have ok : WOk (w.nuX q o) := ⟨fun a h => h.elim (fun z => .inl (F.wok.sub a z)) .inr, fun a h => h.elim (fun z => e.trk a (F.wok.mtr a z)) fun z => by show upd w.H q _ a ≠ none; rw [z, upd_same]; simp⟩
  refine ⟨ok, F.len, fun i p h => ?_, fun i p h => ?_, F.ows, ⟨by show (w.m ++ [q]).length = _; simp [hml], fun n c' a h1 h2 => ?_, fun n n' a h1 h2 => ?_⟩, fun i c fs h => ex_ext F.wok e (F.ex i c fs h)⟩
  · obtain ⟨v, h1, h2⟩ := F.va i p h
    exact ⟨v, h1, RepV.ext F.wok e p v h2⟩
  · obtain ⟨a, h1, h2, h3, h4⟩ := F.ow i p h
    refine ⟨a, h1, h2.ext_keep F.wok e (k a), .inl h3, fun z => ?_⟩
    rcases List.mem_append.mp (show a ∈ w.m ++ [q] from z) with z | z
    · exact h4 z
    · exact nw h3 (List.mem_singleton.mp z)
  · have h2 : (w.m ++ [q])[n]? = some a := h2
    by_cases hn : n < w.m.length
    · rw [List.getElem?_append_left hn] at h2
      rw [List.getElem?_append_left (by omega)] at h1
      obtain ⟨h3, h4⟩ := F.cel.cl n c' a h1 h2
      exact ⟨h3.ext_keep F.wok e (k a), .inl h4⟩
    · rw [List.getElem?_append_right (by omega)] at h1 h2
      have z1 : n - w.m.length = 0 := by
        have := (List.getElem?_eq_some_iff.mp h2).1
        simp at this
        omega
      have z2 : n - mu.length = 0 := by omega
      rw [z1] at h2
      rw [z2] at h1
      simp at h1 h2
      subst h1 h2
      exact ⟨r, .inr rfl⟩
  · have h1 : (w.m ++ [q])[n]? = some a := h1
    have h2 : (w.m ++ [q])[n']? = some a := h2
    have at_ : ∀ {j : Nat}, (w.m ++ [q])[j]? = some a → (w.m[j]? = some a ∧ a ∈ w.m) ∨ (j = w.m.length ∧ a = q) := fun {j} h => by
      by_cases hj : j < w.m.length
      · rw [List.getElem?_append_left hj] at h
        exact .inl ⟨h, List.mem_of_getElem? h⟩
      · rw [List.getElem?_append_right (by omega)] at h
        have := (List.getElem?_eq_some_iff.mp h).1
        simp at this
        have z : j - w.m.length = 0 := by omega
        rw [z] at h
        simp at h
        exact .inr ⟨by omega, h.symm⟩
    rcases at_ h1 with ⟨g1, g2⟩ | ⟨g1, g2⟩ <;> rcases at_ h2 with ⟨k1, k2⟩ | ⟨k1, k2⟩
    · exact F.cel.inj n n' a g1 k1
    · exact absurd (k2 ▸ g2) nm
    · exact absurd (g2 ▸ k2) nm
    · omega
def Wd.wrX (w : Wd) (q : Addr) (o : HO) : Wd := { w with H := upd w.H q o }
theorem wrX_ext {q : Addr} {o : HO} (hq : w.wr q) : Ext w (w.wrX q o) where
  pre := fun _ _ h => h
  keep := fun a u h k => by show upd w.H q _ a = _; rw [upd_ne (by intro z; subst z; exact k hq)]; exact h
  trk := fun a h => by
    show upd w.H q _ a ≠ none
    by_cases e : a = q
    · rw [e, upd_same]; simp
    · rw [upd_ne e]; exact h
  mt := fun a h => .inl h
  mkp := fun a h _ => h
  ws := fun a h => .inl h
  xs := rfl
theorem FRel.wrX {q : Addr} {o : HO} {c : PV} {n : Nat} (F : FRel T w σ sl mu) (hn : w.m[n]? = some q) (r : CRep T (w.wrX q o) q c) : FRel T (w.wrX q o) σ sl (mu.set n c) := by
  have hq : w.wr q := F.cellOf (List.mem_of_getElem? hn)
  have e := wrX_ext (o := o) hq
  have k : ∀ a u, a ≠ q → w.H a = some u → (w.wrX q o).H a = some u := fun a u n h => by show upd w.H q _ a = _; rw [upd_ne n]; exact h
  have hnl : n < mu.length := by rw [← F.cel.mlen]; exact (List.getElem?_eq_some_iff.mp hn).1
  refine ⟨⟨F.wok.sub, fun a h => e.trk a (F.wok.mtr a h)⟩, F.len, fun j p hj => ?_, fun j p hj => ?_, F.ows, ⟨by simp; exact F.cel.mlen, fun j c' a h1 h2 => ?_, F.cel.inj⟩, fun i c fs h => ex_ext F.wok e (F.ex i c fs h)⟩
  · obtain ⟨v, h1, h2⟩ := F.va j p hj
    exact ⟨v, h1, RepV.ext F.wok e p v h2⟩
  · obtain ⟨a, h1, h2, h3, h4⟩ := F.ow j p hj
    exact ⟨a, h1, h2.ext_keep F.wok e fun o => k a o fun y => h4 (y ▸ List.mem_of_getElem? hn), h3, h4⟩
  · have h2 : w.m[j]? = some a := h2
    by_cases z : n = j
    · subst z
      rw [List.getElem?_set_self hnl] at h1
      cases h1
      rw [hn] at h2; cases h2
      exact ⟨r, hq⟩
    · rw [List.getElem?_set_ne z] at h1
      obtain ⟨h3, h4⟩ := F.cel.cl j c' a h1 h2
      exact ⟨h3.ext_keep F.wok e fun o => k a o fun y => z (F.cel.inj n j q hn (y ▸ h2)), h4⟩
end
/-! ### fields by their places -/
theorem zip_at {α : Type} : ∀ {ns : List Str} {vs : List α} {i : Nat} {n : Str} {v : α}, ns.Nodup → ns[i]? = some n → vs[i]? = some v → (ns.zip vs).lookup n = some v
  | [], _, _, _, _, _, h, _ => by simp at h
  | _ :: _, [], _, _, _, _, _, h => by simp at h
  | m :: ns, u :: vs, 0, n, v, _, h1, h2 => by
    simp at h1 h2
    subst h1 h2
    simp [List.lookup]
  | m :: ns, u :: vs, i + 1, n, v, nd, h1, h2 => by
    have h1 : ns[i]? = some n := by simpa using h1
    have h2 : vs[i]? = some v := by simpa using h2
    have hne : n ≠ m := fun e => (List.nodup_cons.mp nd).1 (e ▸ List.mem_of_getElem? h1)
    rw [List.zip_cons_cons]
    have e : (n == m) = false := by simpa using hne
    simp only [List.lookup, e]
    exact zip_at (List.nodup_cons.mp nd).2 h1 h2
theorem zip_no {α : Type} : ∀ {ns : List Str} {vs : List α} {n : Str}, n ∉ ns → (ns.zip vs).lookup n = none
  | [], _, _, _ => by simp
  | _ :: _, [], _, _ => by simp
  | m :: ns, u :: vs, n, h => by
    have hne : n ≠ m := fun e => h (e ▸ List.mem_cons_self)
    have e : (n == m) = false := by simpa using hne
    rw [List.zip_cons_cons]
    simp only [List.lookup, e]
    exact zip_no fun z => h (List.mem_cons_of_mem _ z)
theorem putF_zip : ∀ {ns : List Str} {vs : List V} {i : Nat} {n : Str} {v : V}, ns.Nodup → ns[i]? = some n → i < vs.length → putF n v (ns.zip vs) = ns.zip (vs.set i v)
  | [], _, _, _, _, _, h, _ => by simp at h
  | _ :: _, [], _, _, _, _, _, h => by simp at h
  | m :: ns, u :: vs, 0, n, v, _, h1, _ => by
    simp at h1
    subst h1
    simp [putF]
  | m :: ns, u :: vs, i + 1, n, v, nd, h1, h2 => by
    have h1 : ns[i]? = some n := by simpa using h1
    have hne : m ≠ n := fun e => (List.nodup_cons.mp nd).1 (e ▸ List.mem_of_getElem? h1)
    rw [List.zip_cons_cons, List.set_cons_succ, List.zip_cons_cons]
    show (if m = n then _ else _) = _
    rw [if_neg hne, putF_zip (List.nodup_cons.mp nd).2 h1 (by simpa using h2)]
theorem putF_end : ∀ {ns : List Str} {vs : List V} {n : Str} {v : V}, ns.Nodup → ns[vs.length]? = some n → putF n v (ns.zip vs) = ns.zip (vs ++ [v])
  | [], _, _, _, _, h => by simp at h
  | m :: ns, [], n, v, _, h => by
    simp at h
    subst h
    simp [putF]
  | m :: ns, u :: vs, n, v, nd, h => by
    have h1 : ns[vs.length]? = some n := by simpa using h
    have hne : m ≠ n := fun e => (List.nodup_cons.mp nd).1 (e ▸ List.mem_of_getElem? h1)
    rw [List.zip_cons_cons, List.cons_append, List.zip_cons_cons]
    show (if m = n then _ else _) = _
    rw [if_neg hne, putF_end (List.nodup_cons.mp nd).2 h1]
theorem zip_small {α β : Type} (ns : List α) (vs : List β) : (ns.zip vs).length ≤ ns.length := by rw [List.length_zip]; exact Nat.min_le_left _ _

/-! ### calls whose wish hangs on the slots -/
section
variable {X : Cx} {CX : CXT} {k : Nat} {g C : Addr} {fd : FuncData} {ps : List Str} {sp : Sp} {E : L2.St → XK}
/-- o.m(..) -/
theorem pe_mthS {m : Str} {o : Expr} {es : List Expr} {ta : TE} {t : TA} {apos pos : Pos} {pl : Sem Bool} (he : PE X o ta) (hc : Cls X.K C) (hm : L2.Meth X.K C m g) (F : FnS X.prog X.w X.K X.mg X.base CX k g fd ps sp) (gd : Gd X.A) (hr : Room k X.A) (hb : Binds X.K fd ps [])
    (hx : ∀ σ, PassesAt CX X σ (E σ)) (ha : PA X es t) (hn : es = [] → ∀ σ H (Q : List V → Hp → Prop), t σ H Q → Q [] H) (hs : ∀ e ∈ es, notStar e = true)
    (ht : eval (.Call (.Attribute o m apos) es [] pos) X.env = (do
      let ov ← eval o X.env
      standAt apos.atName
      let (f, first) ← holding [ov] (getMethod ov m pl)
      callWith pos f first (backTo pos (starEach es X.env)) (backToKw pos (keywordEach [] X.env)))) :
    PE X (.Call (.Attribute o m apos) es [] pos) (L2H.tMethH C m sp E ta t) := by
  refine ⟨fun pins s0 σ H Q I asked => PySem.W.methodCall_KW (pl := pl) (thn (he.run pins s0 σ H _ I asked) fun u s1 ⟨x, H1, I1, rx, a, dx, fs, ex, ea, no, q⟩ => ?_) ht⟩
  subst ex
  obtain rfl : u = Value.ref a := rx
  have fin : ∀ {us : List Value} {vs : List V} {s2 : Shared} {H2 : Hp}, Inv X pins σ H2 s2 → Vals vs us → sp (.ref a :: vs) H2 Q (E σ) → wpAny (model X.prog X.w) X.A (call (.ref g) (.ref a :: us)) (EP X pins σ Q) X.xe s2 := fun {us vs s2 H2} I2 r q2 =>
    run_S (us := .ref a :: us) (vs := .ref a :: vs) F gd hr hb (hx σ) I2 (.cons rfl r) q2
  refine getmeth_ok I1 ea hc hm no ?_
  cases es with
  | nil => exact PySem.W.callWith_K0 (first := [.ref a]) I1.kIn hm.kp (fin I1 .nil (hn rfl σ H1 _ q))
  | cons e es =>
    exact PySem.W.callWith_K (first := [.ref a]) (h₀ := X.base) I.ok.mod.kin hm.kp (thn (ha.run pos pins s1 σ H1 _ I1 q) fun us s2 ⟨vs, H2, I2, r, q2⟩ => ⟨I2.kIn, fin I2 r q2⟩) (star_cons (hs e List.mem_cons_self)) (back_any fun y hy => hs y (List.mem_cons_of_mem _ hy))
theorem Gd.make {A : Around} (h : Gd A) (C : Addr) (us : List Value) : Gd (A.under (.builtin "type.__call__" ⟨.ref C :: us, []⟩)) := by
  have e : Code.guards (.builtin "type.__call__" ⟨.ref C :: us, []⟩) = [] := by
    have z : Code.isGuard (.builtin "type.__call__" ⟨.ref C :: us, []⟩) = false := by
      show guardIds.contains "type.__call__" = false
      decide +kernel
    unfold Code.guards
    rw [z]
    rfl
  unfold Gd at h ⊢
  show pushGuards (Code.guards (.builtin "type.__call__" ⟨.ref C :: us, []⟩)) A.guards = some []
  rw [e, h]
  rfl
/-- the reading: a new object, its initializer -/
def tNu (C : Addr) (sp : Sp) (E : L2.St → XK) (t : TA) : TE := fun σ H Q => t σ H fun vs H1 => ∀ x dx, H1 x = none → H1 dx = none → dx ≠ x → sp (.ref x :: vs) (upd (upd H1 dx (.own x)) x (.ins C dx [])) (fun v H2 => v = .non ∧ Q (.ref x) H2) (E σ)
theorem pe_nu {x : Str} {es : List Expr} {t : TA} {p pos : Pos} (M : L2.Mk X.K C g) (F : FnS X.prog X.w X.K X.mg X.base CX k g fd ps sp) (gd : Gd X.A) (hr : Room (k + 1) X.A) (hb : Binds X.K fd ps []) (hx : ∀ σ, PassesAt CX X σ (E σ)) (hg : Gl X x) (hm : X.mg x = some (.ref C))
    (ha : PA X es t) (hn : es = [] → ∀ σ H (Q : List V → Hp → Prop), t σ H Q → Q [] H) (hs : ∀ e ∈ es, notStar e = true) (hd : (x == ("__debug__" : Str)) = false) : PE X (.Call (.Name x p) es [] pos) (tNu C sp E t) := by
  refine ⟨fun pins s0 σ H Q I asked => wpAny_Call_Name_kw (ld_glob I hg hm ?_ hd)⟩
  have fin : ∀ {us : List Value} {vs : List V} {s1 : Shared} {H1 : Hp}, Inv X pins σ H1 s1 → Vals vs us → (∀ x dx, H1 x = none → H1 dx = none → dx ≠ x → sp (.ref x :: vs) (upd (upd H1 dx (.own x)) x (.ins C dx [])) (fun v H2 => v = .non ∧ Q (.ref x) H2) (E σ)) →
      wpAny (model X.prog X.w) X.A (call (.ref C) us) (EP X pins σ Q) X.xe s1 := fun {us vs s1 H1} I1 r q => by
    have wish := q (s1.heap.objs.size + 1) s1.heap.objs.size (I1.hok.fresh (Nat.le_succ _)) (I1.hok.fresh (Nat.le_refl _)) (Nat.ne_of_lt (Nat.lt_succ_self _))
    have J := Inv.made (C := C) I1
    have rr : Vals (V.ref (s1.heap.objs.size + 1) :: vs) (Value.ref (s1.heap.objs.size + 1) :: us) := .cons rfl r
    have len : (Value.ref (s1.heap.objs.size + 1) :: us).length = ps.length := rr.length.symm.trans (F.len wish)
    have bind := hb _ (Value.ref (s1.heap.objs.size + 1) :: us) J.kIn (by rw [List.append_nil]; exact len)
    rw [List.append_nil] at bind
    refine wpAny_call (make_map (f := g) I1.kIn M.makes M.init (beq_iff_eq.mp M.fn) (codeAny_mono (F.run (gd.make C us) (hr.make C us []) (J.env0.make C us []) bind rr wish) fun res s2 got => ?_))
    cases res with
    | error er => exact hx σ pins _ _ er s2 J got
    | ok fl =>
      cases fl with
      | ret u =>
        obtain ⟨v, H', J', rv, ev, q3⟩ := J.after got
        subst ev
        exact ⟨rv, V.ref (s1.heap.objs.size + 1), H', J', rfl, q3⟩
      | _ => exact got.elim
  cases es with
  | nil => exact PySem.W.callWith_K0 I.kIn M.kp (fin I .nil (hn rfl σ H _ asked))
  | cons e es => exact PySem.W.callWith_K (h₀ := X.base) I.ok.mod.kin M.kp (thn (ha.run pos pins s0 σ H _ I asked) fun us s1 ⟨vs, H1, I1, r, q⟩ => ⟨I1.kIn, fin I1 r q⟩) (star_cons (hs e List.mem_cons_self)) (back_any fun y hy => hs y (List.mem_cons_of_mem _ hy))
end
section
variable {S : Gs} {C : Ck} {sc : Scope} {fb : Str → Bool} {X : Cx} {W : WX}
/-- what a call's wish becomes behind it -/
theorem cf_wish {f : Nat} {w : Wd} {σ : L2.St} {sl : List Sl} {mu ps : List PV} {vs : List V} {α : Type} {Q : VK} {R : α → List Sl → List PV → Wd → Prop} (F : FRel S.T w σ sl mu) (rv : Reps S.T w ps vs) {ok : PV → List PV → Res α}
    (P : Pst S.T S.C W σ w (match S.cf f ps mu with | .stk => .stk | .ok p m => ok p m | .exc e m => .exc e sl m) R)
    (h : ∀ p mu' v w', Ext w w' → FRel S.T w' σ sl mu' → RepV S.T w' p v → Pst S.T S.C W σ w (ok p mu') R → Q v w'.H) : spF S f vs w.H Q (WE W σ) := by
  obtain ⟨i1, i2⟩ := call_in F
  refine ⟨w.wrs (· ∈ w.m), ps, mu, rfl, i1, i2, fun a h => h, Reps.wrs ps vs rv, ?_⟩
  generalize S.cf f ps mu = r at P ⊢
  cases r with
  | stk => exact P
  | ok p mu' =>
    intro v w' ex okk cr rv'
    obtain ⟨o1, o2⟩ := call_out F ex okk cr
    exact h p mu' v (w'.wrs fun a => w.wr a ∨ w'.wr a) o1 o2 (RepV.wrs p v rv') P
  | exc e mu' =>
    intro cls d w' ex okk cr rx
    obtain ⟨o1, o2⟩ := call_out F ex okk cr
    have P : Pst S.T S.C W σ w (.exc e sl mu') R := P
    refine P cls d (w'.wrs fun a => w.wr a ∨ w'.wr a) o1 o2 ?_
    obtain ⟨c, fs, d', us, r1, r0, r2, r3, r4, r5, r6, r7⟩ := rx
    exact ⟨c, fs, d', us, r1, r0, r2, r3, r4, r5, r6, Reps.wrs fs us r7⟩
theorem a_nilH {as : Exs} (hk : ckEs C sc fb as [] = true) : ∀ (σ : L2.St) (H : Hp) (Q : List V → Hp → Prop), tA S.T S.C W (sA S as) σ H Q → Q [] H := fun σ H Q h => by
  cases as with
  | nil =>
    obtain ⟨w, sl, mu, rfl, F, P⟩ := h
    exact P w (Ext.refl w) F [] (by simp only [Reps])
  | cons _ _ => simp [ckEs] at hk
theorem s_new (x0 : XOk S C sc fb X) (hc : C.hot = false) (tk : L2N.Takes X W) {c f : Nat} {x : Str} {as : Exs} {es : List Expr} {p pos : Pos} (hx : C.cln[c]? = some x) (hf : C.mtn[f]? = some (some (c, ("__init__" : Str)))) (hv : glb sc x = true) (ho : okNm x = true) (ha : SA S W X as es) (hk : ckEs C sc fb as es = true) :
    SE S W X (.new c f as) (.Call (.Name x p) es [] pos) := by
  obtain ⟨h1, _, _⟩ := okNm_of ho
  obtain ⟨a, k1, k2, k3, k4⟩ := x0.mts hc f c _ hf
  obtain ⟨fd, ps, l, kl, k5, k6, k7⟩ := k3.ex
  have hs := notStar_all hk
  refine PE.imp (pe_nu (E := WE W) (k4 rfl) k7 k3.gd ((x0.room hc).mono kl) k6 (fun σ => L2N.passAt tk σ) (glb_of x0 hv) (x0.cls c x hx) ha (fun e σ H Q h => by subst e; exact a_nilH hk σ H Q h) hs h1) fun σ H Q h => ?_
  obtain ⟨w, sl, mu, hH, F, P⟩ := h
  refine tA.bnd hH F P fun l us sl1 mu1 w1 e1 F1 rv P1 => fun q dq hq hdq hne => ?_
  have F2 := F1.put (o := .own q) hdq
  have hq2 : (w1.put dq (.own q)).H q = none := by show upd w1.H dq _ q = none; rw [upd_ne (Ne.symm hne)]; exact hq
  have F3 : FRel S.T ((w1.put dq (.own q)).nuX q (.ins (S.T.cla c) dq [])) σ sl1 (mu1 ++ [.obj c []]) := F2.nuX hq2 ⟨dq, [], by show upd _ q _ q = _; rw [upd_same, List.zip_nil_right], Nat.zero_le _, by simp only [Reps]⟩
  have e3 : Ext w1 ((w1.put dq (.own q)).nuX q (.ins (S.T.cla c) dq [])) := (Wd.put_ext hdq).trans F1.wok (nuX_ext hq2)
  have rn : RepV S.T ((w1.put dq (.own q)).nuX q (.ins (S.T.cla c) dq [])) (.ref mu1.length) (.ref q) := by
    simp only [RepV]
    exact ⟨q, rfl, by show (w1.m ++ [q])[mu1.length]? = _; rw [← F1.cel.mlen]; simp⟩
  have rv3 : Reps S.T ((w1.put dq (.own q)).nuX q (.ins (S.T.cla c) dq [])) (.ref mu1.length :: l) (.ref q :: us) := by
    simp only [Reps]
    exact ⟨.ref q, us, rfl, rn, Reps.ext F1.wok e3 _ _ rv⟩
  have P1 : Pst S.T S.C W σ w1 (match S.cf f (.ref mu1.length :: l) (mu1 ++ [.obj c []]) with | .stk => .stk | .ok .non m1 => .ok (.ref mu1.length) sl1 m1 | .ok _ _ => .stk | .exc e m1 => .exc e sl1 m1) (QE S.T Q) := P1
  have P2 : Pst S.T S.C W σ ((w1.put dq (.own q)).nuX q (.ins (S.T.cla c) dq [])) (match S.cf f (.ref mu1.length :: l) (mu1 ++ [.obj c []]) with | .stk => .stk | .ok p m1 => (match p with | .non => .ok (.ref mu1.length) sl1 m1 | _ => .stk) | .exc e m1 => .exc e sl1 m1) (QE S.T Q) := by
    generalize S.cf f (.ref mu1.length :: l) (mu1 ++ [.obj c []]) = r at P1 ⊢
    cases r with
    | stk => exact P1
    | ok p m1 =>
      cases p with
      | non => exact fun w' e' F' => P1 w' (e3.trans F1.wok e') F'
      | _ => exact P1
    | exc e m1 => exact fun cls d w' e' F' rx => P1 cls d w' (e3.trans F1.wok e') F' rx
  refine cf_wish (α := PV) (R := QE S.T Q) (ok := fun p m1 => match p with | .non => Res.ok (PV.ref mu1.length) sl1 m1 | _ => Res.stk) F3 rv3 P2 fun p mu' v w' e' F' rv' P' => ?_
  cases p with
  | non =>
    simp only [RepV] at rv'
    exact ⟨rv', P' w' e' F' (.ref q) (RepV.ext F3.wok e' _ _ rn)⟩
  | _ => exact P'.elim
theorem s_att (x0 : XOk S C sc fb X) {c x : Nat} {ns : List Str} {n : Str} {a : Ex} {o : Expr} {pos : Pos} (hns : C.atn[c]? = some ns) (hn : ns[x]? = some n) (ha : SE S W X a o) (hs : notSuper o = true) : SE S W X (.att c x a) (.Attribute o n pos) := by
  obtain ⟨a1, a2, a3, a4, a5⟩ := x0.atr c ns hns
  refine PE.imp (pe_fld ha (RA.attr_of hs)) fun σ H Q h => ?_
  obtain ⟨w, sl, mu, hH, F, P⟩ := h
  refine tE.bnd hH F P fun q u sl1 mu1 w1 e1 F1 rv P1 => ?_
  cases q with
  | ref k =>
    obtain ⟨z, hz, P9⟩ := P1.lift
    clear P1
    simp only [RepV] at rv
    obtain ⟨ad, rfl, hm⟩ := rv
    have hz : (match mu1[k]? with | some (.obj c' fs) => if c' == c then fs[x]? else none | _ => none) = some z := hz
    cases hk : mu1[k]? with
    | none => rw [hk] at hz; cases hz
    | some y =>
      rw [hk] at hz
      cases y with
      | obj c' fs =>
        have hz2 : (if (c' == c) = true then fs[x]? else none) = some z := hz
        clear hz
        by_cases hcc : (c' == c) = true
        · rw [if_pos hcc] at hz2
          obtain rfl := eq_of_beq hcc
          obtain ⟨⟨dx, vs, g1, g2, g3⟩, _⟩ := F1.cel.cl k _ ad hk hm
          obtain ⟨v, hv, rz⟩ := g3.get hz2
          rw [a1] at g1
          exact ⟨ad, _, dx, _, v, rfl, g1, a4, a5 n (List.mem_of_getElem? hn), zip_at a2 hn hv, P9 w1 (Ext.refl w1) F1 v rz⟩
        · rw [if_neg hcc] at hz2; cases hz2
      | _ => cases hz
  | _ =>
    obtain ⟨z, hz, P1⟩ := P1.lift
    cases hz
theorem eval_mth {m : Str} {o : Expr} {es : List Expr} {ap pos : Pos} {env : Env} (hsu : notSuper o = true) (hs : ∀ e ∈ es, notStar e = true) (hl : es.length ≤ 20) (hline : (ap.endLine == pos.line) = true) : eval (.Call (.Attribute o m ap) es [] pos) env = (do
      let ov ← eval o env
      standAt ap.atName
      let (f, first) ← holding [ov] (getMethod ov m (do return (← importBound o env).getD true))
      callWith pos f first (backTo pos (starEach es env)) (backToKw pos (keywordEach [] env))) := by
  have hm : methodCallForm (es.length + ([] : List Keyword).length) (backTo pos (starEach es env)) (backToKw pos (keywordEach [] env)) = true := by
    unfold methodCallForm
    rw [back_all hs]
    have : decide (es.length + ([] : List Keyword).length + (if (backToKw pos (keywordEach [] env)).isEmpty then 0 else 1) < 30) = true := decide_eq_true (by
      show es.length + 0 + 0 < 30
      omega)
    rw [this]
    rfl
  show (do
      let ov ← attributeBase o m env (eval o env)
      standAt ap.atName
      methodCall o m ap pos env ov (es.length + ([] : List Keyword).length) (backTo pos (starEach es env)) (backToKw pos (keywordEach [] env))) = _
  rw [RA.attr_of hsu]
  unfold methodCall
  rw [hm]
  unfold calleeOf methodCallPos
  rw [hline]
  rfl
theorem s_mth (x0 : XOk S C sc fb X) (hc : C.hot = false) (tk : L2N.Takes X W) {c f : Nat} {m : Str} {a : Ex} {as : Exs} {o : Expr} {es : List Expr} {ap pos : Pos} (hf : C.mtn[f]? = some (some (c, m))) (ho : SE S W X a o) (hsu : notSuper o = true) (ha : SA S W X as es) (hk : ckEs C sc fb as es = true) (hl : es.length ≤ 20) (hline : (ap.endLine == pos.line) = true) :
    SE S W X (.mth c f a as) (.Call (.Attribute o m ap) es [] pos) := by
  obtain ⟨ad, k1, k2, k3, k4⟩ := x0.mts hc f c m hf
  obtain ⟨fd, ps, l, kl, k5, k6, k7⟩ := k3.ex
  have hs := notStar_all hk
  have hno := x0.nom f c m hf
  have hev := eval_mth (m := m) (es := es) (ap := ap) (pos := pos) (env := X.env) hsu hs hl hline
  refine PE.imp (pe_mthS (E := WE W) ho k1 k2 k7 k3.gd ((x0.room hc).mono (by omega)) k6 (fun σ => L2N.passAt tk σ) ha (fun e σ H Q h => by subst e; exact a_nilH hk σ H Q h) hs hev) fun σ H Q h => ?_
  obtain ⟨w, sl, mu, hH, F, P⟩ := h
  refine tE.bnd hH F P fun q u sl1 mu1 w1 e1 F1 rv P1 => ?_
  cases q with
  | ref k =>
    have rv0 := rv
    simp only [RepV] at rv
    obtain ⟨qa, rfl, hm⟩ := rv
    have P1 : Pst S.T S.C W σ w1 (match mu1[k]? with
      | some (.obj c' _) => if c' == c then (evs S.G S.cf as sl1 mu1).bnd fun l s m => (match S.cf f (.ref k :: l) m with | .stk => .stk | .ok p m => .ok p s m | .exc e m => .exc e s m) else .stk
      | _ => .stk) (QE S.T Q) := P1
    cases hk2 : mu1[k]? with
    | none => rw [hk2] at P1; exact P1.elim
    | some y =>
      rw [hk2] at P1
      cases y with
      | obj c' fs =>
        have P3 : Pst S.T S.C W σ w1 (if (c' == c) = true then (evs S.G S.cf as sl1 mu1).bnd fun l s m => (match S.cf f (.ref k :: l) m with | .stk => .stk | .ok p m => .ok p s m | .exc e m => .exc e s m) else .stk) (QE S.T Q) := P1
        clear P1
        by_cases hcc : (c' == c) = true
        · rw [if_pos hcc] at P3
          obtain rfl := eq_of_beq hcc
          obtain ⟨⟨dx, vs, g1, g2, g3⟩, _⟩ := F1.cel.cl k _ qa hk2 hm
          refine ⟨qa, dx, _, rfl, g1, zip_no hno, ?_⟩
          refine tA.bnd rfl F1 P3 fun l us sl2 mu2 w2 e2 F2 rv2 P2 => ?_
          have rr : Reps S.T w2 (.ref k :: l) (.ref qa :: us) := by
            simp only [Reps]
            exact ⟨.ref qa, us, rfl, RepV.ext F1.wok e2 _ _ rv0, rv2⟩
          exact cf_wish (ok := fun p m => .ok p sl2 m) F2 rr P2 fun p mu' v w' e' F' rv' P' => P' w' e' F' v rv'
        · rw [if_neg hcc] at P3; exact P3.elim
      | _ => exact P1.elim
  | _ => exact P1.elim
theorem s_lsc (x0 : XOk S C sc fb X) {a : Ex} {x : Expr} {p pos : Pos} (hv : glb sc "list" = true) (ha : SE S W X a x) (hs : notStar x = true) : SE S W X (.lsc a) (.Call (.Name "list" p) [x] [] pos) := by
  refine PE.imp (pe_callTy call_list_of (glb_of x0 hv) (x0.blt _ (by decide +kernel)) (show bootBuiltins "list" = some (.type "list") by decide +kernel) (pa_cons ha pa_nil (star_cons hs)) (by decide) (by decide) (star_cons hs) rfl) fun σ H Q h => ?_
  obtain ⟨w, sl, mu, hH, F, P⟩ := h
  refine tE.bnd hH F P fun q u sl1 mu1 w1 e1 F1 rv P1 => ?_
  have mk : ∀ {l : List PV} {xs : List V}, Reps S.T w1 l xs → Pst S.T S.C W σ w1 (.ok (.ref mu1.length) sl1 (mu1 ++ [.lst l])) (QE S.T Q) → ∀ p, w1.H p = none → Q (.ref p) (upd w1.H p (.lst xs)) := fun {l xs} r P p hp => by
    have F2 : FRel S.T (w1.nuX p (.lst xs)) σ sl1 (mu1 ++ [.lst l]) := F1.nuX hp ⟨xs, by show upd _ p _ p = _; rw [upd_same], Reps.ext F1.wok (nuX_ext hp) _ _ r⟩
    refine P _ (nuX_ext hp) F2 (.ref p) ?_
    simp only [RepV]
    exact ⟨p, rfl, by show (w1.m ++ [p])[mu1.length]? = _; rw [← F1.cel.mlen]; simp⟩
  cases q with
  | tup l =>
    simp only [RepV] at rv
    obtain ⟨ad, xs, rfl, h2, h3⟩ := rv
    rw [x0.hK] at h2
    exact ⟨ad, xs, rfl, .inr h2.sq, mk h3 P1⟩
  | lst l =>
    simp only [RepV] at rv
    obtain ⟨ad, xs, rfl, h2, _, h3⟩ := rv
    exact ⟨ad, xs, rfl, .inl (SqL.of h2), mk h3 P1⟩
  | _ => exact P1.elim
end
end RA

set_option maxHeartbeats 1000000
/-! Lambdas made, bound methods taken, functions called that a name holds. -/
namespace RA
open PySem PySem.Spec PyProof.Rows L2 LamX

section
variable {X : Cx} {CX : CXT} {k : Nat} {g b q : Addr} {fd : FuncData} {ps : List Str} {sp : Sp} {E : L2.St → XK}
/-- a bound method is called -/
theorem run_M {pins : List (Addr × Obj)} {σ : L2.St} {H : Hp} {s : Shared} {Q : VK} {us : List Value} {vs : List V} (F : FnS X.prog X.w X.K X.mg X.base CX k g fd ps sp) (gd : Gd X.A) (hr : Room k X.A) (hb : Binds X.K fd ps []) (hx : PassesAt CX X σ (E σ))
    (I : Inv X pins σ H s) (e : H q = some (.met g b)) (r : Vals vs us) (h : sp (.ref b :: vs) H Q (E σ)) : wpAny (model X.prog X.w) X.A (call (.ref q) us) (EP X pins σ Q) X.xe s := by
  have rr : Vals (V.ref b :: vs) (Value.ref b :: us) := .cons rfl r
  have bound : BindsTo s fd ⟨.ref b :: us, []⟩ (ps.zip (.ref b :: us)) := by
    have n : (Value.ref b :: us).length = ps.length := rr.length.symm.trans (F.len h)
    simpa only [List.append_nil] using hb s (.ref b :: us) I.kIn (by simpa only [List.append_nil] using n)
  refine wpAny_call (call_met I e (codeAny_mono (F.run gd hr I.env0 bound rr h) fun res s' got => ?_))
  rcases cr_cases got with ⟨u, rfl, c⟩ | ⟨e, rfl, c⟩
  · exact I.after c
  · exact hx pins H s e s' I c
/-- the call node's callWith, by what the keeper asks -/
theorem callP {pins : List (Addr × Obj)} {σ : L2.St} {H : Hp} {s1 : Shared} {Q : VK} {es : List Expr} {t : TA} {R : List V → Hp → Prop} {pos : Pos} {Pq : Heap → Prop} (I1 : Inv X pins σ H s1) (ha : PA X es t) (hq : t σ H R) (hn : es = [] → ∀ σ H (Q : List V → Hp → Prop), t σ H Q → Q [] H)
    (hs : ∀ e ∈ es, notStar e = true) (hk : ∀ h, Pq h → ∃ k, (k = Keeper.frame ∨ k = Keeper.machine ∨ k = Keeper.boundFrame) ∧ PySem.W.Looks (model X.prog X.w) h (keeperOf (.ref q)) k)
    (fin : ∀ (us : List Value) (vs : List V) (s2 : Shared) (H2 : Hp), Inv X pins σ H2 s2 → Vals vs us → R vs H2 → Pq s2.heap ∧ wpAny (model X.prog X.w) X.A (call (.ref q) us) (EP X pins σ Q) X.xe s2) :
    wpAny (model X.prog X.w) X.A (callWith pos (.ref q) [] (backTo pos (starEach es X.env)) []) (EP X pins σ Q) X.xe s1 := by
  cases es with
  | nil => exact PySem.W.callWith_of rfl hk (evalArgs_nil3 (fin [] [] s1 H I1 .nil (hn rfl σ H _ hq)))
  | cons e es =>
    have h : wpAny (model X.prog X.w) X.A (spliced (backTo pos (starEach (e :: es) X.env))) (fun vs s₁ => Pq s₁.heap ∧ wpAny (model X.prog X.w) X.A (call (.ref q) vs) (EP X pins σ Q) X.xe s₁) X.xe s1 :=
      thn (ha.run pos pins s1 σ H _ I1 hq) fun us s2 ⟨vs, H2, I2, r, q2⟩ => fin us vs s2 H2 I2 r q2
    have he := star_cons (es := es) (env := X.env) (hs e List.mem_cons_self)
    have hpl := back_any (pos := pos) (env := X.env) fun y (hy : y ∈ es) => hs y (List.mem_cons_of_mem _ hy)
    rw [he] at h ⊢
    exact PySem.W.callWith_of (by show ((false || (backTo pos (starEach es X.env)).any (·.1)) || false) = false; rw [hpl]; rfl) hk (Calls.evalArgs_plain h)
end
section
variable {S : Gs} {C : Ck} {sc : Scope} {fb : Str → Bool} {X : Cx} {W : WX}
theorem s_clvG (x0 : XOk S C sc fb X) (hc : C.hot = false) (tk : L2N.Takes X W) {i : Nat} {x : Str} {as : Exs} {es : List Expr} {p pos : Pos} (hi : C.N[i]? = some x) (hv : vis sc x = true) (ho : okNm x = true) (ha : SA S W X as es) (hk : ckEs C sc fb as es = true) :
    SE S W X (.clv i as) (.Call (.Name x p) es [] pos) := by
  obtain ⟨h1, h2, _⟩ := okNm_of ho
  have hs := notStar_all hk
  have hN : X.N[i]? = some x := by rw [x0.N]; exact hi
  have hn : es = [] → ∀ (σ : L2.St) (H : Hp) (Q : List V → Hp → Prop), tA S.T S.C W (sA S as) σ H Q → Q [] H := fun e σ H Q h => by subst e; exact a_nilH hk σ H Q h
  refine ⟨fun pins s σ H Q I h => ?_⟩
  obtain ⟨w, sl, mu, rfl, F, P⟩ := h
  have P : Pst S.T S.C W σ w (match sl[i]? with
    | some (.va (.fn f)) => (evs S.G S.cf as sl mu).bnd fun l s m => (match S.cf f l m with | .stk => .stk | .ok p m => .ok p s m | .exc e m => .exc e s m)
    | some (.va (.obj f cs)) => (evs S.G S.cf as sl mu).bnd fun l s m => (match S.cf f (cs ++ l) m with | .stk => .stk | .ok p m => .ok p s m | .exc e m => .exc e s m)
    | _ => .stk) (QE S.T Q) := P
  have start : ∀ {a : Addr} {Q' : Value → Shared → Prop}, σ[i]? = some (some (.ref a)) → (∀ s1, Inv X pins σ w.H s1 → wpAny (model X.prog X.w) X.A (callWith pos (.ref a) [] (backTo pos (starEach es X.env)) []) Q' X.xe s1) →
      wpAny (model X.prog X.w) X.A (eval (.Call (.Name x p) es [] pos) X.env) Q' X.xe s := fun {a Q'} hsl k => by
    refine wpAny_Call_Name_kw (thn ((pe_var (pos := p) hN (vis_of x0 hv) h1 h2).run pins s σ w.H (fun v H1 => v = .ref a ∧ H1 = w.H) I ⟨.ref a, hsl, rfl, rfl⟩) fun u s1 ⟨v, H1, I1, r1, e1, e2⟩ => ?_)
    subst e1 e2
    obtain rfl : u = Value.ref a := r1
    exact k s1 I1
  split at P
  · rename_i f hf
    obtain ⟨v, hv1, rv⟩ := F.va i _ hf
    simp only [RepV] at rv
    obtain ⟨a, rfl, g1⟩ := rv
    have K := x0.fns hc f a g1
    obtain ⟨fd, ps, l, kl, k2, k3, k4⟩ := K.ex
    refine start hv1 fun s1 I1 => ?_
    have hq : tA S.T S.C W (sA S as) σ w.H (fun vs H1 => spF S f vs H1 Q (WE W σ)) := tA.bnd rfl F P fun ps vs sl1 mu1 w1 e1 F1 rv P1 => call_got F1 rv P1
    cases es with
    | nil => exact PySem.W.callWith_K0 (first := []) I1.kIn k2 (run_S k4 K.gd ((x0.room hc).mono (by omega)) k3 (L2N.passAt tk σ) I1 .nil (hn rfl σ _ _ hq))
    | cons e es =>
      exact PySem.W.callWith_K (h₀ := X.base) I.ok.mod.kin k2 (thn (ha.run pos pins s1 σ _ _ I1 hq) fun us s2 ⟨vs, H2, I2, r, q⟩ => ⟨I2.kIn, run_S k4 K.gd ((x0.room hc).mono (by omega)) k3 (L2N.passAt tk σ) I2 r q⟩) (star_cons (hs e List.mem_cons_self)) (back_any fun y hy => hs y (List.mem_cons_of_mem _ hy))
  · rename_i f cs hf
    obtain ⟨v, hv1, rv⟩ := F.va i _ hf
    simp only [RepV] at rv
    unfold ObV at rv
    split at rv
    · obtain ⟨a, c', ld, rfl, g1, g2, g3, g4, g5⟩ := rv
      obtain ⟨gd, ps, l, kl, k4⟩ := (x0.lx hc).fn f ld g1
      refine start hv1 fun s1 I1 => ?_
      refine callP (Pq := PySem.W.FnAt a) (R := fun vs H1 => H1 a = some (LamO ld a c') ∧ H1 c' = some (CodeO c' ld.qual) ∧ spF S f vs H1 Q (WE W σ)) I1 ha (tA.bnd rfl F P fun ps vs sl1 mu1 w1 e1 F1 rv P1 => ?_) hn hs PySem.W.keeps_F fun us vs s2 H2 I2 r q2 => ?_
      · exact ⟨(e1.kept F.wok g2 g3).1, (e1.kept F.wok g4 g5).1, call_got F1 rv P1⟩
      · obtain ⟨q2, q3, q4⟩ := q2
        obtain ⟨pm, ctv, ho⟩ := lamO_at I2.hok q2
        exact ⟨⟨_, _, _, _, ho⟩, run_L k4 gd ((x0.room hc).mono (by omega)) (L2N.passAt tk σ) I2 q2 q3 r q4⟩
    · rename_i n
      obtain ⟨a, b, g, rfl, g1, ⟨g2, g2'⟩, g3, g4⟩ := rv
      have K := x0.fns hc f g g2
      have hfi := (x0.lx hc).bf f g g2' g2
      obtain ⟨fd, ps, l, kl, k2, k3, k4⟩ := K.ex
      refine start hv1 fun s1 I1 => ?_
      refine callP (Pq := PySem.W.MethP X.K a g (.ref b)) (R := fun vs H1 => H1 a = some (.met g b) ∧ spF S f (.ref b :: vs) H1 Q (WE W σ)) I1 ha (tA.bnd rfl F P fun ps vs sl1 mu1 w1 e1 F1 rv P1 => ?_) hn hs (PySem.W.keeps_M hfi) fun us vs s2 H2 I2 r q2 => ?_
      · refine ⟨(e1.kept F.wok g3 g4).1, call_got (ps := .ref n :: ps) F1 ?_ P1⟩
        simp only [Reps, RepV]
        exact ⟨.ref b, vs, rfl, ⟨b, rfl, e1.pre _ _ g1⟩, rv⟩
      · obtain ⟨q2, q3⟩ := q2
        exact ⟨met_P I2 q2, run_M k4 K.gd ((x0.room hc).mono (by omega)) k3 (L2N.passAt tk σ) I2 q2 r q3⟩
    · exact rv.elim
  · exact P.elim
/-- the lambda is made -/
theorem s_lam (x0 : XOk S C sc fb X) (hc : C.hot = false) {k f : Nat} {chk : Nat → Arguments → Expr → Scope → Bool} {params : Arguments} {body : Expr} {scope : Scope} {pos : Pos} (hl : C.lam = some (k, chk)) (h : chk f params body scope = true) :
    SE S W X (.lam k f) (.Lambda params body scope pos) := by
  obtain ⟨c, P0, q, h1, h2, h3, TB, h4⟩ := (x0.lx hc).made k chk hl
  obtain ⟨h5, h6, h7⟩ := h4 f params body scope h
  refine ⟨fun pins s σ H Q I hQ => ?_⟩
  obtain ⟨w, sl, mu, rfl, F, P⟩ := hQ
  have P : Pst S.T S.C W σ w (RA.lift (match mu[k]? with | some (.cl j) => if j == k then some (.obj f []) else none | _ => none) sl mu) (QE S.T Q) := P
  obtain ⟨p, hp, P1⟩ := P.lift
  split at hp
  case h_2 => cases hp
  rename_i j hj
  split at hp
  case isFalse => cases hp
  rename_i hjk
  cases hp
  obtain rfl := eq_of_beq hjk
  have hjl : j < mu.length := (List.getElem?_eq_some_iff.mp hj).1
  obtain ⟨a0, ha0⟩ : ∃ a0, w.m[j]? = some a0 := ⟨_, List.getElem?_eq_getElem (by rw [F.cel.mlen]; exact hjl)⟩
  obtain ⟨⟨c1, q1, e1, pt, e2, e3, e4⟩, hw⟩ := F.cel.cl j _ a0 hj ha0
  rw [h1] at e1
  cases e1
  refine lam_make3 I TB h2 e2 e3 (fun p' cv hcv => by obtain ⟨c', z1, z2, _⟩ := e4 p' cv hcv; exact ⟨c', z1, by rw [h3]; exact z2⟩) (h6 _) h7 fun f0 c' ps' H1 s' nf nf1 alt I1 => ?_
  rw [h3] at alt I1
  rcases alt with ⟨rfl, hco⟩ | ⟨nc, rfl, ht, hps⟩
  · -- found in the table
    obtain ⟨c2, z1, z2, z3⟩ := e4 pos _ hco
    cases z1
    have F1 := F.put (o := LamO ⟨q, params, body, scope⟩ f0 c') nf
    have hne : c' ≠ f0 := fun e => by rw [e, nf] at z2; cases z2
    refine ⟨.ref f0, _, I1, rfl, P1 _ (Wd.put_ext nf) F1 (.ref f0) ?_⟩
    simp only [RepV]
    exact ⟨f0, c', _, rfl, h5, upd_same, F.fresh nf, by show upd w.H f0 _ c' = _; rw [upd_ne hne]; exact z2, z3⟩
  · have na : c' ≠ P0 := fun e => by rw [e, e2] at nc; cases nc
    have nfc : f0 ≠ c' := fun e => by rw [e, upd_same] at nf1; cases nf1
    have nfa : f0 ≠ P0 := fun e => by rw [e, e2] at nf; cases nf
    have F1 := F.put (o := CodeO c' q) nc
    have cr : CRep S.T ((w.put c' (CodeO c' q)).wrX P0 (.tbl ps')) P0 (.cl j) := by
      refine ⟨c, q, h1, ps', upd_same, ht, fun p' cv hcv => ?_⟩
      rcases hps p' cv hcv with z | z
      · obtain ⟨c2, z1, z2, z3⟩ := e4 p' cv z
        have n1 : c2 ≠ P0 := fun e => by
          rw [e, e2] at z2
          exact codeO_ne pt (Option.some.inj z2).symm
        have n2 : c2 ≠ c' := fun e => by rw [e, nc] at z2; cases z2
        exact ⟨c2, z1, by show upd (upd w.H c' _) P0 _ c2 = _; rw [upd_ne n1, upd_ne n2]; exact z2, z3⟩
      · exact ⟨c', z, by show upd (upd w.H c' _) P0 _ c' = _; rw [upd_ne na, upd_same], F.fresh nc⟩
    have F2 := F1.wrX (n := j) (c := .cl j) ha0 cr
    have hm : mu.set j (.cl j) = mu := by
      apply List.ext_getElem?
      intro i
      by_cases e : j = i
      · subst e; rw [List.getElem?_set_self hjl, hj]
      · rw [List.getElem?_set_ne e]
    rw [hm] at F2
    have nf2 : ((w.put c' (CodeO c' q)).wrX P0 (.tbl ps')).H f0 = none := by show upd (upd w.H c' _) P0 _ f0 = none; rw [upd_ne nfa, upd_ne nfc]; exact nf
    have F3 := F2.put (o := LamO ⟨q, params, body, scope⟩ f0 c') nf2
    have eH : upd (upd w.H P0 (.tbl ps')) c' (CodeO c' q) = upd (upd w.H c' (CodeO c' q)) P0 (.tbl ps') := by
      funext b
      unfold upd
      by_cases e1 : b = c'
      · rw [if_pos e1, if_neg (fun z => na (e1.symm.trans z)), if_pos e1]
      · rw [if_neg e1]
        by_cases e2 : b = P0
        · rw [if_pos e2, if_pos e2]
        · rw [if_neg e2, if_neg e2, if_neg e1]
    rw [eH] at I1
    have ex := (Wd.put_ext (o := CodeO c' q) nc).trans F.wok ((wrX_ext (o := .tbl ps') (w := w.put c' (CodeO c' q)) hw).trans F1.wok (Wd.put_ext (o := LamO ⟨q, params, body, scope⟩ f0 c') nf2))
    refine ⟨.ref f0, _, I1, rfl, P1 _ ex F3 (.ref f0) ?_⟩
    simp only [RepV]
    exact ⟨f0, c', _, rfl, h5, upd_same, F2.fresh nf2, by show upd (upd (upd w.H c' _) P0 _) f0 _ c' = _; rw [upd_ne (Ne.symm nfc), upd_ne na, upd_same], F.fresh nc⟩
/-- a bound method as a value -/
theorem s_bmt (x0 : XOk S C sc fb X) (hc : C.hot = false) {c f : Nat} {m : Str} {a : Ex} {o : Expr} {ap : Pos} (hf : C.mtn[f]? = some (some (c, m))) (hb : C.bmn.contains f = true) (ho : SE S W X a o) (hsu : notSuper o = true) :
    SE S W X (.bmt c f a) (.Attribute o m ap) := by
  obtain ⟨k0, ad, k1, k2⟩ := (x0.lx hc).bm f c m hf hb
  obtain ⟨ad', k3, k4, k5, _⟩ := x0.mts hc f c m hf
  have hno := x0.nom f c m hf
  refine ⟨fun pins s σ H Q I h => ?_⟩
  obtain ⟨w, sl, mu, hH, F, P⟩ := h
  refine L2.attr_of (RA.attr_of hsu) (thn (ho.run pins s σ H (fun x H1 => ∃ b dx vs, x = .ref b ∧ H1 b = some (.ins (S.T.cla c) dx ((S.T.atn c).zip vs)) ∧ ∀ p, H1 p = none → Q (.ref p) (upd H1 p (.met ad b))) I (tE.bnd hH F P fun q u sl1 mu1 w1 e1 F1 rv P1 => ?_)) fun u s1 ⟨x, H1, I1, rx, b, dx, vs, ex, g1, g2⟩ => ?_)
  · cases q with
    | ref k =>
      obtain ⟨z, hz, P9⟩ := P1.lift
      clear P1
      simp only [RepV] at rv
      obtain ⟨b, rfl, hm⟩ := rv
      have hz : (match mu1[k]? with | some (.obj c' _) => if c' == c then some (PV.obj f [.ref k]) else none | _ => none) = some z := hz
      cases hk : mu1[k]? with
      | none => rw [hk] at hz; cases hz
      | some y =>
        rw [hk] at hz
        cases y with
        | obj c' fs =>
          have hz2 : (if (c' == c) = true then some (PV.obj f [.ref k]) else none) = some z := hz
          clear hz
          by_cases hcc : (c' == c) = true
          · rw [if_pos hcc] at hz2
            cases hz2
            obtain rfl := eq_of_beq hcc
            obtain ⟨⟨dx, vs, g1, g2, g3⟩, _⟩ := F1.cel.cl k _ b hk hm
            refine ⟨b, dx, vs, rfl, g1, fun p hp => P9 _ (Wd.put_ext hp) (F1.put (o := .met ad b) hp) (.ref p) ?_⟩
            simp only [RepV]
            exact ⟨p, b, ad, rfl, hm, ⟨k1, k0⟩, upd_same, F1.fresh hp⟩
          · rw [if_neg hcc] at hz2; cases hz2
        | _ => cases hz
    | _ =>
      obtain ⟨z, hz, P1⟩ := P1.lift
      cases hz
  · subst ex
    exact op_getbound I1 g1 k3 k2 (zip_no hno) rx g2
end
end RA

/-! A list of one's own beside []. -/
namespace RA
open PySem PySem.Spec PyProof.Rows L2
def rEmp (n : Bool) : R2 := fun x y H Q => ∃ a b xs, x = .ref a ∧ y = .ref b ∧ H a = some (.lst xs) ∧ H b = some (.lst []) ∧ Q (.bl (xs.isEmpty != n)) H
section
variable {S : Gs} {C : Ck} {sc : Scope} {fb : Str → Bool} {X : Cx} {W : WX}
theorem op_emp (hu : X.A.units < cLine) (n : Bool) : OpR X (compareOp (if n then .NotEq else .Eq)) (rEmp n) := by
  intro pins s σ H x y v u Q I rx ry h
  obtain ⟨a, b, xs, rfl, rfl, ha, hb, q⟩ := h
  obtain rfl : v = Value.ref a := rx
  obtain rfl : u = Value.ref b := ry
  obtain ⟨_, its, k1, r1, g1⟩ := I.hok a _ ha
  obtain ⟨_, it2, k2, r2, g2⟩ := I.hok b _ hb
  have e2 : it2 = [] := by cases r2; rfl
  subst e2
  have l1 : s.heap.IsList a its.toArray := ⟨_, g1, rfl, _, rfl⟩
  have l2 : s.heap.IsList b ([] : List Value).toArray := ⟨_, g2, rfl, _, rfl⟩
  have len := r1.length
  have fin : ∀ r : Bool, r = (xs.isEmpty != n) → EP X pins σ Q (.bool r) s := fun r e => by
    subst e
    exact ⟨.bl _, H, I, rfl, q⟩
  by_cases hz : xs = []
  · subst hz
    have hi : its = [] := by cases r1; rfl
    subst hi
    cases n with
    | true => exact PySem.SeqAt.RcNeAt.lists (e := fun _ => true) l1 l2 rfl hu (fun j h1 => absurd h1 (Nat.not_lt_zero _)) X.prog X.w _ _ (fin _ rfl)
    | false => exact PySem.SeqAt.RcAt.lists (e := fun _ => true) l1 l2 rfl hu (fun j h1 => absurd h1 (Nat.not_lt_zero _)) X.prog X.w _ _ (fin _ rfl)
  · have hs : (its.toArray.size != ([] : List Value).toArray.size) = true := by
      have : its.length ≠ 0 := by
        rw [← len]
        exact fun e => hz (List.length_eq_zero_iff.mp e)
      simpa using this
    have he : xs.isEmpty = false := by cases xs with
      | nil => exact absurd rfl hz
      | cons => rfl
    cases n with
    | true => exact PySem.SeqAt.RcNeAt.lists_lengths l1 l2 hs hu X.prog X.w _ _ (fin _ (by rw [he]; rfl))
    | false => exact PySem.SeqAt.RcAt.lists_lengths l1 l2 hs hu X.prog X.w _ _ (fin _ (by rw [he]; rfl))
/-- the reading -/
theorem r_oem {i : Nat} {n : Bool} {σ : L2.St} {H : Hp} {Q : VK} (h : tE S.T S.C W (sE S (.oem n i)) σ H Q) : ∃ v, σ[i]? = some (some v) ∧ tE S.T S.C W (sE S (.lst .nil)) σ H fun y H2 => rEmp n v y H2 Q := by
  obtain ⟨w, sl, mu, hH, F, P⟩ := h
  have P : Pst S.T S.C W σ w (RA.lift (match sl[i]? with | some (.ow (.lst l)) => some (.bl (l.isEmpty != n)) | _ => none) sl mu) (QE S.T Q) := P
  obtain ⟨p, hp, P1⟩ := P.lift
  split at hp
  case h_2 => cases hp
  rename_i l hl
  cases hp
  obtain ⟨a, h1, h2, h3, h4⟩ := F.ow i _ hl
  refine ⟨.ref a, h1, w, sl, mu, hH, F, fun w' ex F' v rv => ?_⟩
  obtain ⟨a', g1, ⟨xs, g2, g3⟩, g4, g5⟩ := F'.ow i _ hl
  rw [h1] at g1
  cases g1
  simp only [RepV] at rv
  obtain ⟨b, ys, rfl, k1, k2, k3⟩ := rv
  have k3 := Reps.nil_iff.mp k3
  subst k3
  refine ⟨a, b, xs, rfl, rfl, g2, k1, P1 w' ex F' _ ?_⟩
  have hle : xs.isEmpty = l.isEmpty := by
    have := g3.len
    cases l <;> cases xs <;> simp at this ⊢
  rw [hle]
  simp only [RepV]
theorem s_oem (x0 : XOk S C sc fb X) {n : Bool} {i : Nat} {x : Str} {p pl pos : Pos} (hi : C.N[i]? = some x) (hv : vis sc x = true) (ho : okNm x = true) (hl : SE S W X (.lst .nil) (.List [] pl)) : SE S W X (.oem n i) (.Compare (.Name x p) [if n then .NotEq else .Eq] [.List [] pl] pos) := by
  obtain ⟨h1, h2, _⟩ := okNm_of ho
  have hu : X.A.units < cLine := by have := x0.un; omega
  exact PE.imp (pe_cmpR (op_emp hu n) (pe_var (pos := p) (by rw [x0.N]; exact hi) (vis_of x0 hv) h1 h2) hl (noMark rfl _)) fun σ H Q h => r_oem h
theorem t_oem (x0 : XOk S C sc fb X) {n : Bool} {i : Nat} {x : Str} {p pl pos : Pos} (hi : C.N[i]? = some x) (hv : vis sc x = true) (ho : okNm x = true) (hl : SE S W X (.lst .nil) (.List [] pl)) : ST S W X (.v (.oem n i)) (.Compare (.Name x p) [if n then .NotEq else .Eq] [.List [] pl] pos) := by
  obtain ⟨h1, h2, _⟩ := okNm_of ho
  have hu : X.A.units < cLine := by have := x0.un; omega
  exact PT.imp (pt_cmpR (op_emp hu n) (pe_var (pos := p) (by rw [x0.N]; exact hi) (vis_of x0 hv) h1 h2) hl (noMark rfl _)) fun σ H Q h => r_oem (test_of h)
end
end RA

/-! Methods of texts: the parts between one sign. -/
namespace RA
open PySem L2
theorem spl_G {c : Nat} : ∀ (l acc : List Nat), TL.spl [c] 0 acc l = splG c acc l
  | [], acc => rfl
  | d :: r, acc => by
    have hp : TL.pre [c] (d :: r) = (d == c) := by
      unfold TL.pre
      cases h : d == c <;> simp_all
    show (if TL.pre [c] (d :: r) = true then acc :: TL.spl [c] ([c].length - 1) [] r else TL.spl [c] 0 (acc ++ [d]) r) = if d == c then acc :: splG c [] r else splG c (acc ++ [d]) r
    rw [hp]
    cases d == c
    · exact spl_G r _
    · exact congrArg (acc :: ·) (spl_G r [])
theorem splG_len {c : Nat} : ∀ (l acc : List Nat), ∀ x ∈ splG c acc l, x.length ≤ acc.length + l.length
  | [], acc, x, h => by rw [List.mem_singleton.mp h]; exact Nat.le_add_right _ _
  | d :: r, acc, x, h => by
    unfold splG at h
    split at h
    · rcases List.mem_cons.mp h with rfl | h
      · exact Nat.le_add_right _ _
      · have := splG_len r [] x h
        rw [List.length_cons]
        simp only [List.length_nil] at this
        omega
    · have := splG_len r _ x h
      rw [List.length_append, List.length_singleton] at this
      rw [List.length_cons]; omega
section
variable {T : Tb} {X : Cx}
theorem strsReps {w : Wd} : ∀ (l : List (List Nat)), (∀ x ∈ l, x.length ≤ SZ) → Reps T w (l.map .str) ((l.map SX.S).map V.str)
  | [], _ => by simp [Reps]
  | x :: l, h => by
    simp only [List.map_cons, Reps, RepV]
    exact ⟨_, _, rfl, ⟨rfl, h x List.mem_cons_self⟩, strsReps l fun y hy => h y (List.mem_cons_of_mem _ hy)⟩
theorem mt_spl {x : PV} {ps : List PV} {z : PV} (e : mt .split x ps = some z) : ∃ s c, x = .str s ∧ ps = [.str [c]] ∧ c < 256 ∧ s.length + 2 ≤ SZ ∧ z = .lst ((splG c [] s).map .str) := by
  unfold mt at e
  split at e <;> simp_all
theorem snd_split (hK : T.K = X.K) : MtR X "str.split" (rMt T .split) := by
  intro pins s σ H x xs v us Q I rx rs h
  obtain ⟨w, σ', sl, mu, p, ps, z, rfl, F, rp, rps, e, h⟩ := h
  obtain ⟨y, c, rfl, rfl, h1, h2, rfl⟩ := mt_spl e
  simp only [RepV] at rp
  obtain ⟨rfl, hy⟩ := rp
  obtain ⟨u, rfl, r⟩ := reps1 rps
  simp only [RepV] at r
  obtain ⟨rfl, _⟩ := r
  have hsp : Txt.split (SX.S y) (SX.S [c]) = (splG c [] y).map SX.S := by
    rw [SX.split_S (by simp) (by simpa using h1), spl_G]
  refine L2.mt_split pins s σ _ _ _ v us Q I rx rs ⟨_, SX.S [c], rfl, rfl, rfl, ?_, ?_⟩
  · show y.toArray.size + 2 ≤ _
    rw [List.size_toArray]; exact h2
  · show rNewStrs (Txt.split (SX.S y) (SX.S [c])) _ _
    rw [hsp]
    exact fun p hp => P2.lst F h (strsReps _ fun x hx => by have := splG_len y [] x hx; simp only [List.length_nil] at this; omega) hp
end
section
variable {S : Gs} {C : Ck} {sc : Scope} {fb : Str → Bool} {X : Cx} {W : WX}
theorem s_split (x0 : XOk S C sc fb X) {a : Ex} {as : Exs} {o e : Expr} {es : List Expr} {ap cp : Pos} (ha : SE S W X a o) (hb : SA S W X as (e :: es)) (hk : ckEs C sc fb as (e :: es) = true) (hsu : notSuper o = true) (hl : es.length ≤ 5) (hline : (ap.endLine == cp.line) = true) :
    SE S W X (.mt .split a as) (.Call (.Attribute o "split" ap) (e :: es) [] cp) := by
  have hs := notStar_all hk
  refine PE.imp (pe_bm PySem.F.plainAttrs_str PySem.F.slot_str_split PySem.F.type_str_split (snd_split x0.hK) ha hb (attr_of hsu) ?_ hline (star_cons (hs e List.mem_cons_self)) (back_any fun y hy => hs y (List.mem_cons_of_mem _ hy))) fun σ H Q h => ?_
  · rw [back_all hs]
    have : decide ((e :: es).length + ([] : List Keyword).length + (if ([] : List Keyword).isEmpty then 0 else 1) < 30) = true := decide_eq_true (by simp only [List.length_cons, List.length_nil, List.isEmpty_nil, if_true]; omega)
    rw [this]
    rfl
  · obtain ⟨w, sl, mu, hH, F, P⟩ := h
    refine tE.bnd hH F P fun p v sl1 mu1 w1 e1 F1 rv P1 => ?_
    by_cases hr : recv .split p = true
    · rw [if_pos hr] at P1
      cases p <;> simp [recv] at hr
      have rv' := rv
      simp only [RepV] at rv'
      obtain ⟨rfl, hz⟩ := rv'
      refine ⟨rfl, tA.bnd rfl F1 P1 fun ps vs sl2 mu2 w2 e2 F2 rvs P2 => ?_⟩
      obtain ⟨z', hz', h⟩ := P2.lift
      exact ⟨w2, σ, sl2, mu2, _, ps, z', rfl, F2, RepV.ext F1.wok e2 _ _ rv, rvs, hz', h⟩
    · rw [if_neg hr] at P1
      exact P1.elim
end
end RA

set_option maxHeartbeats 1000000
/-! repr of data; list.pop(0). -/
namespace RA
open PySem PySem.Spec PyProof.Rows L2

/-! ### how long what is shown is -/
def pld (ts : List Str) : Nat := (ts.map fun t => t.length + 2).sum
theorem textFrom_le : ∀ (ts : List Str) (k : Nat) (acc : Str), (textFrom k acc ts).length ≤ acc.length + pld ts
  | [], k, acc => by simp [textFrom, pld]
  | t :: r, k, acc => by
    have ih := textFrom_le r (k + 1) (acc ++ (if k > 0 then ", " else "" : String) ++ t)
    have e : (acc ++ (if k > 0 then ", " else "" : String) ++ t).length ≤ acc.length + 2 + t.length := by
      rw [strLen_append, strLen_append]
      split
      · show acc.length + 2 + _ ≤ _
        omega
      · show acc.length + 0 + _ ≤ _
        omega
    show (textFrom (k + 1) _ r).length ≤ _
    simp only [pld, List.map_cons, List.sum_cons] at ih ⊢
    omega
theorem join_le : ∀ ts : List Str, (Str.join ", " ts).length ≤ pld ts
  | [] => Nat.zero_le _
  | [x] => by
    show x.length ≤ _
    simp [pld]
  | x :: y :: r => by
    have ih := join_le (y :: r)
    have e2 : ((", " : String) : Str).length = 2 := rfl
    show (x ++ ", " ++ Str.join ", " (y :: r)).length ≤ _
    rw [strLen_append, strLen_append, e2]
    simp only [pld, List.map_cons, List.sum_cons] at ih ⊢
    omega
theorem listText_le (ts : List Str) : (listText ts).length ≤ pld ts + 2 := by
  unfold listText
  rw [strLen_append]
  have := textFrom_le ts 0 "["
  have e1 : (("[" : String) : Str).length = 1 := rfl
  have e2 : (("]" : String) : Str).length = 1 := rfl
  omega
theorem tupleText_le (ts : List Str) : (tupleText ts).length ≤ pld ts + 3 := by
  unfold tupleText
  rw [strLen_append, strLen_append]
  have := join_le ts
  have e1 : (("(" : String) : Str).length = 1 := rfl
  have e2 : (((if ts.length == 1 then ",)" else ")" : String)) : Str).length ≤ 2 := by split <;> decide
  omega
mutual
theorem shown_one : ∀ p : PV, isD p = true → smallI p = true → (toD p).showable = true ∧ (toD p).hasDict = false ∧ (toD p).shown.length ≤ shwL p
  | .non, _, _ => ⟨by simp [toD, PyData.showable], by simp [toD, PyData.hasDict], by simp only [toD, PyData.shown, shwL]; decide⟩
  | .bl b, _, _ => ⟨by simp [toD, PyData.showable], by simp [toD, PyData.hasDict], by simp only [toD, PyData.shown, shwL]; cases b <;> decide⟩
  | .int i, _, h => by
    simp only [smallI, decide_eq_true_eq] at h
    refine ⟨by simp only [toD, PyData.showable, decide_eq_true_eq]; exact h, by simp [toD, PyData.hasDict], ?_⟩
    have := int_text_length_le (k := 1920) (by decide) h
    simp only [toD, PyData.shown, shwL]
    have e : (Str.ofString (toString i)).length = (toString i).length := PySem.ofString_length _
    show (Str.ofString (toString i)).length ≤ 6000
    omega
  | .str x, _, h => by
    simp only [smallI, List.all_eq_true, decide_eq_true_eq] at h
    refine ⟨by simp [toD, PyData.showable], by simp [toD, PyData.hasDict], ?_⟩
    have := StrLaws.reprText_len ⟨x.toArray⟩ (fun c hc => h c (by simpa using hc))
    simp only [toD, PyData.shown, shwL]
    have e : (⟨x.toArray⟩ : Str).length = x.length := by simp [Str.length]
    rw [e] at this
    exact this
  | .tup l, d, h => by
    simp only [isD] at d
    simp only [smallI] at h
    obtain ⟨h1, h2, h3⟩ := shown_all l d h
    refine ⟨by simpa only [toD, PyData.showable] using h1, by simpa only [toD, PyData.hasDict] using h2, ?_⟩
    have := tupleText_le (PyData.shownAll (toDs l))
    simp only [toD, PyData.shown, shwL]
    omega
  | .lst l, d, h => by
    simp only [isD] at d
    simp only [smallI] at h
    obtain ⟨h1, h2, h3⟩ := shown_all l d h
    refine ⟨by simpa only [toD, PyData.showable] using h1, by simpa only [toD, PyData.hasDict] using h2, ?_⟩
    have := listText_le (PyData.shownAll (toDs l))
    simp only [toD, PyData.shown, shwL]
    omega
  | .fro _, d, _ => by simp [isD] at d
  | .ref _, d, _ => by simp [isD] at d
  | .exc _ _, d, _ => by simp [isD] at d
  | .dic _ _, d, _ => by simp [isD] at d
  | .fn _, d, _ => by simp [isD] at d
  | .cl _, d, _ => by simp [isD] at d
  | .obj _ _, d, _ => by simp [isD] at d
theorem shown_all : ∀ l : List PV, isDs l = true → smallIs l = true → PyData.showableAll (toDs l) = true ∧ PyData.hasDictAll (toDs l) = false ∧ pld (PyData.shownAll (toDs l)) ≤ shwLs l
  | [], _, _ => ⟨by simp [toDs, PyData.showableAll], by simp [toDs, PyData.hasDictAll], by simp [toDs, PyData.shownAll, pld, shwLs]⟩
  | x :: r, d, h => by
    simp only [isDs, Bool.and_eq_true] at d
    simp only [smallIs, Bool.and_eq_true] at h
    obtain ⟨a1, a2, a3⟩ := shown_one x d.1 h.1
    obtain ⟨b1, b2, b3⟩ := shown_all r d.2 h.2
    refine ⟨by simp only [toDs, PyData.showableAll, a1, b1]; rfl, by simp only [toDs, PyData.hasDictAll, a2, b2]; rfl, ?_⟩
    simp only [toDs, PyData.shownAll, pld, List.map_cons, List.sum_cons, shwLs] at b3 ⊢
    omega
end
mutual
theorem same_toD : ∀ p q : PV, isD p = true → isD q = true → sameP p q = true → toD p = toD q
  | .non, q, _, d, h => by
    cases q <;> simp [sameP] at h
    rfl
  | .bl b, q, _, d, h => by
    cases q <;> simp [sameP] at h
    rw [h]
  | .int b, q, _, d, h => by
    cases q <;> simp [sameP] at h
    rw [h]
  | .str b, q, _, d, h => by
    cases q <;> simp [sameP] at h
    rw [h]
  | .tup l, q, c, d, h => by
    cases q with
    | tup r =>
      simp only [isD] at c d
      simp only [sameP] at h
      simp only [toD, sames_toD l r c d h]
    | _ => simp [sameP] at h
  | .lst l, q, c, d, h => by
    cases q with
    | lst r =>
      simp only [isD] at c d
      simp only [sameP] at h
      simp only [toD, sames_toD l r c d h]
    | _ => simp [sameP] at h
  | .fro _, _, c, _, _ => by simp [isD] at c
  | .ref _, _, c, _, _ => by simp [isD] at c
  | .exc _ _, _, c, _, _ => by simp [isD] at c
  | .dic _ _, _, c, _, _ => by simp [isD] at c
  | .fn _, _, c, _, _ => by simp [isD] at c
  | .cl _, _, c, _, _ => by simp [isD] at c
  | .obj _ _, _, c, _, _ => by simp [isD] at c
theorem sames_toD : ∀ l r : List PV, isDs l = true → isDs r = true → samePs l r = true → toDs l = toDs r
  | [], r, _, _, h => by
    cases r with
    | nil => rfl
    | cons _ _ => simp [samePs] at h
  | x :: l, r, c, d, h => by
    cases r with
    | nil => simp [samePs] at h
    | cons y r =>
      simp only [isDs, Bool.and_eq_true] at c d
      simp only [samePs, Bool.and_eq_true] at h
      simp only [toDs, same_toD x y c.1 d.1 h.1, sames_toD l r c.2 d.2 h.2]
end

/-! ### repr -/
/-- data in, its text out -/
def rShow (X : Cx) : List V → Hp → VK → Prop := fun xs H Q => ∃ x d, xs = [x] ∧ Dp X.K H x d ∧ d.showable = true ∧ d.hasDict = false ∧ d.depth ≤ 60 ∧ d.shown.length ≤ sizeLine ∧ Q (.str d.shown) H
theorem call_show {X : Cx} (gd : Gd X.A) (un : X.A.units + 66 < cLine) : CallR X (.builtin "repr") (rShow X) := by
  intro pins s σ H xs us Q I r h
  obtain ⟨x, d, rfl, hd, h1, h2, h3, h4, q⟩ := h
  obtain ⟨u, rfl, ru⟩ := r.one
  obtain ⟨as, rd⟩ := Dp.reads I d x u hd ru
  have fin : ∀ (h' : Heap) (t : Tok) (tk : Nat), (∀ b o, s.heap.get? b = some o → h'.get? b = some o) → EP X pins σ Q (.str d.shown t) { s with heap := h', toks := tk } := fun h' t tk k => ⟨.str d.shown, H, I.kept k, ⟨t, rfl⟩, q⟩
  have keep : ∀ (t : Tok) (tk : Nat), EP X pins σ Q (.str d.shown t) { s with toks := tk } := fun t tk => ⟨.str d.shown, H, I.tok tk, ⟨t, rfl⟩, q⟩
  cases rd with
  | none => exact PySem.P.repr_of_none (keep _ _)
  | bool b => exact PySem.P.repr_of_bool (keep _ _)
  | int i t =>
    simp only [PyData.showable, decide_eq_true_eq] at h1
    exact PySem.P.repr_of_int h1 (keep _ _)
  | str y t => exact PySem.P.repr_of_str (keep _ _) h4
  | list e1 e2 e3 e4 => exact repr_of_reads' (.list e1 e2 e3 e4) h1 (PyData.noDict_hsm h2) gd (by omega) (fun _ _ e => e) fin h4
  | tuple e1 e2 e3 e4 => exact repr_of_reads' (.tuple e1 e2 e3 e4) h1 (PyData.noDict_hsm h2) gd (by omega) (fun _ _ e => e) fin h4
  | dict _ _ _ _ _ => simp [PyData.hasDict] at h2
/-- a text is itself -/
theorem op_same {X : Cx} (un : X.A.units + 66 < cLine) : OpR X (compareOp .Eq) (fun x y H Q => ∃ a, x = .str a ∧ y = .str a ∧ Q (.bl true) H) := by
  intro pins s σ H x y v u Q I rx ry h
  obtain ⟨a, rfl, rfl, q⟩ := h
  obtain ⟨t, rfl⟩ := rx
  obtain ⟨t', rfl⟩ := ry
  refine PySem.SeqAt.eq_plain (Reads.str a t) (Reads.str a t') (by rfl) (by rfl) (by simp only [PyData.depth]; omega) ⟨.bl true, H, I, ?_, q⟩
  have e : PyData.eqv (.str a) (.str a) = true := by simp [PyData.eqv]
  rw [e]
  rfl
section
variable {S : Gs} {C : Ck} {sc : Scope} {fb : Str → Bool} {X : Cx} {W : WX}
theorem shw_of {p : PV} (h : (isD p && shw p) = true) : isD p = true ∧ (toD p).showable = true ∧ (toD p).hasDict = false ∧ (toD p).depth ≤ 60 ∧ (toD p).shown.length ≤ sizeLine := by
  simp only [shw, Bool.and_eq_true] at h
  obtain ⟨h0, ⟨h1, h2⟩, h3⟩ := h
  obtain ⟨a1, a2, a3⟩ := shown_one p h0 h1
  refine ⟨h0, a1, a2, ?_, ?_⟩
  · rw [← dep_toD p h0]
    exact Nat.le_of_ble_eq_true h2
  · rw [sizeLine_eq]
    exact Nat.le_trans a3 (Nat.le_of_ble_eq_true h3)
theorem s_rpe (x0 : XOk S C sc fb X) (gd : C.gd = true) {a b : Ex} {x y : Expr} {p1 p2 q1 q2 pos : Pos} (hv : glb sc "repr" = true) (ha : SE S W X a x) (hb : SE S W X b y) (h1 : notStar x = true) (h2 : notStar y = true) :
    SE S W X (.rpe a b) (.Compare (.Call (.Name "repr" p1) [x] [] q1) [.Eq] [.Call (.Name "repr" p2) [y] [] q2] pos) := by
  have sh := call_show (x0.gd gd) x0.un
  have one : ∀ {z : Expr} {e : Ex} {p q : Pos}, SE S W X e z → notStar z = true → PE X (.Call (.Name "repr" p) [z] [] q) (tCB (rShow X) (tCons (tE S.T S.C W (sE S e)) tNil)) := fun hz hs =>
    pe_callB sh (glb_of x0 hv) (x0.blt _ (by decide +kernel)) (show bootBuiltins "repr" = some (.builtin "repr") by decide +kernel) (pa_cons hz pa_nil (star_cons hs)) (by decide) (by decide) (star_cons hs) rfl
  refine PE.imp (pe_cmpR (op_same x0.un) (one ha h1) (one hb h2) rfl) fun σ H Q h => ?_
  obtain ⟨w, sl, mu, hH, F, P⟩ := h
  refine tE.bnd hH F P fun q u sl1 mu1 w1 e1 F1 rv P1 => ?_
  have P1 : Pst S.T S.C W σ w1 (if (isD q && shw q) = true then (ev S.G S.cf b sl1 mu1).bnd fun y s m => lift (if (isD y && sameP q y) = true then some (.bl true) else none) s m else .stk) (QE S.T Q) := P1
  by_cases hq : (isD q && shw q) = true
  case neg => rw [if_neg hq] at P1; exact P1.elim
  rw [if_pos hq] at P1
  obtain ⟨k0, k1, k2, k3, k4⟩ := shw_of hq
  refine ⟨u, toD q, rfl, x0.hK ▸ RepV.dp q u k0 rv, k1, k2, k3, k4, ?_⟩
  refine tE.bnd rfl F1 P1 fun q' u' sl2 mu2 w2 e2 F2 rv2 P2 => ?_
  obtain ⟨z, hz, P3⟩ := P2.lift
  by_cases hs : (isD q' && sameP q q') = true
  case neg => rw [if_neg hs] at hz; cases hz
  rw [if_pos hs] at hz
  cases hz
  simp only [Bool.and_eq_true] at hs
  have e := same_toD q q' k0 hs.1 hs.2
  refine ⟨u', toD q', rfl, x0.hK ▸ RepV.dp q' u' hs.1 rv2, e ▸ k1, e ▸ k2, e ▸ k3, e ▸ k4, (toD q).shown, rfl, by rw [e], P3 w2 (Ext.refl w2) F2 (.bl true) (by simp only [RepV])⟩

/-! ### list.pop(0) -/
theorem s_pop (x0 : XOk S C sc fb X) {a : Ex} {o : Expr} {k : Nat} {p ap pos : Pos} (ha : SE S W X a o) (hs : notSuper o = true) (hline : (ap.endLine == pos.line) = true) : SE S W X (.pop a) (.Call (.Attribute o "pop" ap) [.Constant (.int 0) k p] [] pos) := by
  refine PE.imp (pe_bm PySem.F.plainAttrs_list PySem.F.slot_list_pop PySem.F.type_list_pop (r := rPopAt) mt_popAt ha (pa_cons pe_int pa_nil rfl) (RA.attr_of hs) (by rfl) hline rfl rfl) fun σ H Q h => ?_
  obtain ⟨w, sl, mu, hH, F, P⟩ := h
  refine tE.bnd hH F P fun q u sl1 mu1 w1 e1 F1 rv P1 => ?_
  have P1 : Pst S.T S.C W σ w1 (match q with
    | .ref n => (match mu1[n]? with
      | some (.lst (x :: r)) => .ok x sl1 (mu1.set n (.lst r))
      | _ => .stk)
    | _ => .stk) (QE S.T Q) := P1
  cases q with
  | ref n =>
    simp only [RepV] at rv
    obtain ⟨ad, rfl, hm⟩ := rv
    have P2 : Pst S.T S.C W σ w1 (match mu1[n]? with
      | some (.lst (x :: r)) => .ok x sl1 (mu1.set n (.lst r))
      | _ => .stk) (QE S.T Q) := P1
    clear P1
    cases hl : mu1[n]? with
    | none => rw [hl] at P2; exact P2.elim
    | some c =>
      rw [hl] at P2
      match c, hl, P2 with
      | .lst (y :: r), hl, P2 =>
        obtain ⟨⟨xs, g1, g2⟩, hw⟩ := F1.cel.cl n _ ad hl hm
        simp only [Reps] at g2
        obtain ⟨v, vs, rfl, rv, rvs⟩ := g2
        have F2 : FRel S.T (w1.wrX ad (.lst vs)) σ sl1 (mu1.set n (.lst r)) := F1.wrX hm ⟨vs, by show upd _ ad _ ad = _; rw [upd_same], Reps.ext F1.wok (wrX_ext hw) _ _ rvs⟩
        refine ⟨.inl ⟨rfl, _, SqL.of g1⟩, ad, v :: vs, 0, 0, v, rfl, rfl, g1, by decide, by decide, seqIndex_of (by decide) (by simp), rfl, ?_⟩
        exact P2 _ (wrX_ext hw) F2 v (RepV.ext F1.wok (wrX_ext hw) _ _ rv)
  | _ => exact P1.elim
end
end RA

set_option maxHeartbeats 1000000
/-! Dicts of one's own in a cell: membership. -/
namespace RA
open PySem PySem.Spec L2
theorem keys_of : ∀ {l : List PV}, l.all keyB = true → ∃ k : List L2.Key, l = k.map kP
  | [], _ => ⟨[], rfl⟩
  | p :: l, h => by
    simp only [List.all_cons, Bool.and_eq_true] at h
    obtain ⟨k, rfl⟩ := keys_of h.2
    cases p <;> first | (cases h.1; done) | skip
    · exact ⟨.inl _ :: k, rfl⟩
    · rename_i x
      exact ⟨.inr ⟨x.toArray⟩ :: k, rfl⟩
theorem kP_rep {T : Tb} {w : Wd} {k : L2.Key} {v : V} (h : RepV T w (kP k) v) : v = kV k := by
  cases k with
  | inl i => simp only [kP, RepV] at h; exact h
  | inr s =>
    simp only [kP, RepV] at h
    rw [h.1]
    rfl
theorem kPs_rep {T : Tb} {w : Wd} : ∀ {k : List L2.Key} {vs : List V}, Reps T w (k.map kP) vs → vs = k.map kV
  | [], vs, h => by simp only [List.map_nil, Reps] at h; subst h; rfl
  | a :: k, vs, h => by
    simp only [List.map_cons, Reps] at h
    obtain ⟨v, r, rfl, h1, h2⟩ := h
    rw [kP_rep h1, kPs_rep h2]; rfl
theorem eqP_kP (a b : L2.Key) : eqP (kP a) (kP b) = decide (a = b) := by
  cases a with
  | inl i =>
    cases b with
    | inl j =>
      show (i == j) = _
      rw [Bool.eq_iff_iff]
      simp
    | inr t => simp [kP, eqP]
  | inr s =>
    cases b with
    | inl j => simp [kP, eqP]
    | inr t =>
      show (s.cps.toList == t.cps.toList) = _
      rw [Bool.eq_iff_iff]
      simp only [beq_iff_eq, decide_eq_true_eq, Sum.inr.injEq]
      exact ⟨fun h => by cases s; cases t; simp only at h; congr; exact Array.toList_inj.mp h, fun h => by rw [h]⟩
theorem eqPs_kP : ∀ (a b : List L2.Key), eqPs (a.map kP) (b.map kP) = decide (a = b)
  | [], [] => rfl
  | [], _ :: _ => rfl
  | x :: a, [] => rfl
  | x :: a, y :: b => by
    show (eqP (kP x) (kP y) && eqPs (a.map kP) (b.map kP)) = _
    rw [eqP_kP, eqPs_kP a b, Bool.eq_iff_iff]
    simp
theorem any_key (es : List Ent) (k : List L2.Key) : ((es.map fun e => PV.tup (e.1.map kP)).any fun z => eqP z (.tup (k.map kP))) = (atKey es k).isSome := by
  unfold atKey
  rw [Option.isSome_map, List.any_map]
  induction es with
  | nil => rfl
  | cons e es ih =>
    rw [List.any_cons, ih, List.find?_cons]
    show (eqPs (e.1.map kP) (k.map kP) || _) = _
    rw [eqPs_kP]
    by_cases h : e.1 = k
    · simp [h]
    · simp [h]
section
variable {S : Gs} {C : Ck} {sc : Scope} {fb : Str → Bool} {W : WX} {X : Cx}
/-- a dict in a cell -/
theorem cell_dct (x0 : XOk S C sc fb X) {w : Wd} {a : Addr} {ks vs : List PV} (h : CRep S.T w a (.dic ks vs)) : ∃ es : List Ent, vs = [] ∧ ks = es.map (fun e => PV.tup (e.1.map kP)) ∧ DctIs X w.H a es ∧ Reps S.T w ks (es.map fun e => V.ref e.2.1) := by
  obtain ⟨h0, es, h1, h2, h3, h4, h5⟩ := h
  refine ⟨es, h0, h2, ⟨by rw [← x0.pr, ← x0.wl]; exact h1, fun e he => ?_, h3, h4⟩, h5⟩
  have key : ∀ (es : List Ent) (ks : List PV), ks = es.map (fun e => PV.tup (e.1.map kP)) → Reps S.T w ks (es.map fun e => V.ref e.2.1) → ∀ e ∈ es, SqT X.K w.H e.2.1 (e.1.map kV) := by
    intro es
    induction es with
    | nil => intro _ _ _ e he; cases he
    | cons d es ih =>
      intro ks hk r e he
      subst hk
      simp only [List.map_cons, Reps] at r
      obtain ⟨v, vr, e1, r1, r2⟩ := r
      cases e1
      rcases List.mem_cons.mp he with rfl | he
      · simp only [RepV] at r1
        obtain ⟨b, xs, e2, r3, r4⟩ := r1
        cases e2
        rw [kPs_rep r4] at r3
        rw [← x0.hK]
        exact r3.sq
      · exact ih _ rfl r2 e he
  exact key es ks h2 h5 e he
theorem tup_key (x0 : XOk S C sc fb X) {w : Wd} {l : List PV} {v : V} (h : l.all keyB = true) (r : RepV S.T w (.tup l) v) : ∃ (b : Addr) (k : List L2.Key), v = .ref b ∧ l = k.map kP ∧ SqT X.K w.H b (k.map kV) := by
  obtain ⟨k, rfl⟩ := keys_of h
  simp only [RepV] at r
  obtain ⟨b, xs, rfl, r1, r2⟩ := r
  rw [kPs_rep r2] at r1
  exact ⟨b, k, rfl, rfl, by rw [← x0.hK]; exact r1.sq⟩
theorem r_din (x0 : XOk S C sc fb X) {n : Bool} {a b : Ex} {σ : St} {H : Hp} {Q : VK} (h : tE S.T S.C W (sE S (.din n a b)) σ H Q) :
    tOp (rInDct X n) (tE S.T S.C W (sE S a)) (tE S.T S.C W (sE S b)) σ H Q := by
  obtain ⟨w, sl, mu, hH, F, P⟩ := h
  refine tE.bnd hH F P fun p v sl1 mu1 w1 e1 F1 rv P1 => ?_
  refine tE.bnd rfl F1 P1 fun q u sl2 mu2 w2 e2 F2 ru P2 => ?_
  obtain ⟨z, hz, h⟩ := P2.lift
  cases q with
  | ref j =>
    simp only [Option.bind_eq_some_iff, Option.map_eq_some_iff] at hz
    obtain ⟨c, hc, b1, hb, rfl⟩ := hz
    simp only [RepV] at ru
    obtain ⟨ad, rfl, hm⟩ := ru
    have r := (F2.cel.cl j c ad hc hm).1
    have rv2 := RepV.ext F1.wok e2 p v rv
    unfold inK at hb
    split at hb
    · rename_i ks
      obtain ⟨es, _, h2, D, _⟩ := cell_dct x0 r
      split at hb
      · rename_i l
        split at hb
        · rename_i hl
          cases hb
          obtain ⟨b, k, rfl, rfl, h3⟩ := tup_key x0 hl rv2
          refine ⟨b, ad, k, es, rfl, rfl, h3, D, ?_⟩
          rw [← any_key, ← h2]
          exact h w2 (Ext.refl w2) F2 _ (by simp only [RepV])
        · cases hb
      · cases hb
    · cases hb
  | _ => cases hz
theorem opr_din (x0 : XOk S C sc fb X) (n : Bool) : OpR X (compareOp (if n then .NotIn else .In)) (rInDct X n) := by
  have := x0.un
  cases n with
  | false => exact op_inDct (by omega)
  | true => exact op_ninDct (by omega)
theorem s_din (x0 : XOk S C sc fb X) {n : Bool} {a b : Ex} {x y : Expr} {pos : Pos} (ha : SE S W X a x) (hb : SE S W X b y) (hm : notSet y = true) : SE S W X (.din n a b) (.Compare x [if n then .NotIn else .In] [y] pos) :=
  PE.imp (pe_cmpR (opr_din x0 n) ha hb (noMark hm _)) fun σ H Q h => r_din x0 h
theorem t_din (x0 : XOk S C sc fb X) {n : Bool} {a b : Ex} {x y : Expr} {pos : Pos} (ha : SE S W X a x) (hb : SE S W X b y) (hm : notSet y = true) : ST S W X (.v (.din n a b)) (.Compare x [if n then .NotIn else .In] [y] pos) :=
  PT.imp (pt_cmpR (opr_din x0 n) ha hb (noMark hm _)) fun σ H Q h => r_din x0 (test_of h)
end
end RA

/-! Soundness: every expression. -/
namespace RA
open PySem L2

section
variable {S : Gs} {C : Ck} {sc : Scope} {fb : Str → Bool} {X : Cx} {W : WX}
theorem snd_lsth {T : Tb} {X : Cx} (hK : T.K = X.K) : CallR X (.type "list") (rPs T (bi .lsth)) := by
  intro pins s σ H vs us Q I rs h
  obtain ⟨w, σ', sl, mu, ps, z, rfl, F, rp, e, h⟩ := h
  refine snd_list hK pins s σ _ _ us Q I rs ⟨w, σ', sl, mu, ps, z, rfl, F, rp, ?_, h⟩
  unfold bi at e
  unfold lsV
  split at e <;> simp_all
theorem snd_all (x0 : XOk S C sc fb X) (b : Bi) (hb : (!C.hot || b.hotOk) = true) : CallR X (biT b) (rPs S.T (bi b)) := by
  cases hc : C.hot with
  | false =>
    cases b with
    | list => exact snd_lists x0.hK (x0.calm hc)
    | lsth => exact snd_lsth x0.hK
    | sum2 => exact snd_sum2 x0.hK (x0.calm hc)
    | _ => exact snd_bi x0.hK _ (by decide) (by decide) (fun _ => cr_all (x0.calm hc)) (fun _ => cr_sum (x0.calm hc)) (fun _ => x0.calm hc)
  | true =>
    rw [hc] at hb
    cases b with
    | lsth => exact snd_lsth x0.hK
    | list => simp [Bi.hotOk] at hb
    | sum2 => simp [Bi.hotOk] at hb
    | any => simp [Bi.hotOk] at hb
    | min => simp [Bi.hotOk] at hb
    | max => simp [Bi.hotOk] at hb
    | _ => exact snd_bi x0.hK _ (by decide) (by decide) (fun _ => cr_allH (x0.hotc hc)) (fun _ => cr_sumH (x0.hotc hc)) (by rintro (h | h | h) <;> cases h)
theorem s_index (x0 : XOk S C sc fb X) {a : Ex} {as : Exs} {o e : Expr} {es : List Expr} {ap cp : Pos} (ha : SE S W X a o) (hb : SA S W X as (e :: es)) (hk : ckEs C sc fb as (e :: es) = true) (hsu : notSuper o = true) (hl : es.length ≤ 5) (hline : (ap.endLine == cp.line) = true) :
    SE S W X (.mt .index a as) (.Call (.Attribute o "index" ap) (e :: es) [] cp) := by
  have hs := notStar_all hk
  refine PE.imp (pe_bm PySem.F.plainAttrs_str PySem.F.slot_str_index PySem.F.type_str_index (snd_index x0.hK) ha hb (attr_of hsu) ?_ hline (star_cons (hs e List.mem_cons_self)) (back_any fun y hy => hs y (List.mem_cons_of_mem _ hy))) fun σ H Q h => ?_
  · rw [back_all hs]
    have : decide ((e :: es).length + ([] : List Keyword).length + (if ([] : List Keyword).isEmpty then 0 else 1) < 30) = true := decide_eq_true (by simp only [List.length_cons, List.length_nil, List.isEmpty_nil, if_true]; omega)
    rw [this]
    rfl
  · obtain ⟨w, sl, mu, hH, F, P⟩ := h
    refine tE.bnd hH F P fun p v sl1 mu1 w1 e1 F1 rv P1 => ?_
    by_cases hr : recv .index p = true
    · rw [if_pos hr] at P1
      cases p <;> simp [recv] at hr
      have rv' := rv
      simp only [RepV] at rv'
      obtain ⟨rfl, hz⟩ := rv'
      refine ⟨rfl, tA.bnd rfl F1 P1 fun ps vs sl2 mu2 w2 e2 F2 rvs P2 => ?_⟩
      obtain ⟨z', hz', h⟩ := P2.lift
      exact ⟨w2, σ, sl2, mu2, _, ps, z', rfl, F2, RepV.ext F1.wok e2 _ _ rv, rvs, hz', h⟩
    · rw [if_neg hr] at P1
      exact P1.elim
theorem s_mt (x0 : XOk S C sc fb X) {m : Mt} {a : Ex} {as : Exs} {o e : Expr} {es : List Expr} {ap cp : Pos} (ha : SE S W X a o) (hb : SA S W X as (e :: es)) (hk : ckEs C sc fb as (e :: es) = true) (hsu : notSuper o = true) (hl : es.length ≤ 5) (hline : (ap.endLine == cp.line) = true) :
    SE S W X (.mt m a as) (.Call (.Attribute o (mtN m) ap) (e :: es) [] cp) := by
  cases m with
  | join => exact s_join x0 ha hb hk hsu hl hline
  | index => exact s_index x0 ha hb hk hsu hl hline
  | split => exact s_split x0 ha hb hk hsu hl hline
theorem takesW0 {X : Cx} : L2N.Takes X W0 := fun _ _ ⟨_, _, _, _, _, _, _, _, _, _, _, _, _, _, _, _, w⟩ => False.elim w
end

theorem t_all1 {S : Gs} {W : WX} {X : Cx} {t : Tt} {x : Expr} {pos : Pos} (h : ST S W X t x) : PW X (.BoolOp .And [x] pos) (tT S.T S.C W (evall S.G S.cf (.cons t .nil))) :=
  ⟨fun wh pins s σ H Q I q => (pw_and1 h).run wh pins s σ H Q I (by
    obtain ⟨w, sl, mu, hH, F, P⟩ := q
    refine tT.bnd hH F P fun c sl1 mu1 w1 e1 F1 P1 => ?_
    cases c with
    | true => exact P1 w1 (Ext.refl w1) F1
    | false => exact P1 w1 (Ext.refl w1) F1)⟩
theorem t_all2 {S : Gs} {W : WX} {X : Cx} {t t2 : Tt} {ts : Tts} {x y : Expr} {r : List Expr} {pos : Pos} (h : ST S W X t x) (h2 : PW X (.BoolOp .And (y :: r) pos) (tT S.T S.C W (evall S.G S.cf (.cons t2 ts)))) : PW X (.BoolOp .And (x :: y :: r) pos) (tT S.T S.C W (evall S.G S.cf (.cons t (.cons t2 ts)))) :=
  ⟨fun wh pins s σ H Q I q => (pw_and h h2).run wh pins s σ H Q I (by
    obtain ⟨w, sl, mu, hH, F, P⟩ := q
    refine tT.bnd hH F P fun c sl1 mu1 w1 e1 F1 P1 => ?_
    cases c with
    | true => exact ⟨w1, sl1, mu1, rfl, F1, P1⟩
    | false => exact P1 w1 (Ext.refl w1) F1)⟩
theorem t_any1 {S : Gs} {W : WX} {X : Cx} {t : Tt} {x : Expr} {pos : Pos} (h : ST S W X t x) : PW X (.BoolOp .Or [x] pos) (tT S.T S.C W (evany S.G S.cf (.cons t .nil))) :=
  ⟨fun wh pins s σ H Q I q => (pw_or1 h).run wh pins s σ H Q I (by
    obtain ⟨w, sl, mu, hH, F, P⟩ := q
    refine tT.bnd hH F P fun c sl1 mu1 w1 e1 F1 P1 => ?_
    cases c with
    | true => exact P1 w1 (Ext.refl w1) F1
    | false => exact P1 w1 (Ext.refl w1) F1)⟩
theorem t_any2 {S : Gs} {W : WX} {X : Cx} {t t2 : Tt} {ts : Tts} {x y : Expr} {r : List Expr} {pos : Pos} (h : ST S W X t x) (h2 : PW X (.BoolOp .Or (y :: r) pos) (tT S.T S.C W (evany S.G S.cf (.cons t2 ts)))) : PW X (.BoolOp .Or (x :: y :: r) pos) (tT S.T S.C W (evany S.G S.cf (.cons t (.cons t2 ts)))) :=
  ⟨fun wh pins s σ H Q I q => (pw_or h h2).run wh pins s σ H Q I (by
    obtain ⟨w, sl, mu, hH, F, P⟩ := q
    refine tT.bnd hH F P fun c sl1 mu1 w1 e1 F1 P1 => ?_
    cases c with
    | true => exact P1 w1 (Ext.refl w1) F1
    | false => exact ⟨w1, sl1, mu1, rfl, F1, P1⟩)⟩
theorem t_not {S : Gs} {W : WX} {X : Cx} {t : Tt} {x : Expr} {pos : Pos} (h : ST S W X t x) : ST S W X (.nt t) (.UnaryOp .Not x pos) :=
  PT.imp (pt_not h) fun σ H Q q => by
    obtain ⟨w, sl, mu, hH, F, P⟩ := q
    exact tT.bnd hH F P fun c sl1 mu1 w1 e1 F1 P1 => P1 w1 (Ext.refl w1) F1
theorem isTup_of {e : Expr} (h : isTup e = true) : ∃ es k p, e = .Tuple es k p := by
  cases e <;> simp [isTup] at h
  exact ⟨_, _, _, rfl⟩

mutual
theorem s_ex {S : Gs} {C : Ck} : ∀ (a : Ex) {W : WX} {sc : Scope} {fb : Str → Bool} {X : Cx} (x0 : XOk S C sc fb X) (tk : L2N.Takes X W) (e : Expr), ckE C sc fb a e = true → SE S W X a e
  | .non, W, sc, fb, X, x0, tk, e, h => by
    simp only [ckE] at h
    split at h
    · exact s_non
    · cases h
  | .bl b, W, sc, fb, X, x0, tk, e, h => by
    simp only [ckE] at h
    split at h
    · obtain rfl := eq_of_beq h; exact s_bl
    · cases h
  | .int i, W, sc, fb, X, x0, tk, e, h => by
    simp only [ckE] at h
    split at h
    · obtain rfl := eq_of_beq h; exact s_int
    · cases h
  | .str x, W, sc, fb, X, x0, tk, e, h => by
    simp only [ckE] at h
    split at h
    · simp only [Bool.and_eq_true, beq_iff_eq] at h
      exact s_str h.1 (Nat.le_of_ble_eq_true h.2)
    · cases h
  | .loc i, W, sc, fb, X, x0, tk, e, h => by
    simp only [ckE] at h
    split at h
    · simp only [Bool.and_eq_true, decide_eq_true_eq] at h
      exact s_loc x0 h.1.1 h.1.2 h.2
    · cases h
  | .glo g, W, sc, fb, X, x0, tk, e, h => by
    simp only [ckE] at h
    split at h
    · simp only [Bool.and_eq_true, decide_eq_true_eq] at h
      exact s_glo x0 h.1.1 h.1.2 h.2
    · cases h
  | .tup es, W, sc, fb, X, x0, tk, e, h => by
    simp only [ckE] at h
    split at h
    · simp only [Bool.and_eq_true] at h
      exact s_tup (s_exs es x0 tk _ h.1) h.1 (Nat.le_of_ble_eq_true h.2)
    · cases h
  | .lst es, W, sc, fb, X, x0, tk, e, h => by
    simp only [ckE] at h
    split at h
    · simp only [Bool.and_eq_true] at h
      exact s_lst (s_exs es x0 tk _ h.1) h.1 (Nat.le_of_ble_eq_true h.2)
    · cases h
  | .op o a b, W, sc, fb, X, x0, tk, e, h => by
    simp only [ckE] at h
    split at h
    · simp only [Bool.and_eq_true, decide_eq_true_eq] at h
      obtain ⟨⟨rfl, h2⟩, h3⟩ := h
      exact s_op x0 (s_ex a x0 tk _ h2) (s_ex b x0 tk _ h3)
    · cases h
  | .neg a, W, sc, fb, X, x0, tk, e, h => by
    simp only [ckE] at h
    split at h
    · exact s_neg (s_ex a x0 tk _ h)
    · cases h
  | .and a b, W, sc, fb, X, x0, tk, e, h => by
    simp only [ckE] at h
    split at h
    · simp only [Bool.and_eq_true] at h
      exact s_and (s_ex a x0 tk _ h.1) (s_ex b x0 tk _ h.2) (.inr ⟨rfl, rfl⟩)
    · simp only [Bool.and_eq_true] at h
      exact s_and (s_ex a x0 tk _ h.1) (s_ex b x0 tk _ h.2) (.inl rfl)
    · cases h
  | .or a b, W, sc, fb, X, x0, tk, e, h => by
    simp only [ckE] at h
    split at h
    · simp only [Bool.and_eq_true] at h
      exact s_or (s_ex a x0 tk _ h.1) (s_ex b x0 tk _ h.2) (.inr ⟨rfl, rfl⟩)
    · simp only [Bool.and_eq_true] at h
      exact s_or (s_ex a x0 tk _ h.1) (s_ex b x0 tk _ h.2) (.inl rfl)
    · cases h
  | .nt a, W, sc, fb, X, x0, tk, e, h => by
    simp only [ckE] at h
    split at h
    · exact s_nt (s_ex a x0 tk _ h)
    · cases h
  | .cmp o a b, W, sc, fb, X, x0, tk, e, h => by
    simp only [ckE] at h
    split at h
    · simp only [Bool.and_eq_true, decide_eq_true_eq] at h
      obtain ⟨⟨⟨rfl, h2⟩, h3⟩, h4⟩ := h
      exact s_cmp x0 (s_ex a x0 tk _ h2) (s_ex b x0 tk _ h3) h4
    · cases h
  | .chn o o' a b c, W, sc, fb, X, x0, tk, e, h => by
    simp only [ckE] at h
    split at h
    · simp only [Bool.and_eq_true, decide_eq_true_eq] at h
      obtain ⟨⟨⟨⟨⟨rfl, rfl⟩, h2⟩, h3⟩, h4⟩, h5⟩ := h
      exact s_chn x0 (s_ex a x0 tk _ h2) (s_ex b x0 tk _ h3) (s_ex c x0 tk _ h4) h5
    · cases h
  | .isn n a, W, sc, fb, X, x0, tk, e, h => by
    simp only [ckE] at h
    split at h
    · simp only [Bool.and_eq_true, decide_eq_true_eq] at h
      obtain ⟨rfl, h2⟩ := h
      exact s_isn (s_ex a x0 tk _ h2)
    · cases h
  | .isi t a, W, sc, fb, X, x0, tk, e, h => by
    simp only [ckE] at h
    split at h
    · simp only [Bool.and_eq_true] at h
      obtain ⟨⟨⟨h1, h2⟩, h3⟩, h4⟩ := h
      obtain ⟨p, rfl, g1⟩ := isName_of h1
      obtain ⟨p2, rfl, g2⟩ := isName_of h2
      exact s_isi x0 (s_ex a x0 tk _ h3) g1 g2 h4
    · cases h
  | .ife t a b, W, sc, fb, X, x0, tk, e, h => by
    simp only [ckE] at h
    split at h
    · simp only [Bool.and_eq_true] at h
      exact s_ife (s_tt t x0 tk _ h.1.1) (s_ex a x0 tk _ h.1.2) (s_ex b x0 tk _ h.2)
    · cases h
  | .idx a b, W, sc, fb, X, x0, tk, e, h => by
    simp only [ckE] at h
    split at h
    · simp only [Bool.and_eq_true] at h
      exact s_idx x0 (s_ex a x0 tk _ h.1.1) (s_ex b x0 tk _ h.1.2) h.2
    · cases h
  | .sli a lo hi, W, sc, fb, X, x0, tk, e, h => by
    simp only [ckE] at h
    split at h
    · simp only [Bool.and_eq_true] at h
      exact s_sli x0 (s_ex a x0 tk _ h.1.1) (s_oe lo x0 tk _ h.1.2) (s_oe hi x0 tk _ h.2)
    · cases h
  | .call f es, W, sc, fb, X, x0, tk, e, h => by
    simp only [ckE] at h
    split at h
    · simp only [Bool.and_eq_true, decide_eq_true_eq] at h
      obtain ⟨⟨⟨⟨hc, h1⟩, h2⟩, h3⟩, h4⟩ := h
      cases hh : C.hot with
      | false => exact s_call x0 hh tk h1 h2 h3 (s_exs es x0 tk _ h4) h4
      | true =>
        rw [hh] at hc
        simp only [Bool.not_true, Bool.false_or, Bool.and_eq_true, Bool.not_eq_true'] at hc
        obtain ⟨c1, c2⟩ := hc
        rename_i xs _
        cases xs with
        | nil => simp at c2
        | cons x xs => exact s_callH x0 hh tk c1 h1 h2 h3 (s_exs es x0 tk _ h4) h4
    · cases h
  | .cfr f es, W, sc, fb, X, x0, tk, e, h => by
    simp only [ckE] at h
    split at h
    · simp only [Bool.and_eq_true, Bool.not_eq_true', decide_eq_true_eq] at h
      obtain ⟨⟨⟨⟨hc, h1⟩, h2⟩, h3⟩, h4⟩ := h
      exact s_cfr x0 hc tk h1 h2 h3 (s_exs es x0 tk _ h4) h4
    · cases h
  | .cld f es ds, W, sc, fb, X, x0, tk, e, h => by
    simp only [ckE] at h
    split at h
    · simp only [Bool.and_eq_true, Bool.not_eq_true', decide_eq_true_eq] at h
      obtain ⟨⟨⟨⟨⟨⟨hc, h1⟩, h2⟩, h3⟩, h4⟩, h5⟩, h6⟩ := h
      exact s_cld x0 hc tk h1 h2 h3 (s_exs es x0 tk _ h4) h4 h5 (fun z => by rw [z] at h6; cases h6)
    · cases h
  | .bi b es, W, sc, fb, X, x0, tk, e, h => by
    simp only [ckE] at h
    split at h
    · simp only [Bool.and_eq_true] at h
      obtain ⟨p, rfl, g⟩ := isName_of h.1.2
      exact s_bi x0 (snd_all x0 b h.1.1) g (s_exs es x0 tk _ h.2) h.2
    · cases h
  | .mt m a es, W, sc, fb, X, x0, tk, e, h => by
    simp only [ckE] at h
    split at h
    · simp only [Bool.and_eq_true, decide_eq_true_eq] at h
      obtain ⟨⟨⟨⟨⟨rfl, h2⟩, h3⟩, h4⟩, h5⟩, h6⟩ := h
      exact s_mt x0 (s_ex a x0 tk _ h2) (s_exs es x0 tk _ h4) h4 h3 (Nat.le_of_ble_eq_true h5) h6
    · cases h
  | .lc own elt tg it ifs, W, sc, fb, X, x0, tk, e, h => by
    simp only [ckE] at h
    split at h
    · simp only [Bool.and_eq_true, decide_eq_true_eq] at h
      obtain ⟨⟨⟨⟨⟨⟨⟨⟨h1, h2⟩, h3⟩, h4⟩, h5⟩, h6⟩, h7⟩, h8⟩, h9⟩ := h
      have hsl : ∀ i ∈ tg.sl, i ∈ own := fun i hi => by
        have := List.all_eq_true.mp h3 i hi
        simpa using this
      rename_i fs _ _
      cases hc : C.hot with
      | true =>
        refine s_lcH x0 hc h2 h1 hsl (s_itH it x0 hc tk _ _ h4) h9 (fun s H A cl fp => s_tg (x0.blkH hc s H _ A cl fp) tg _ h5) (fun s H A cl fp => s_ifs ?_) fun s H A cl fp => s_ex elt (x0.blkH hc s H _ A cl fp) takesW0 _ h8
        match ifs, fs, h6, h7 with
        | .nil, fs, h6, _ =>
          simp only [ckTs, List.isEmpty_iff] at h6
          exact .inl ⟨rfl, h6⟩
        | .cons t ts, [], h6, _ => simp [ckTs] at h6
        | .cons t .nil, [y], h6, _ =>
          simp only [ckTs, Bool.and_eq_true] at h6
          exact .inr ⟨t, y, rfl, rfl, s_tt t (x0.blkH hc s H _ A cl fp) takesW0 _ h6.1⟩
        | .cons t (.cons _ _), [y], h6, _ => simp [ckTs] at h6
        | _, _ :: _ :: _, _, h7 => exact absurd (Nat.le_of_ble_eq_true h7) (by simp)
      | false =>
      refine s_lc x0 hc h2 h1 hsl (s_it it x0 tk _ _ h4) h9 (fun s H A cl fp => s_tg (x0.blk hc s H _ A cl fp) tg _ h5) (fun s H A cl fp => s_ifs ?_) fun s H A cl fp => s_ex elt (x0.blk hc s H _ A cl fp) takesW0 _ h8
      · match ifs, fs, h6, h7 with
        | .nil, fs, h6, _ =>
          simp only [ckTs, List.isEmpty_iff] at h6
          exact .inl ⟨rfl, h6⟩
        | .cons t ts, [], h6, _ => simp [ckTs] at h6
        | .cons t .nil, [y], h6, _ =>
          simp only [ckTs, Bool.and_eq_true] at h6
          exact .inr ⟨t, y, rfl, rfl, s_tt t (x0.blk hc s H _ A cl fp) takesW0 _ h6.1⟩
        | .cons t (.cons _ _), [y], h6, _ => simp [ckTs] at h6
        | _, _ :: _ :: _, _, h7 => exact absurd (Nat.le_of_ble_eq_true h7) (by simp)
    · cases h
  | .lrg it, W, sc, fb, X, x0, tk, e, h => by
    simp only [ckE] at h
    split at h
    · simp only [Bool.and_eq_true] at h
      obtain ⟨⟨h1, h2⟩, h3⟩ := h
      obtain ⟨p, rfl, g⟩ := isName_of h1
      match it, h3 with
      | .rg1 a, h3 =>
        simp only [ckR] at h3
        split at h3
        · simp only [Bool.and_eq_true] at h3
          obtain ⟨p', rfl, g'⟩ := isName_of h3.1.1
          exact s_lrg1 x0 (s_ex a x0 tk _ h3.1.2) g' g h3.2
        · cases h3
      | .rg2 a b, h3 =>
        simp only [ckR] at h3
        split at h3
        · simp only [Bool.and_eq_true] at h3
          obtain ⟨⟨⟨⟨h4, h5⟩, h6⟩, h7⟩, h8⟩ := h3
          obtain ⟨p', rfl, g'⟩ := isName_of h4
          exact s_lrg2 x0 (s_ex a x0 tk _ h5) (s_ex b x0 tk _ h6) g' g h7 h8
        · cases h3
      | .val _, h3 => simp [ckR] at h3
      | .enu _, h3 => simp [ckR] at h3
      | .enk _ _, h3 => simp [ckR] at h3
      | .zip _ _, h3 => simp [ckR] at h3
    · cases h
  | .dcd es, W, sc, fb, X, x0, tk, e, h => by
    simp only [ckE] at h
    split at h
    · simp only [Bool.and_eq_true] at h
      obtain ⟨h1, h2⟩ := h
      obtain ⟨k1, k2, k3⟩ := s_pps es x0 tk _ _ _ h1
      exact s_dcd x0 h1 (Nat.le_of_ble_eq_true h2) k1 k2 k3
    · cases h
  | .dix a b, W, sc, fb, X, x0, tk, e, h => by
    simp only [ckE] at h
    split at h
    · simp only [Bool.and_eq_true] at h
      exact s_dix x0 (s_ex a x0 tk _ h.1.1) (s_ex b x0 tk _ h.1.2) h.2
    · cases h
  | .dof a, W, sc, fb, X, x0, tk, e, h => by
    simp only [ckE] at h
    split at h
    · simp only [Bool.and_eq_true, Bool.not_eq_true'] at h
      obtain ⟨p, rfl, g⟩ := isName_of h.1.1.2
      exact s_dof x0 h.1.1.1 (s_ex a x0 tk _ h.1.2) g h.2
    · cases h
  | .dgt d k x, W, sc, fb, X, x0, tk, e, h => by
    simp only [ckE] at h
    split at h
    · simp only [Bool.and_eq_true, decide_eq_true_eq] at h
      obtain ⟨⟨⟨⟨⟨⟨⟨rfl, h2⟩, h3⟩, h4⟩, h5⟩, h6⟩, h7⟩, h8⟩ := h
      exact s_dgt x0 (s_ex d x0 tk _ h2) (s_ex k x0 tk _ h3) (s_ex x x0 tk _ h4) h5 h6 h7 h8
    · cases h
  | .rev a, W, sc, fb, X, x0, tk, e, h => by
    simp only [ckE] at h
    split at h
    · exact s_rev x0 (s_ex a x0 tk _ h)
    · cases h
  | .exf i c k, W, sc, fb, X, x0, tk, e, h => by
    simp only [ckE] at h
    split at h
    · simp only [Bool.and_eq_true, decide_eq_true_eq] at h
      exact s_exf x0 h.1.1.1 h.1.1.2 h.1.2 h.2
    · cases h
  | .new c f es, W, sc, fb, X, x0, tk, e, h => by
    simp only [ckE] at h
    split at h
    · simp only [Bool.and_eq_true, Bool.not_eq_true', decide_eq_true_eq] at h
      obtain ⟨⟨⟨⟨⟨hc, h1⟩, h2⟩, h3⟩, h4⟩, h5⟩ := h
      exact s_new x0 hc tk h1 h2 h3 h4 (s_exs es x0 tk _ h5) h5
    · cases h
  | .att c k a, W, sc, fb, X, x0, tk, e, h => by
    simp only [ckE] at h
    split at h
    · simp only [Bool.and_eq_true, decide_eq_true_eq, Option.bind_eq_some_iff] at h
      obtain ⟨⟨⟨ns, h1, h2⟩, h3⟩, h4⟩ := h
      exact s_att x0 h1 h2 (s_ex a x0 tk _ h3) h4
    · cases h
  | .mth c f a es, W, sc, fb, X, x0, tk, e, h => by
    simp only [ckE] at h
    split at h
    · simp only [Bool.and_eq_true, Bool.not_eq_true', decide_eq_true_eq] at h
      obtain ⟨⟨⟨⟨⟨⟨hc, h1⟩, h2⟩, h3⟩, h4⟩, h5⟩, h6⟩ := h
      exact s_mth x0 hc tk h1 (s_ex a x0 tk _ h2) h3 (s_exs es x0 tk _ h4) h4 (Nat.le_of_ble_eq_true h5) h6
    · cases h
  | .lsc a, W, sc, fb, X, x0, tk, e, h => by
    simp only [ckE] at h
    split at h
    · simp only [Bool.and_eq_true] at h
      obtain ⟨⟨h1, h2⟩, h3⟩ := h
      obtain ⟨p, rfl, g⟩ := isName_of h1
      exact s_lsc x0 g (s_ex a x0 tk _ h2) h3
    · cases h
  | .pop a, W, sc, fb, X, x0, tk, e, h => by
    simp only [ckE] at h
    split at h
    · simp only [Bool.and_eq_true, decide_eq_true_eq] at h
      obtain ⟨⟨⟨⟨rfl, h1⟩, h2⟩, h3⟩, h4⟩ := h
      obtain rfl := eq_of_beq h1
      exact s_pop x0 (s_ex a x0 tk _ h2) h3 h4
    · cases h
  | .rpe a b, W, sc, fb, X, x0, tk, e, h => by
    simp only [ckE] at h
    split at h
    · simp only [Bool.and_eq_true, decide_eq_true_eq] at h
      obtain ⟨⟨⟨⟨⟨⟨⟨h1, rfl⟩, h2⟩, h3⟩, h4⟩, h5⟩, h6⟩, h7⟩ := h
      obtain ⟨p1, rfl, g1⟩ := isName_of h2
      obtain ⟨p2, rfl, g2⟩ := isName_of h3
      exact s_rpe x0 h1 g1 (s_ex a x0 tk _ h4) (s_ex b x0 tk _ h5) h6 h7
    · cases h
  | .lsx bs es, W, sc, fb, X, x0, tk, e, h => by
    simp only [ckE] at h
    split at h
    · simp only [Bool.and_eq_true] at h
      exact s_lsx (s_sts es bs x0 tk _ h.1)
    · cases h
  | .din n a b, W, sc, fb, X, x0, tk, e, h => by
    simp only [ckE] at h
    split at h
    · simp only [Bool.and_eq_true, decide_eq_true_eq] at h
      obtain ⟨⟨⟨rfl, h2⟩, h3⟩, h4⟩ := h
      exact s_din x0 (s_ex a x0 tk _ h2) (s_ex b x0 tk _ h3) h4
    · cases h
  | .xie i k tb, W, sc, fb, X, x0, tk, e, h => by
    simp only [ckE] at h
    split at h
    · simp only [Bool.and_eq_true, decide_eq_true_eq] at h
      obtain ⟨⟨⟨⟨⟨⟨h1, h2⟩, h3⟩, h4⟩, h5⟩, h6⟩, h7⟩ := h
      obtain ⟨p, rfl, g⟩ := isName_of h1
      exact s_xie x0 h2 h3 h4 h5 g h6 h7
    · cases h
  | .stk, W, sc, fb, X, x0, tk, e, h => s_stk
  | .fnv f, W, sc, fb, X, x0, tk, e, h => by
    simp only [ckE] at h
    split at h
    · simp only [Bool.and_eq_true, decide_eq_true_eq] at h
      exact s_fnv x0 h.1.1 h.1.2 h.2
    · cases h
  | .clv i es, W, sc, fb, X, x0, tk, e, h => by
    simp only [ckE] at h
    split at h
    · simp only [Bool.and_eq_true, Bool.not_eq_true', decide_eq_true_eq] at h
      obtain ⟨⟨⟨⟨hc, h1⟩, h2⟩, h3⟩, h4⟩ := h
      exact s_clvG x0 hc tk h1 h2 h3 (s_exs es x0 tk _ h4) h4
    · cases h
  | .lam k f, W, sc, fb, X, x0, tk, e, h => by
    simp only [ckE] at h
    split at h
    · simp only [Bool.and_eq_true, Bool.not_eq_true'] at h
      obtain ⟨hc, h⟩ := h
      split at h
      · rename_i j chk hl
        simp only [Bool.and_eq_true] at h
        obtain ⟨h1, h2⟩ := h
        obtain rfl := eq_of_beq h1
        exact s_lam x0 hc hl h2
      · cases h
    · cases h
  | .bmt c f a, W, sc, fb, X, x0, tk, e, h => by
    simp only [ckE] at h
    split at h
    · simp only [Bool.and_eq_true, Bool.not_eq_true', decide_eq_true_eq] at h
      obtain ⟨⟨⟨⟨hc, h1⟩, h2⟩, h3⟩, h4⟩ := h
      exact s_bmt x0 hc h1 h2 (s_ex a x0 tk _ h3) h4
    · cases h
  | .oem n i, W, sc, fb, X, x0, tk, e, h => by
    simp only [ckE] at h
    split at h
    · simp only [Bool.and_eq_true, Bool.not_eq_true', decide_eq_true_eq] at h
      obtain ⟨⟨⟨⟨hc, rfl⟩, h1⟩, h2⟩, h3⟩ := h
      exact s_oem x0 h1 h2 h3 (s_lst (C := C) (sc := sc) (fb := fb) a_nil (show ckEs C sc fb .nil [] = true from rfl) (Nat.zero_le _))
    · cases h
  | .tst bs es, W, sc, fb, X, x0, tk, e, h => by
    simp only [ckE] at h
    split at h
    · simp only [Bool.and_eq_true] at h
      exact s_tst (s_sts es bs x0 tk _ h.1)
    · cases h
  | .xnw c ks es, W, sc, fb, X, x0, tk, e, h => by
    simp only [ckE] at h
    split at h
    · simp only [Bool.and_eq_true, Bool.not_eq_true', decide_eq_true_eq] at h
      obtain ⟨⟨⟨⟨⟨hc, h1⟩, h2⟩, h3⟩, h4⟩, _⟩ := h
      exact s_xnw x0 hc h1 h2 h3 (s_exs es x0 tk _ h4) h4
    · cases h
  | .xat tb a, W, sc, fb, X, x0, tk, e, h => by
    simp only [ckE] at h
    split at h
    · rw [Bool.and_eq_true, Bool.and_eq_true] at h
      exact s_xat x0 h.1.1 (s_ex a x0 tk _ h.1.2) h.2
    · cases h
  | .xis k tb a, W, sc, fb, X, x0, tk, e, h => by
    simp only [ckE] at h
    split at h
    · simp only [Bool.and_eq_true, decide_eq_true_eq] at h
      obtain ⟨⟨⟨⟨⟨h1, h2⟩, h3⟩, h4⟩, h5⟩, h6⟩ := h
      obtain ⟨p, rfl, g1⟩ := isName_of h1
      exact s_xis x0 h2 g1 h3 h4 (s_ex a x0 tk _ h5) h6
    · cases h
theorem s_sts {S : Gs} {C : Ck} : ∀ (a : Exs) (bs : List Bool) {W : WX} {sc : Scope} {fb : Str → Bool} {X : Cx} (x0 : XOk S C sc fb X) (tk : L2N.Takes X W) (xs : List Expr), ckSt C sc fb bs a xs = true → SSt S W X bs a xs
  | .nil, bs, W, sc, fb, X, x0, tk, xs, h => by
    match bs, h with
    | [], h =>
      simp only [ckSt, List.isEmpty_iff] at h
      subst h
      exact st_nil
    | _ :: _, h => simp [ckSt] at h
  | .cons e es, bs, W, sc, fb, X, x0, tk, xs, h => by
    match bs, h with
    | [], h => simp [ckSt] at h
    | b :: bs, h =>
      rw [ckSt.eq_def] at h
      simp only at h
      match xs, h with
      | [], h => simp at h
      | x :: r, h =>
        simp only [Bool.and_eq_true] at h
        obtain ⟨h1, h2⟩ := h
        cases b with
        | false =>
          simp only [Bool.and_eq_true] at h1
          exact st_cons (s_ex e x0 tk _ h1.1) (s_sts es bs x0 tk _ h2) h1.2
        | true =>
          cases x <;> first
            | exact st_star x0 (s_ex e x0 tk _ h1) (s_sts es bs x0 tk _ h2)
            | (simp at h1; done)
theorem s_pps {S : Gs} {C : Ck} : ∀ (a : Exs) {W : WX} {sc : Scope} {fb : Str → Bool} {X : Cx} (x0 : XOk S C sc fb X) (tk : L2N.Takes X W) (keys : List (Option Expr)) (values : List Expr) (pos : Pos), ckD C sc fb a keys values = true → keys.all (·.isSome) = true ∧ keys.length = values.length ∧ PPs X pos keys values (trsOf S W a)
  | .nil, W, sc, fb, X, x0, tk, keys, values, pos, h => by
    simp only [ckD, Bool.and_eq_true, List.isEmpty_iff] at h
    obtain ⟨rfl, rfl⟩ := h
    exact ⟨rfl, rfl, pps_nil⟩
  | .cons k .nil, W, sc, fb, X, x0, tk, keys, values, pos, h => by simp [ckD] at h
  | .cons k (.cons v r), W, sc, fb, X, x0, tk, keys, values, pos, h => by
    unfold ckD at h
    simp only at h
    split at h
    · simp only [Bool.and_eq_true] at h
      obtain ⟨h1, h2, h3⟩ := s_pps r x0 tk _ _ pos h.2
      exact ⟨by simpa using h1, by simpa using h2, pps_cons (s_ex k x0 tk _ h.1.1) (s_ex v x0 tk _ h.1.2) h3⟩
    · cases h
theorem s_it {S : Gs} {C : Ck} : ∀ (a : It) {W : WX} {sc : Scope} {fb : Str → Bool} {X : Cx} (x0 : XOk S C sc fb X) (tk : L2N.Takes X W) (e tg : Expr), ckI C sc fb a e tg = true → SI S W X a tg e
  | .val a, W, sc, fb, X, x0, tk, e, tg, h => by
    simp only [ckI] at h
    exact i_val x0 (s_ex a x0 tk _ h)
  | .rg1 a, W, sc, fb, X, x0, tk, e, tg, h => by
    simp only [ckI] at h
    split at h
    · simp only [Bool.and_eq_true] at h
      obtain ⟨p', rfl, g'⟩ := isName_of h.1.1
      exact i_rg1 x0 (s_ex a x0 tk _ h.1.2) g' h.2
    · cases h
  | .rg2 a b, W, sc, fb, X, x0, tk, e, tg, h => by
    simp only [ckI] at h
    split at h
    · simp only [Bool.and_eq_true] at h
      obtain ⟨⟨⟨⟨⟨_, h4⟩, h5⟩, h6⟩, h7⟩, h8⟩ := h
      obtain ⟨p', rfl, g'⟩ := isName_of h4
      exact i_rg2 x0 (s_ex a x0 tk _ h5) (s_ex b x0 tk _ h6) g' h7 h8
    · cases h
  | .enu a, W, sc, fb, X, x0, tk, e, tg, h => by
    simp only [ckI] at h
    split at h
    · simp only [Bool.and_eq_true] at h
      obtain ⟨⟨⟨⟨_, h4⟩, h5⟩, h6⟩, h7⟩ := h
      obtain ⟨p', rfl, g'⟩ := isName_of h4
      obtain ⟨es, k, p3, rfl⟩ := isTup_of h7
      exact i_enu x0 (s_ex a x0 tk _ h5) g' h6
    · cases h
  | .enk k a, W, sc, fb, X, x0, tk, e, tg, h => by
    simp only [ckI] at h
    split at h
    · simp only [Bool.and_eq_true, decide_eq_true_eq] at h
      obtain ⟨⟨⟨⟨⟨⟨_, h4⟩, h5⟩, h6⟩, h7⟩, h8⟩, h9⟩ := h
      obtain ⟨p', rfl, g'⟩ := isName_of h4
      obtain ⟨es, k, p3, rfl⟩ := isTup_of h7
      exact i_enk x0 h8 (Nat.le_of_ble_eq_true h9) (s_ex a x0 tk _ h5) g' h6
    · cases h
  | .zip a b, W, sc, fb, X, x0, tk, e, tg, h => by
    simp only [ckI] at h
    split at h
    · simp only [Bool.and_eq_true] at h
      obtain ⟨⟨⟨⟨⟨h4, h5⟩, h6⟩, h7⟩, h8⟩, h9⟩ := h
      obtain ⟨p', rfl, g'⟩ := isName_of h4
      obtain ⟨es, k, p3, rfl⟩ := isTup_of h9
      exact i_zip x0 (s_ex a x0 tk _ h5) (s_ex b x0 tk _ h6) g' h7 h8
    · cases h
theorem s_itH {S : Gs} {C : Ck} : ∀ (a : It) {W : WX} {sc : Scope} {fb : Str → Bool} {X : Cx} (x0 : XOk S C sc fb X) (hc : C.hot = true) (tk : L2N.Takes X W) (e tg : Expr), ckI C sc fb a e tg = true → SIH S W X a tg e
  | .val a, W, sc, fb, X, x0, hc, tk, e, tg, h => by
    simp only [ckI] at h
    exact i_valH x0 (s_ex a x0 tk _ h)
  | .rg1 a, W, sc, fb, X, x0, hc, tk, e, tg, h => by
    simp only [ckI] at h
    split at h
    · simp only [Bool.and_eq_true] at h
      obtain ⟨p', rfl, g'⟩ := isName_of h.1.1
      exact i_rg1H x0 (s_ex a x0 tk _ h.1.2) g' h.2
    · cases h
  | .rg2 a b, W, sc, fb, X, x0, hc, tk, e, tg, h => by
    simp only [ckI, hc] at h
    split at h <;> simp at h
  | .enu a, W, sc, fb, X, x0, hc, tk, e, tg, h => by
    simp only [ckI, hc] at h
    split at h <;> simp at h
  | .enk k a, W, sc, fb, X, x0, hc, tk, e, tg, h => by
    simp only [ckI, hc] at h
    split at h <;> simp at h
  | .zip a b, W, sc, fb, X, x0, hc, tk, e, tg, h => by
    simp only [ckI] at h
    split at h
    · simp only [Bool.and_eq_true] at h
      obtain ⟨⟨⟨⟨⟨h4, h5⟩, h6⟩, h7⟩, h8⟩, h9⟩ := h
      obtain ⟨p', rfl, g'⟩ := isName_of h4
      obtain ⟨es, k, p3, rfl⟩ := isTup_of h9
      exact i_zipH x0 (s_ex a x0 tk _ h5) (s_ex b x0 tk _ h6) g' h7 h8
    · cases h
theorem s_exs {S : Gs} {C : Ck} : ∀ (a : Exs) {W : WX} {sc : Scope} {fb : Str → Bool} {X : Cx} (x0 : XOk S C sc fb X) (tk : L2N.Takes X W) (e : List Expr), ckEs C sc fb a e = true → SA S W X a e
  | .nil, W, sc, fb, X, x0, tk, e, h => by
    simp only [ckEs, List.isEmpty_iff] at h
    subst h
    exact a_nil
  | .cons a as, W, sc, fb, X, x0, tk, e, h => by
    simp only [ckEs] at h
    split at h
    · simp only [Bool.and_eq_true] at h
      exact a_cons (s_ex a x0 tk _ h.1.1) (s_exs as x0 tk _ h.2) h.1.2
    · cases h
theorem s_tt {S : Gs} {C : Ck} : ∀ (a : Tt) {W : WX} {sc : Scope} {fb : Str → Bool} {X : Cx} (x0 : XOk S C sc fb X) (tk : L2N.Takes X W) (e : Expr), ckT C sc fb a e = true → ST S W X a e
  | .v a, W, sc, fb, X, x0, tk, e, h => by
    simp only [ckT, Bool.and_eq_true, Bool.or_eq_true] at h
    obtain ⟨h1, h2 | h2⟩ := h
    · exact t_val (s_ex a x0 tk _ h1) h2
    · match a, h1, h2 with
      | .din n a b, h, _ =>
        simp only [ckE] at h
        split at h
        · simp only [Bool.and_eq_true, decide_eq_true_eq] at h
          obtain ⟨⟨⟨rfl, h2⟩, h3⟩, h4⟩ := h
          exact t_din x0 (s_ex a x0 tk _ h2) (s_ex b x0 tk _ h3) h4
        · cases h
      | .oem n i, h, _ =>
        simp only [ckE] at h
        split at h
        · simp only [Bool.and_eq_true, Bool.not_eq_true', decide_eq_true_eq] at h
          obtain ⟨⟨⟨⟨hc, rfl⟩, g1⟩, g2⟩, g3⟩ := h
          exact t_oem x0 g1 g2 g3 (s_lst (C := C) (sc := sc) (fb := fb) a_nil (show ckEs C sc fb .nil [] = true from rfl) (Nat.zero_le _))
        · cases h
      | .cmp o a b, h, _ =>
        simp only [ckE] at h
        split at h
        · simp only [Bool.and_eq_true, decide_eq_true_eq] at h
          obtain ⟨⟨⟨rfl, h2⟩, h3⟩, h4⟩ := h
          exact t_cmp x0 (s_ex a x0 tk _ h2) (s_ex b x0 tk _ h3) h4
        · cases h
      | .chn o o' a b c, h, _ =>
        simp only [ckE] at h
        split at h
        · simp only [Bool.and_eq_true, decide_eq_true_eq] at h
          obtain ⟨⟨⟨⟨⟨rfl, rfl⟩, h2⟩, h3⟩, h4⟩, h5⟩ := h
          exact t_chn x0 (s_ex a x0 tk _ h2) (s_ex b x0 tk _ h3) (s_ex c x0 tk _ h4) h5
        · cases h
      | .isn n a, h, _ =>
        simp only [ckE] at h
        split at h
        · simp only [Bool.and_eq_true, decide_eq_true_eq] at h
          obtain ⟨rfl, h2⟩ := h
          exact t_isn (s_ex a x0 tk _ h2)
        · cases h
  | .all ts, W, sc, fb, X, x0, tk, e, h => by
    simp only [ckT] at h
    split at h
    · simp only [Bool.and_eq_true] at h
      obtain ⟨h1, h2⟩ := h
      rename_i xs _
      match xs, h1, h2 with
      | x :: r, h1, _ => exact (s_all ts x0 tk x r _ h1).pt
    · cases h
  | .any ts, W, sc, fb, X, x0, tk, e, h => by
    simp only [ckT] at h
    split at h
    · simp only [Bool.and_eq_true] at h
      obtain ⟨h1, h2⟩ := h
      rename_i xs _
      match xs, h1, h2 with
      | x :: r, h1, _ => exact (s_any ts x0 tk x r _ h1).pt
    · cases h
  | .nt t, W, sc, fb, X, x0, tk, e, h => by
    simp only [ckT] at h
    split at h
    · exact t_not (s_tt t x0 tk _ h)
    · cases h
theorem s_all {S : Gs} {C : Ck} : ∀ (a : Tts) {W : WX} {sc : Scope} {fb : Str → Bool} {X : Cx} (x0 : XOk S C sc fb X) (tk : L2N.Takes X W) (x : Expr) (r : List Expr) (pos : Pos), ckTs C sc fb a (x :: r) = true → PW X (.BoolOp .And (x :: r) pos) (tT S.T S.C W (evall S.G S.cf a))
  | .nil, W, sc, fb, X, x0, tk, x, r, pos, h => by simp [ckTs] at h
  | .cons t .nil, W, sc, fb, X, x0, tk, x, r, pos, h => by
    simp only [ckTs, Bool.and_eq_true, List.isEmpty_iff] at h
    obtain ⟨h1, rfl⟩ := h
    exact t_all1 (s_tt t x0 tk _ h1)
  | .cons t (.cons t2 ts), W, sc, fb, X, x0, tk, x, r, pos, h => by
    rw [ckTs] at h
    simp only [Bool.and_eq_true] at h
    obtain ⟨h1, h2⟩ := h
    match r, h2 with
    | y :: r, h2 => exact t_all2 (s_tt t x0 tk _ h1) (s_all (.cons t2 ts) x0 tk y r pos h2)
    | [], h2 => simp [ckTs] at h2
theorem s_any {S : Gs} {C : Ck} : ∀ (a : Tts) {W : WX} {sc : Scope} {fb : Str → Bool} {X : Cx} (x0 : XOk S C sc fb X) (tk : L2N.Takes X W) (x : Expr) (r : List Expr) (pos : Pos), ckTs C sc fb a (x :: r) = true → PW X (.BoolOp .Or (x :: r) pos) (tT S.T S.C W (evany S.G S.cf a))
  | .nil, W, sc, fb, X, x0, tk, x, r, pos, h => by simp [ckTs] at h
  | .cons t .nil, W, sc, fb, X, x0, tk, x, r, pos, h => by
    simp only [ckTs, Bool.and_eq_true, List.isEmpty_iff] at h
    obtain ⟨h1, rfl⟩ := h
    exact t_any1 (s_tt t x0 tk _ h1)
  | .cons t (.cons t2 ts), W, sc, fb, X, x0, tk, x, r, pos, h => by
    rw [ckTs] at h
    simp only [Bool.and_eq_true] at h
    obtain ⟨h1, h2⟩ := h
    match r, h2 with
    | y :: r, h2 => exact t_any2 (s_tt t x0 tk _ h1) (s_any (.cons t2 ts) x0 tk y r pos h2)
    | [], h2 => simp [ckTs] at h2
theorem s_oe {S : Gs} {C : Ck} : ∀ (a : Oe) {W : WX} {sc : Scope} {fb : Str → Bool} {X : Cx} (x0 : XOk S C sc fb X) (tk : L2N.Takes X W) (e : Option Expr), ckO C sc fb a e = true → SO S W X a e
  | .no, W, sc, fb, X, x0, tk, e, h => by
    simp only [ckO, Option.isNone_iff_eq_none] at h
    subst h
    exact o_no
  | .so a, W, sc, fb, X, x0, tk, e, h => by
    simp only [ckO] at h
    split at h
    · exact o_so (s_ex a x0 tk _ h)
    · cases h
end
end RA

/-! The checker of statements. -/
namespace RA
open PySem L2

def noComp : Expr → Bool
  | .ListComp _ _ _ _ => false
  | .SetComp _ _ _ _ => false
  | .DictComp _ _ _ _ _ => false
  | _ => true
/-- a comprehension stored at once -/
def lcSame (sc : Scope) (x : Str) (p : Pos) : Expr → Bool
  | .ListComp _ _ scope q => (match sc.names.lookup x with | some .local => true | _ => false) && p.line == q.line && !(scope.names.any fun (n, k) => n == x && (k == .local || k == .cell))
  | _ => false
def isLoc (sc : Scope) (x : Str) : Bool := match sc.names.lookup x with | some .local => true | _ => false
def isCl (sc : Scope) (x : Str) : Bool := match sc.names.lookup x with | some .cell => true | _ => false
/-- the stores of a display are in order -/
def swN (sc : Scope) : Expr → Expr → Bool
  | .Tuple ts _ _, .Tuple vs _ _ => !(ts.length == 2 || ts.length == 3) || !(vs.length == ts.length) || (ts.any fun t => match t with | .Name id _ => !isLoc sc id | _ => true) || vs.all (foldedForSure 8)
  | .List _ _, _ => false
  | _, _ => true
/-- one sign text of a case -/
def ckPat : List (List Nat) → Pattern → Bool
  | ks, .MatchValue (.Constant (.str y) _ _) _ => ks == [y.cps.toList]
  | ks, .MatchOr ps _ => !ps.isEmpty && decide (ps.length = ks.length) && (ks.zip ps).all fun p => match p.2 with | .MatchValue (.Constant (.str y) _ _) _ => p.1 == y.cps.toList | _ => false
  | _, _ => false
mutual
def ckS (sc : Scope) (fb : Str → Bool) : Sm → Ck → Stmt → Bool
  | .asg i e, C, st => (match st with | .Assign [.Name x p] v _ => decide (C.N[i]? = some x) && loc sc fb x && ckE C sc fb e v && ((noComp v || isCl sc x) || (!C.hot && lcSame sc x p v)) | _ => false)
  | .cell i es, C, st => (match st with | .Assign [.Name x _] (.List xs _) _ => decide (C.N[i]? = some x) && loc sc fb x && ckEs C sc fb es xs && Nat.ble xs.length 1000 | _ => false)
  | .own i es, C, st => (match st with | .Assign [.Name x _] (.List xs _) _ => decide (C.N[i]? = some x) && loc sc fb x && ckEs C sc fb es xs && Nat.ble xs.length 1000 | _ => false)
  | .ast tg e, C, st => (match st with | .Assign [t] v _ => notStar t && ckG C.N sc fb tg t && ckE C sc fb e v && noComp v && swN sc t v | _ => false)
  | .par i j a b, C, st => (match st with | .Assign [.Tuple [.Name x px, .Name y py] _ _] (.Tuple [u, v] _ _) _ => !C.hot && decide (C.N[i]? = some x) && decide (C.N[j]? = some y) && isLoc sc x && isLoc sc y && px.line == py.line && !(x == y) && notStar u && notStar v
      && !([u, v].all (foldedForSure 8)) && !([u, v].all (constantsAlone 8)) && ckE C sc fb a u && ckE C sc fb b v | _ => false)
  | .pow i j k, C, st => (match st with | .Assign [.Tuple [.Name x px, .Name y py] _ _] (.Tuple [.List [] lp, .Constant (.int z) kz pz] _ _) _ => !C.hot && decide (C.N[i]? = some x) && decide (C.N[j]? = some y) && isLoc sc x && isLoc sc y && px.line == py.line && !(x == y) && k == z
      && !([.List [] lp, .Constant (.int z) kz pz].all (foldedForSure 8)) && !([.List [] lp, .Constant (.int z) kz pz].all (constantsAlone 8)) | _ => false)
  | .owl i e, C, st => (match st with | .Assign [.Name x _] (.Call f [y] [] _) _ => !C.hot && decide (C.N[i]? = some x) && loc sc fb x && isName sc "list" f && ckE C sc fb e y && notStar y && noComp (.Call f [y] [] ⟨0, 0, 0, 0⟩) | _ => false)
  | .dst a k, C, st => (match st with | .Assign [.Subscript o i _] (.Constant (.bool b) _ _) _ => b && ckE C sc fb a o && ckE C sc fb k i && notSlice i | _ => false)
  | .owe i j e, C, st => (match st with | .Assign [.Tuple [.Name x px, .Name y py] _ _] (.Tuple [.List [] lp, v] _ _) _ => !C.hot && decide (C.N[i]? = some x) && decide (C.N[j]? = some y) && isLoc sc x && isLoc sc y && px.line == py.line && !(x == y) && notStar v
      && !([.List [] lp, v].all (foldedForSure 8)) && !([.List [] lp, v].all (constantsAlone 8)) && ckE C sc fb e v | _ => false)
  | .asl k own elt tg it ifs, C, st => (match st with
    | .Assign [.Name n p] (.ListComp x [⟨t, i, fs, 0⟩] scope q) _ => !C.hot && decide (C.N[k]? = some n) && lcSame sc n p (.ListComp x [⟨t, i, fs, 0⟩] scope q) && blkC C.N sc scope (ownOf C.N own) && decide ((ownOf C.N own).map (·.2) = own) && tg.sl.all (fun i => own.contains i) && ckI C sc fb it i t && ckG C.N (relS scope sc) (fun y => scope.names.lookup y == some .cell) tg t
        && ckTs C (relS scope sc) (fun y => scope.names.lookup y == some .cell) ifs fs && Nat.ble fs.length 1 && ckE C (relS scope sc) (fun y => scope.names.lookup y == some .cell) elt x && notSet i
    | _ => false)
  | .owd i j, C, st => (match st with | .Assign [.Tuple [.Name x px, .Name y py] kt pt] (.Tuple [.List [] lp, .Dict [] [] dp] kv pv) _ => decide (C.N[i]? = some x) && decide (C.N[j]? = some y) && loc sc fb x && loc sc fb y && !(i == j) && swN sc (.Tuple [.Name x px, .Name y py] kt pt) (.Tuple [.List [] lp, .Dict [] [] dp] kv pv) | _ => false)
  | .par3 i j k a b c, C, st => (match st with | .Assign [.Tuple [.Name x px, .Name y py, .Name z pz] _ _] (.Tuple [u, v, w] _ _) _ => !C.hot && decide (C.N[i]? = some x) && decide (C.N[j]? = some y) && decide (C.N[k]? = some z) && isLoc sc x && isLoc sc y && isLoc sc z && px.line == py.line && px.line == pz.line
      && !(x == y) && !(x == z) && !(y == z) && notStar u && notStar v && notStar w && !([u, v, w].all (foldedForSure 8)) && !([u, v, w].all (constantsAlone 8)) && ckE C sc fb a u && ckE C sc fb b v && ckE C sc fb c w | _ => false)
  | .aug i o e, C, st => (match st with | .AugAssign (.Name x _) p v _ => decide (C.N[i]? = some x) && loc sc fb x && decide (p = opE o) && ckE C sc fb e v | _ => false)
  | .stc a k v, C, st => (match st with | .Assign [.Subscript o i _] e _ => ckE C sc fb a o && ckE C sc fb k i && notSlice i && ckE C sc fb v e && noComp e | _ => false)
  | .ift t a b, C, st => (match st with | .If c x y _ => ckT C sc fb t c && ckSs sc fb a C x && ckSs sc fb b C y | _ => false)
  | .whl t b, C, st => (match st with | .While c x [] _ => ckT C sc fb t c && ckSs sc fb b C x | _ => false)
  | .for tg it b, C, st => (match st with | .For t i x [] _ => ckG C.N sc fb tg t && ckI C sc fb it i t && notSet i && ckSs sc fb b C x | _ => false)
  | .ret e, C, st => (match st with | .Return (some v) _ => ckE C sc fb e v | _ => false)
  | .exp e, C, st => (match st with | .Expr v _ => ckE C sc fb e v && noComp v | _ => false)
  | .pas, C, st => (match st with | .Pass _ => true | _ => false)
  | .brk, C, st => (match st with | .Break _ => true | _ => false)
  | .cnt, C, st => (match st with | .Continue _ => true | _ => false)
  | .mat e cs, C, st => (match st with | .Match v ms _ => ckE C sc fb e v && ckMs sc fb cs C ms | _ => false)
  | .app i e, C, st => (match st with | .Expr (.Call (.Attribute (.Name x _) n ap) [v] [] cp) _ => decide (n = "append") && decide (C.N[i]? = some x) && vis sc x && okNm x && ckE C sc fb e v && notStar v && ap.endLine == cp.line | _ => false)
  | .exd i e, C, st => (match st with | .Expr (.Call (.Attribute (.Name x _) n ap) [v] [] cp) _ => decide (n = "extend") && decide (C.N[i]? = some x) && vis sc x && okNm x && ckE C sc fb e v && notStar v && ap.endLine == cp.line | _ => false)
  | .rai c ks es, C, st => (match st with | .Raise (some (.Call (.Name x _) (y :: ys) [] _)) none _ => !C.hot && decide (C.xcn[c]? = some (x, ks)) && glb sc x && okNm x && ckEs C sc fb es (y :: ys) && Nat.ble (y :: ys).length 900 | _ => false)
  | .try b c i h, C, st => (match st with | .Try body [.ExceptHandler (some (.Name x _)) nm (b0 :: suite) _] [] [] _ => !C.hot && (match C.xcn[c]? with | some (y, _) => decide (y = x) | none => false) && C.hnd.contains c && glb sc x && okNm x
      && (match i, nm with | some j, some n => decide (C.N[j]? = some n) && isLoc sc n | none, none => true | _, _ => false) && ckSs sc fb b C body && ckSs sc fb h { C with hot := true } (b0 :: suite) | _ => false)
  | .sat c k a v, C, st => (match st with | .Assign [.Attribute o n _] e _ => decide ((C.atn[c]?).bind (·[k]?) = some n) && ckE C sc fb a o && ckE C sc fb v e && noComp e | _ => false)
  | .aat c k a oo v, C, st => (match st with | .AugAssign (.Attribute o n _) p e _ => decide ((C.atn[c]?).bind (·[k]?) = some n) && decide (p = opE oo) && ckE C sc fb a o && ckE C sc fb v e | _ => false)
  | .stk, _, _ => true
  | _, _, _ => false
def ckSs (sc : Scope) (fb : Str → Bool) : Sms → Ck → List Stmt → Bool
  | .nil, C, sts => sts.isEmpty
  | .cons s r, C, sts => (match sts with | x :: xs => ckS sc fb s C x && ckSs sc fb r C xs | [] => false)
def ckMs (sc : Scope) (fb : Str → Bool) : Mcs → Ck → List MatchCase → Bool
  | .nil, C, ms => ms.isEmpty
  | .cons ks b r, C, ms => (match ms with | ⟨p, none, body⟩ :: rest => ckPat ks p && ckSs sc fb b C body && ckMs sc fb r C rest | _ => false)
end
/-- what is known of a def beforehand -/
structure FI where
  name : Str
  gn : Option Str
  mt : Option (Nat × Str)
  st : Stmt
  N : List Str
  ps : List Str
  fn : Fn
  lam : Bool := false
  lk : Option Nat := none
  dfl : List Int := []
def isFun : ScopeKind → Bool
  | .function => true
  | _ => false
/-- the tables of a text: constants, classes, attributes, exceptions -/
structure Tx where
  gn : List Str
  cln : List Str := []
  atn : List (List Str) := []
  xcn : List (Str × List Bool) := []
  xfl : List (List Str) := []
  icl : List (Str × List (Nat × Bool)) := []
  hnd : List Nat := []
  hf : List Nat := []
  bmn : List Nat := []
def Tx.ck (t : Tx) (Is : List FI) (N : List Str) : Ck := ⟨N, t.gn, Is.map FI.gn, Is.map FI.mt, t.cln, t.atn, t.xcn, t.xfl, t.icl, false, t.hnd, t.hf, true, none, t.bmn, Is.map FI.dfl⟩
/-- a lambda's parameters: one, of the name reader -/
def lamP (ps : List Str) (params : Arguments) : Bool := match params with
  | ⟨[], [a], none, [], [], none, []⟩ => decide (a.arg = ("reader" : Str)) && decide (ps = [("reader" : Str)])
  | _ => false
/-- the lambda that a function's IR was made of -/
def lamC (t : Tx) (Is : List FI) (f : Nat) (params : Arguments) (body : Expr) (scope : Scope) : Bool := match Is[f]? with
  | some I => I.lam && lamP I.ps params && C8.scC I.N I.ps scope && Nat.beq I.fn.np I.ps.length && Nat.beq I.fn.ns I.N.length && (match I.fn.body with | .cons (.ret e) .nil => ckE (t.ck Is I.N) scope (fun _ => true) e body | _ => false)
  | none => false
def Tx.ckf (t : Tx) (Is : List FI) (I : FI) : Ck := { t.ck Is I.N with lam := I.lk.map fun k => (k, lamC t Is) }
/-- a def's IR against its text -/
def FI.chk (t : Tx) (Is : List FI) (I : FI) : Bool := (I.lam || ckSs (defScope I.st) (fun _ => true) I.fn.body (t.ckf Is I) (defBody I.st)) && Nat.beq I.fn.np I.ps.length && Nat.beq I.fn.ns I.N.length && (I.lam || isFun (defScope I.st).kind) && (!I.lam || (I.gn.isNone && I.mt.isNone))
/-- .. where an exception is handled -/
def FI.chkH (t : Tx) (Is : List FI) (I : FI) : Bool := ckSs (defScope I.st) (fun _ => true) I.fn.body { t.ck Is I.N with hot := true, gd := false } (defBody I.st)
def chkHs (t : Tx) (Is : List FI) : Bool := t.hf.all fun f => match Is[f]? with | some I => I.chkH t Is | none => false
end RA

/-! Soundness: statements. -/
namespace RA
open PySem L2

section
variable {T : Tb} {Cl : Nat → Value} {W : WX}
def endsP (T : Tb) (D : Ends) (f : Fl) (σ : L2.St) (w : Wd) : Prop :=
  match f with
  | .nx => D.nx σ w.H
  | .bk => D.bk σ w.H
  | .ct => D.ct σ w.H
  | .rt p => ∀ v, RepV T w p v → D.rt v w.H
/-- what a statement's result wishes for -/
def Pss {α : Type} (T : Tb) (Cl : Nat → Value) (W : WX) (w : Wd) (r : Res α) (P : α → List Sl → List PV → L2.St → Wd → Prop) : Prop :=
  match r with
  | .stk => False
  | .ok f sl mu => ∀ σ w', Ext w w' → FRel T w' σ sl mu → P f sl mu σ w'
  | .exc e sl mu => ∀ cls d σ w', Ext w w' → FRel T w' σ sl mu → RepX T Cl w' e cls d → W cls d σ w'.H
abbrev Psf (T : Tb) (Cl : Nat → Value) (W : WX) (w : Wd) (r : Res Fl) (D : Ends) : Prop := Pss T Cl W w r fun f _ _ σ w' => endsP T D f σ w'
theorem Pss.bndE {α β : Type} {w : Wd} {r : Res α} {f : α → List Sl → List PV → Res β} {P : β → List Sl → List PV → L2.St → Wd → Prop} (ok : WOk w) (h : Pss T Cl W w (r.bnd f) P) (σ : L2.St) : Pst T Cl W σ w r fun a sl mu w1 => Pss T Cl W w1 (f a sl mu) P := by
  cases r with
  | stk => exact h
  | ok a sl mu =>
    intro w1 e1 F1
    have h' : Pss T Cl W w (f a sl mu) P := h
    generalize f a sl mu = q at h' ⊢
    cases q with
    | stk => exact h'
    | ok b sl' mu' => exact fun σ2 w2 e2 F2 => h' σ2 w2 (e1.trans ok e2) F2
    | exc x sl' mu' => exact fun cls d σ2 w2 e2 F2 rx => h' cls d σ2 w2 (e1.trans ok e2) F2 rx
  | exc x sl mu => exact fun cls d w' e F rx => h cls d σ w' e F rx
theorem Pss.bnd {α β : Type} {w : Wd} {r : Res α} {f : α → List Sl → List PV → Res β} {P : β → List Sl → List PV → L2.St → Wd → Prop} (ok : WOk w) (h : Pss T Cl W w (r.bnd f) P) : Pss T Cl W w r fun a sl mu _ w1 => Pss T Cl W w1 (f a sl mu) P := by
  cases r with
  | stk => exact h
  | ok a sl mu =>
    intro σ w1 e1 F1
    have h' : Pss T Cl W w (f a sl mu) P := h
    generalize f a sl mu = q at h' ⊢
    cases q with
    | stk => exact h'
    | ok b sl' mu' => exact fun σ2 w2 e2 F2 => h' σ2 w2 (e1.trans ok e2) F2
    | exc x sl' mu' => exact fun cls d σ2 w2 e2 F2 rx => h' cls d σ2 w2 (e1.trans ok e2) F2 rx
  | exc x sl mu => exact h
theorem Pss.mono {α : Type} {w : Wd} {r : Res α} {P P' : α → List Sl → List PV → L2.St → Wd → Prop} (h : Pss T Cl W w r P) (f : ∀ a sl mu σ w', Ext w w' → FRel T w' σ sl mu → P a sl mu σ w' → P' a sl mu σ w') : Pss T Cl W w r P' := by
  cases r with
  | stk => exact h
  | ok a sl mu => exact fun σ w' e F => f a sl mu σ w' e F (h σ w' e F)
  | exc x sl mu => exact h
/-- a statement's reading by the interpreter -/
def tS (T : Tb) (Cl : Nat → Value) (W : WX) (m : List Sl → List PV → Res Fl) : TS := fun D σ H => ∃ w sl mu, w.H = H ∧ FRel T w σ sl mu ∧ Psf T Cl W w (m sl mu) D
theorem PS.imp {X : Cx} {st : Stmt} {t t' : TS} (h : PS X st t) (f : ∀ D σ H, t' D σ H → t D σ H) : PS X st t' := ⟨fun pins s σ H D I q => h.run pins s σ H D I (f D σ H q)⟩
theorem PSs.imp {X : Cx} {st : List Stmt} {t t' : TS} (h : PSs X st t) (f : ∀ D σ H, t' D σ H → t D σ H) : PSs X st t' := ⟨fun pins s σ H D I q => h.run pins s σ H D I (f D σ H q)⟩
/-- an expression first -/
theorem tS.bndE {σ : L2.St} {H : Hp} {m : List Sl → List PV → Res PV} {f : PV → List Sl → List PV → Res Fl} {w : Wd} {sl : List Sl} {mu : List PV} {R : V → Hp → Prop} {D : Ends}
    (hH : w.H = H) (F : FRel T w σ sl mu) (P : Psf T Cl W w ((m sl mu).bnd f) D)
    (k : ∀ p v sl1 mu1 w1, Ext w w1 → FRel T w1 σ sl1 mu1 → RepV T w1 p v → Psf T Cl W w1 (f p sl1 mu1) D → R v w1.H) : tE T Cl W m σ H R :=
  ⟨w, sl, mu, hH, F, (P.bndE F.wok σ).mono fun p sl1 mu1 w1 e1 F1 P1 v rv => k p v sl1 mu1 w1 e1 F1 rv P1⟩
theorem tS.bndA {σ : L2.St} {H : Hp} {m : List Sl → List PV → Res (List PV)} {f : List PV → List Sl → List PV → Res Fl} {w : Wd} {sl : List Sl} {mu : List PV} {R : List V → Hp → Prop} {D : Ends}
    (hH : w.H = H) (F : FRel T w σ sl mu) (P : Psf T Cl W w ((m sl mu).bnd f) D)
    (k : ∀ p v sl1 mu1 w1, Ext w w1 → FRel T w1 σ sl1 mu1 → Reps T w1 p v → Psf T Cl W w1 (f p sl1 mu1) D → R v w1.H) : tA T Cl W m σ H R :=
  ⟨w, sl, mu, hH, F, (P.bndE F.wok σ).mono fun p sl1 mu1 w1 e1 F1 P1 v rv => k p v sl1 mu1 w1 e1 F1 rv P1⟩
theorem tS.bndT {σ : L2.St} {H : Hp} {m : List Sl → List PV → Res Bool} {f : Bool → List Sl → List PV → Res Fl} {w : Wd} {sl : List Sl} {mu : List PV} {R : Bool → Hp → Prop} {D : Ends}
    (hH : w.H = H) (F : FRel T w σ sl mu) (P : Psf T Cl W w ((m sl mu).bnd f) D)
    (k : ∀ p sl1 mu1 w1, Ext w w1 → FRel T w1 σ sl1 mu1 → Psf T Cl W w1 (f p sl1 mu1) D → R p w1.H) : tT T Cl W m σ H R :=
  ⟨w, sl, mu, hH, F, (P.bndE F.wok σ).mono fun p sl1 mu1 w1 e1 F1 P1 => k p sl1 mu1 w1 e1 F1 P1⟩
theorem Pss.now {α : Type} {w : Wd} {a : α} {sl : List Sl} {mu : List PV} {P : α → List Sl → List PV → L2.St → Wd → Prop} (h : Pss T Cl W w (.ok a sl mu) P) {σ : L2.St} (F : FRel T w σ sl mu) : P a sl mu σ w := h σ w (Ext.refl w) F
theorem Pss.at {α : Type} {w w' : Wd} {a : α} {sl : List Sl} {mu : List PV} {P : α → List Sl → List PV → L2.St → Wd → Prop} (h : Pss T Cl W w (.ok a sl mu) P) {σ : L2.St} (e : Ext w w') (F : FRel T w' σ sl mu) : P a sl mu σ w' := h σ w' e F
theorem Pss.lift {α : Type} {w : Wd} {o : Option α} {sl : List Sl} {mu : List PV} {β : Type} {f : α → List Sl → List PV → Res β} {P : β → List Sl → List PV → L2.St → Wd → Prop} (h : Pss T Cl W w ((RA.lift o sl mu).bnd f) P) : ∃ a, o = some a ∧ Pss T Cl W w (f a sl mu) P := by
  cases o with
  | none => exact h.elim
  | some a => exact ⟨a, rfl, h⟩
end

/-! ### new containers of one's own, cells -/
section
variable {T : Tb} {w : Wd} {σ : L2.St} {sl : List Sl} {mu : List PV}
def Wd.new (w : Wd) (q : Addr) (xs : List V) : Wd := { w with H := upd w.H q (.lst xs), wr := fun a => w.wr a ∨ a = q, mb := fun a => w.mb a ∨ a = q }
def Wd.newC (w : Wd) (q : Addr) (xs : List V) : Wd := { w with H := upd w.H q (.lst xs), m := w.m ++ [q], wr := fun a => w.wr a ∨ a = q, mb := fun a => w.mb a ∨ a = q }
theorem new_ext {q : Addr} {xs : List V} (hq : w.H q = none) : Ext w (w.new q xs) where
  pre := fun _ _ h => h
  keep := fun a u h _ => by show upd w.H q _ a = _; rw [upd_ne (ne_of_none h hq)]; exact h
  trk := fun a h => by
    show upd w.H q _ a ≠ none
    by_cases e : a = q
    · rw [e, upd_same]; simp
    · rw [upd_ne e]; exact h
  mt := fun a h => h.elim .inl fun e => .inr (e ▸ hq)
  mkp := fun a h _ => .inl h
  ws := fun a h => h.elim .inl fun e => .inr (e ▸ hq)
  xs := rfl
theorem newC_ext {q : Addr} {xs : List V} (hq : w.H q = none) : Ext w (w.newC q xs) where
  pre := fun n a h => by
    show (w.m ++ [q])[n]? = some a
    rw [List.getElem?_append_left (List.getElem?_eq_some_iff.mp h).1]; exact h
  keep := (new_ext (xs := xs) hq).keep
  trk := (new_ext (xs := xs) hq).trk
  mt := (new_ext (xs := xs) hq).mt
  mkp := (new_ext (xs := xs) hq).mkp
  ws := (new_ext (xs := xs) hq).ws
  xs := rfl
theorem new_ok {q : Addr} {xs : List V} (F : FRel T w σ sl mu) (hq : w.H q = none) : WOk (w.new q xs) :=
  ⟨fun a h => h.elim (fun z => .inl (F.wok.sub a z)) .inr, fun a h => h.elim (fun z => (new_ext hq).trk a (F.wok.mtr a z)) fun e => by show upd w.H q _ a ≠ none; rw [e, upd_same]; simp⟩
theorem FRel.newO {q : Addr} {xs : List V} {l : List PV} {i : Nat} (F : FRel T w σ sl mu) (hq : w.H q = none) (r : Reps T w l xs) : FRel T (w.new q xs) (σ.set i (some (.ref q))) (sl.set i (.ow (.lst l))) mu := by
  have e := new_ext (xs := xs) hq
  have hl := F.len
  have k : ∀ a u, w.H a = some u → (w.new q xs).H a = some u := fun a u h => by show upd w.H q _ a = _; rw [upd_ne (ne_of_none h hq)]; exact h
  have nw : ∀ {a : Addr}, w.wr a → a ≠ q := fun h z => F.wok.mtr _ (F.wok.sub _ h) (z ▸ hq)
  have nm : q ∉ w.m := fun z => nw (F.cellOf z) rfl
  refine ⟨new_ok F hq, by simp [hl], fun j p hj => ?_, fun j p hj => ?_, fun j j' p p' a hj hj' s1 s2 => ?_, ⟨F.cel.mlen, fun n c a h1 h2 => ?_, F.cel.inj⟩, fun j c fs hj => ?_⟩
  · by_cases z : i = j
    · subst z
      by_cases y : i < sl.length
      · rw [List.getElem?_set_self y] at hj; cases hj
      · rw [List.getElem?_eq_none (by simp; omega)] at hj; cases hj
    · rw [List.getElem?_set_ne z] at hj
      obtain ⟨v, h1, h2⟩ := F.va j p hj
      exact ⟨v, by rw [List.getElem?_set_ne z]; exact h1, RepV.ext F.wok e p v h2⟩
  · by_cases z : i = j
    · subst z
      by_cases y : i < sl.length
      · rw [List.getElem?_set_self y] at hj
        cases hj
        exact ⟨q, by rw [List.getElem?_set_self (by omega)], ⟨xs, by show upd w.H q _ q = _; rw [upd_same], Reps.ext F.wok e l xs r⟩, .inr rfl, nm⟩
      · rw [List.getElem?_eq_none (by simp; omega)] at hj; cases hj
    · rw [List.getElem?_set_ne z] at hj
      obtain ⟨a, h1, h2, h3, h4⟩ := F.ow j p hj
      exact ⟨a, by rw [List.getElem?_set_ne z]; exact h1, h2.ext_keep F.wok e (k a), .inl h3, h4⟩
  · have old : ∀ {j : Nat} {p : PV} {a : Addr}, i ≠ j → (sl.set i (.ow (.lst l)))[j]? = some (.ow p) → (σ.set i (some (.ref q)))[j]? = some (some (.ref a)) → a ≠ q := fun {j p a} z hj s1 => by
      rw [List.getElem?_set_ne z] at hj s1
      obtain ⟨b, h1, _, h3, _⟩ := F.ow j p hj
      rw [h1] at s1; cases s1
      exact nw h3
    have here : ∀ {a : Addr}, (σ.set i (some (.ref q)))[i]? = some (some (.ref a)) → a = q := fun {a} s1 => by
      by_cases y : i < σ.length
      · rw [List.getElem?_set_self y] at s1; cases s1; rfl
      · rw [List.getElem?_eq_none (by simp; omega)] at s1; cases s1
    by_cases z : i = j
    · by_cases z' : i = j'
      · rw [← z, ← z']
      · subst z
        exact absurd (here s1) (old z' hj' s2)
    · by_cases z' : i = j'
      · subst z'
        exact absurd (here s2) (old z hj s1)
      · rw [List.getElem?_set_ne z] at hj s1
        rw [List.getElem?_set_ne z'] at hj' s2
        exact F.ows j j' p p' a hj hj' s1 s2
  · obtain ⟨h3, h4⟩ := F.cel.cl n c a h1 h2
    exact ⟨h3.ext_keep F.wok e (k a), .inl h4⟩
  · by_cases z : i = j
    · subst z
      by_cases y : i < sl.length
      · rw [List.getElem?_set_self y] at hj; cases hj
      · rw [List.getElem?_eq_none (by simp; omega)] at hj; cases hj
    · rw [List.getElem?_set_ne z] at hj
      rw [List.getElem?_set_ne z]
      exact ex_ext F.wok e (F.ex j c fs hj)
theorem FRel.newC {q : Addr} {xs : List V} {l : List PV} (F : FRel T w σ sl mu) (hq : w.H q = none) (r : Reps T w l xs) : FRel T (w.newC q xs) σ sl (mu ++ [.lst l]) := by
  have e := newC_ext (xs := xs) hq
  have k : ∀ a u, w.H a = some u → (w.newC q xs).H a = some u := fun a u h => by show upd w.H q _ a = _; rw [upd_ne (ne_of_none h hq)]; exact h
  have nw : ∀ {a : Addr}, w.wr a → a ≠ q := fun h z => F.wok.mtr _ (F.wok.sub _ h) (z ▸ hq)
  have nm : q ∉ w.m := fun z => nw (F.cellOf z) rfl
  have hml := F.cel.mlen
  refine ⟨⟨(new_ok (xs := xs) F hq).sub, (new_ok (xs := xs) F hq).mtr⟩, F.len, fun i p h => ?_, fun i p h => ?_, F.ows, ⟨by show (w.m ++ [q]).length = _; simp [hml], fun n c a h1 h2 => ?_, fun n n' a h1 h2 => ?_⟩, fun i c fs h => ex_ext F.wok e (F.ex i c fs h)⟩
  · obtain ⟨v, h1, h2⟩ := F.va i p h
    exact ⟨v, h1, RepV.ext F.wok e p v h2⟩
  · obtain ⟨a, h1, h2, h3, h4⟩ := F.ow i p h
    refine ⟨a, h1, h2.ext_keep F.wok e (k a), .inl h3, fun z => ?_⟩
    have z : a ∈ w.m ++ [q] := z
    rcases List.mem_append.mp z with z | z
    · exact h4 z
    · exact nw h3 (List.mem_singleton.mp z)
  · have h2 : (w.m ++ [q])[n]? = some a := h2
    by_cases hn : n < w.m.length
    · rw [List.getElem?_append_left hn] at h2
      rw [List.getElem?_append_left (by omega)] at h1
      obtain ⟨h3, h4⟩ := F.cel.cl n c a h1 h2
      exact ⟨h3.ext_keep F.wok e (k a), .inl h4⟩
    · rw [List.getElem?_append_right (by omega)] at h1 h2
      have hz : n - w.m.length = 0 := by
        have := (List.getElem?_eq_some_iff.mp h2).1
        simp at this; omega
      rw [hz] at h2
      rw [← hml, hz] at h1
      simp at h1 h2
      subst h1 h2
      exact ⟨⟨xs, by show upd w.H q _ q = _; rw [upd_same], Reps.ext F.wok e l xs r⟩, .inr rfl⟩
  · have h1 : (w.m ++ [q])[n]? = some a := h1
    have h2 : (w.m ++ [q])[n']? = some a := h2
    have cas : ∀ {j : Nat}, (w.m ++ [q])[j]? = some a → (j < w.m.length ∧ w.m[j]? = some a) ∨ (j = w.m.length ∧ a = q) := fun {j} h => by
      by_cases hn : j < w.m.length
      · rw [List.getElem?_append_left hn] at h; exact .inl ⟨hn, h⟩
      · rw [List.getElem?_append_right (by omega)] at h
        have hz : j - w.m.length = 0 := by
          have := (List.getElem?_eq_some_iff.mp h).1
          simp at this; omega
        rw [hz] at h
        simp at h
        exact .inr ⟨by omega, h.symm⟩
    rcases cas h1 with ⟨a1, b1⟩ | ⟨a1, b1⟩ <;> rcases cas h2 with ⟨a2, b2⟩ | ⟨a2, b2⟩
    · exact F.cel.inj n n' a b1 b2
    · subst b2; exact absurd (List.mem_of_getElem? b1) nm
    · subst b1; exact absurd (List.mem_of_getElem? b2) nm
    · omega
/-- an own container, or a cell, is written -/
def Wd.wrt (w : Wd) (q : Addr) (xs : List V) : Wd := { w with H := upd w.H q (.lst xs) }
theorem wrt_ext {q : Addr} {xs : List V} (hq : w.wr q) : Ext w (w.wrt q xs) where
  pre := fun _ _ h => h
  keep := fun a u h k => by show upd w.H q _ a = _; rw [upd_ne (by intro z; subst z; exact k hq)]; exact h
  trk := fun a h => by
    show upd w.H q _ a ≠ none
    by_cases e : a = q
    · rw [e, upd_same]; simp
    · rw [upd_ne e]; exact h
  mt := fun a h => .inl h
  mkp := fun a h _ => h
  ws := fun a h => .inl h
  xs := rfl
theorem FRel.wrtO {q : Addr} {xs : List V} {l l0 : List PV} {i : Nat} (F : FRel T w σ sl mu) (hi : sl[i]? = some (.ow (.lst l0))) (hs : σ[i]? = some (some (.ref q))) (r : Reps T w l xs) : FRel T (w.wrt q xs) σ (sl.set i (.ow (.lst l))) mu := by
  obtain ⟨q', g1, g2, g3, g4⟩ := F.ow i _ hi
  rw [hs] at g1; cases g1
  have e := wrt_ext (xs := xs) g3
  have hil : i < sl.length := (List.getElem?_eq_some_iff.mp hi).1
  have k : ∀ a u, a ≠ q → w.H a = some u → (w.wrt q xs).H a = some u := fun a u n h => by show upd w.H q _ a = _; rw [upd_ne n]; exact h
  refine ⟨⟨F.wok.sub, fun a h => e.trk a (F.wok.mtr a h)⟩, by simp [F.len], fun j p hj => ?_, fun j p hj => ?_, fun j j' p p' a hj hj' s1 s2 => ?_, ⟨F.cel.mlen, fun n c a h1 h2 => ?_, F.cel.inj⟩, fun j c fs hj => ?_⟩
  · by_cases z : i = j
    · subst z
      rw [List.getElem?_set_self hil] at hj; cases hj
    · rw [List.getElem?_set_ne z] at hj
      obtain ⟨v, h1, h2⟩ := F.va j p hj
      exact ⟨v, h1, RepV.ext F.wok e p v h2⟩
  · by_cases z : i = j
    · subst z
      rw [List.getElem?_set_self hil] at hj
      cases hj
      exact ⟨q, hs, ⟨xs, by show upd w.H q _ q = _; rw [upd_same], Reps.ext F.wok e l xs r⟩, g3, g4⟩
    · rw [List.getElem?_set_ne z] at hj
      obtain ⟨a, h1, h2, h3, h4⟩ := F.ow j p hj
      exact ⟨a, h1, h2.ext_keep F.wok e fun o => k a o fun y => z (F.ows i j _ p q hi hj hs (y ▸ h1)), h3, h4⟩
  · have old : ∀ {j : Nat} {p : PV}, (sl.set i (.ow (.lst l)))[j]? = some (.ow p) → ∃ p', sl[j]? = some (.ow p') := fun {j p} hj => by
      by_cases z : i = j
      · subst z; exact ⟨_, hi⟩
      · rw [List.getElem?_set_ne z] at hj; exact ⟨_, hj⟩
    obtain ⟨_, o1⟩ := old hj
    obtain ⟨_, o2⟩ := old hj'
    exact F.ows j j' _ _ a o1 o2 s1 s2
  · obtain ⟨h3, h4⟩ := F.cel.cl n c a h1 h2
    exact ⟨h3.ext_keep F.wok e fun o => k a o fun y => g4 (y ▸ List.mem_of_getElem? h2), h4⟩
  · by_cases z : i = j
    · subst z
      rw [List.getElem?_set_self hil] at hj; cases hj
    · rw [List.getElem?_set_ne z] at hj
      exact ex_ext F.wok e (F.ex j c fs hj)
theorem FRel.wrtC {q : Addr} {xs : List V} {l : List PV} {n : Nat} (F : FRel T w σ sl mu) (hn : w.m[n]? = some q) (r : Reps T w l xs) : FRel T (w.wrt q xs) σ sl (mu.set n (.lst l)) := by
  have hq : w.wr q := F.cellOf (List.mem_of_getElem? hn)
  have e := wrt_ext (xs := xs) hq
  have k : ∀ a u, a ≠ q → w.H a = some u → (w.wrt q xs).H a = some u := fun a u n h => by show upd w.H q _ a = _; rw [upd_ne n]; exact h
  have hnl : n < mu.length := by rw [← F.cel.mlen]; exact (List.getElem?_eq_some_iff.mp hn).1
  refine ⟨⟨F.wok.sub, fun a h => e.trk a (F.wok.mtr a h)⟩, F.len, fun j p hj => ?_, fun j p hj => ?_, F.ows, ⟨by simp; exact F.cel.mlen, fun j c a h1 h2 => ?_, F.cel.inj⟩, fun i c fs h => ex_ext F.wok e (F.ex i c fs h)⟩
  · obtain ⟨v, h1, h2⟩ := F.va j p hj
    exact ⟨v, h1, RepV.ext F.wok e p v h2⟩
  · obtain ⟨a, h1, h2, h3, h4⟩ := F.ow j p hj
    exact ⟨a, h1, h2.ext_keep F.wok e fun o => k a o fun y => h4 (y ▸ List.mem_of_getElem? hn), h3, h4⟩
  · have h2 : w.m[j]? = some a := h2
    by_cases z : n = j
    · subst z
      rw [List.getElem?_set_self hnl] at h1
      cases h1
      rw [hn] at h2; cases h2
      exact ⟨⟨xs, by show upd w.H q _ q = _; rw [upd_same], Reps.ext F.wok e l xs r⟩, hq⟩
    · rw [List.getElem?_set_ne z] at h1
      obtain ⟨h3, h4⟩ := F.cel.cl j c a h1 h2
      exact ⟨h3.ext_keep F.wok e fun o => k a o fun y => z (F.cel.inj n j q hn (y ▸ h2)), h4⟩
end
end RA

/-! Soundness: every statement. -/
namespace RA
open PySem L2

section
variable {S : Gs} {C : Ck} {sc : Scope} {fb : Str → Bool} {X : Cx} {W : WX}
/-- the setting of a suite -/
structure XS (S : Gs) (C : Ck) (sc : Scope) (fb : Str → Bool) (W : WX) (X : Cx) : Prop where
  ok : XOk S C sc fb X
  tk : L2N.Takes X W
  hp : PassesOwn (model X.prog X.w) X.A X.env X.xe
  kd : sc.kind = .function
  stk : C.hot = false → X.stack = X.env :: X.outer
  frm : X.env.frame = some X.env.locals
def SS (S : Gs) (W : WX) (X : Cx) (a : Sm) (st : Stmt) : Prop := PS X st (tS S.T S.C W (xs S.G S.cf a))
def SSs (S : Gs) (W : WX) (X : Cx) (a : Sms) (st : List Stmt) : Prop := PSs X st (tS S.T S.C W (xss S.G S.cf a))

theorem noSw {e : Expr} {t : Option Expr} {l : Nat} {env : Env} (h : noComp e = true) : swapsWith e t l env = pure false := by
  cases e <;> first | rfl | (simp [noComp] at h)
theorem asgOne {t : Expr} {env : Env} (h : notStar t = true) : (assignEach [t] env).map (·.2) = [assign t env] := by
  rw [asg_cons h]; rfl
theorem loc_set (x0 : XOk S C sc fb X) {i : Nat} {x : Str} (hv : loc sc fb x = true) : Loc X.env.scope x ∧ (X.fn x = true ∨ X.env.scope.names.lookup x = some .local) := loc_of x0 hv
theorem isLoc_of (x0 : XOk S C sc fb X) {x : Str} (h : isLoc sc x = true) : X.env.scope.names.lookup x = some .local := by
  unfold isLoc at h
  rw [x0.sc]
  split at h
  · assumption
  · cases h
theorem isLoc_kind (x : XS S C sc fb W X) {y : Str} (h : X.env.scope.names.lookup y = some .local) : X.env.kindOf y = some .local := h
theorem blk_fun (x : XS S C sc fb W X) : X.env.blockKind = .function := by
  unfold Env.blockKind
  rw [x.ok.sc, x.kd]; rfl

theorem filterMap_all {α β : Type} {f : α → Option β} : ∀ {l : List α}, (l.filterMap f).length = l.length → ∀ x ∈ l, (f x).isSome = true
  | [], _, x, hx => by cases hx
  | a :: l, h, x, hx => by
    cases e : f a with
    | none =>
      rw [List.filterMap_cons, e] at h
      have := List.length_filterMap_le f l
      simp only [List.length_cons] at h
      omega
    | some b =>
      rw [List.filterMap_cons, e] at h
      simp only [List.length_cons] at h
      rcases List.mem_cons.mp hx with rfl | hx
      · rw [e]; rfl
      · exact filterMap_all (by omega) x hx
theorem noSt (x : XS S C sc fb W X) {t e : Expr} (h : swN sc t e = true) : swappedStores [t] e X.env = pure none := by
  unfold swN at h
  split at h
  · rename_i ts _ _ vs _ _
    unfold swappedStores
    simp only [blk_fun x]
    simp only [Bool.or_eq_true, Bool.not_eq_true'] at h
    by_cases c1 : (!(ts.length == 2 || ts.length == 3) || vs.length != ts.length || ScopeKind.function != ScopeKind.function) = true
    · rw [if_pos c1]
    rw [if_neg c1]
    split
    · rfl
    split
    · rfl
    rename_i c3
    split
    · rfl
    rename_i c4
    exfalso
    rcases h with ((h | h) | h) | h
    · exact c1 (by rw [h]; rfl)
    · apply c1
      have : (vs.length != ts.length) = true := by rw [bne, h]; rfl
      rw [this]; simp
    · obtain ⟨y, hy, hy2⟩ := List.any_eq_true.mp h
      simp only [Bool.or_eq_true, bne_iff_ne, ne_eq, not_or, Decidable.not_not] at c3
      have hs := filterMap_all c3.1 y hy
      cases y with
      | Name id p =>
        simp only [Bool.not_eq_true'] at hy2
        have hk : X.env.kindOf id ≠ some .local := fun z => by
          have z : X.env.scope.names.lookup id = some .local := z
          rw [x.ok.sc] at z
          unfold isLoc at hy2
          rw [z] at hy2
          cases hy2
        simp [hk] at hs
      | _ => simp at hs
    · exact c4 h
  · cases h
  · rename_i h1 h2
    unfold swappedStores
    cases t <;> first | rfl | skip
    · exact (h1 _ _ rfl).elim
    · cases e <;> first | rfl | skip
      exact (h2 _ _ _ _ _ _ rfl rfl).elim
/-! ### stores -/
theorem noSwC (x0 : XOk S C sc fb X) {v : Expr} {n : Str} {p : Pos} {l : Nat} (h : (noComp v || isCl sc n) = true) : swapsWith v (some (.Name n p)) l X.env = pure false := by
  rw [Bool.or_eq_true] at h
  rcases h with h | h
  · exact noSw h
  · have e : (X.env.kindOf n == some .local) = false := by
      unfold isCl at h
      show (X.env.scope.names.lookup n == some .local) = false
      rw [x0.sc]
      split at h
      · rename_i q
        rw [q]
        rfl
      · cases h
    unfold swapsWith
    split
    · simp only [e, Bool.and_false, Bool.false_and]
      try rfl
    · rfl
theorem ss_asg (x : XS S C sc fb W X) {i : Nat} {e : Ex} {n : Str} {v : Expr} {p pos : Pos} (hi : C.N[i]? = some n) (hl : loc sc fb n = true) (he : SE S W X e v) (hc : (noComp v || isCl sc n) = true) : SS S W X (.asg i e) (.Assign [.Name n p] v pos) := by
  obtain ⟨l1, l2⟩ := loc_of x.ok hl
  refine PS.imp (ps_set x.ok.nd (by rw [x.ok.N]; exact hi) l1 he (noSwC x.ok hc) l2) fun D σ H h => ?_
  obtain ⟨w, sl, mu, hH, F, P⟩ := h
  refine tS.bndE hH F P fun q u sl1 mu1 w1 e1 F1 rv P1 => ?_
  exact P1.now (F1.set i rv)
theorem ss_ast (x : XS S C sc fb W X) {tg : Tg} {e : Ex} {t v : Expr} {pos : Pos} (hs : notStar t = true) (hg : ckG C.N sc fb tg t = true) (he : SE S W X e v) (hc : noComp v = true) (ht : swN sc t v = true) : SS S W X (.ast tg e) (.Assign [t] v pos) := by
  refine PS.imp (ps_asg he (s_tg x.ok tg t hg) (noSw hc) (noSt x ht) (asgOne hs)) fun D σ H h => ?_
  obtain ⟨w, sl, mu, hH, F, P⟩ := h
  refine tS.bndE hH F P fun q u sl1 mu1 w1 e1 F1 rv P1 => ?_
  obtain ⟨s', ha, P2⟩ := P1.lift
  exact ⟨w1, sl1, mu1, q, s', rfl, F1, rv, ha, fun σ' F' _ => P2.now F'⟩
theorem ss_cell (x : XS S C sc fb W X) {i : Nat} {es : Exs} {n : Str} {vs : List Expr} {p p2 pos : Pos} (hi : C.N[i]? = some n) (hl : loc sc fb n = true) (ha : SA S W X es vs) (hk : ckEs C sc fb es vs = true) (hz : vs.length ≤ 1000) : SS S W X (.cell i es) (.Assign [.Name n p] (.List vs p2) pos) := by
  obtain ⟨l1, l2⟩ := loc_of x.ok hl
  refine PS.imp (ps_set x.ok.nd (by rw [x.ok.N]; exact hi) l1 (pe_lst ha) rfl l2) fun D σ H h => ?_
  obtain ⟨w, sl, mu, hH, F, P⟩ := h
  have P : Psf S.T S.C W w ((evs S.G S.cf es sl mu).bnd fun l s m => .ok .nx (setS s i (.ref m.length)) (m ++ [.lst l])) D := P
  refine ⟨w, sl, mu, hH, F, (P.bndE F.wok σ).mono_ok fun l s m w1 e e1 F1 P1 us ru => ?_⟩
  have hlen := evs_len es sl mu hk e
  refine ⟨by rw [← ru.len, hlen, sizeLine_eq]; omega, fun q hq => ?_⟩
  refine P1.at (newC_ext hq) ((F1.newC hq ru).set i ?_)
  simp only [RepV]
  exact ⟨q, rfl, by show (w1.m ++ [q])[m.length]? = _; rw [← F1.cel.mlen]; simp⟩
theorem ss_own (x : XS S C sc fb W X) {i : Nat} {es : Exs} {n : Str} {vs : List Expr} {p p2 pos : Pos} (hi : C.N[i]? = some n) (hl : loc sc fb n = true) (ha : SA S W X es vs) (hk : ckEs C sc fb es vs = true) (hz : vs.length ≤ 1000) : SS S W X (.own i es) (.Assign [.Name n p] (.List vs p2) pos) := by
  obtain ⟨l1, l2⟩ := loc_of x.ok hl
  refine PS.imp (ps_set x.ok.nd (by rw [x.ok.N]; exact hi) l1 (pe_lst ha) rfl l2) fun D σ H h => ?_
  obtain ⟨w, sl, mu, hH, F, P⟩ := h
  have P : Psf S.T S.C W w ((evs S.G S.cf es sl mu).bnd fun l s m => .ok .nx (s.set i (.ow (.lst l))) m) D := P
  refine ⟨w, sl, mu, hH, F, (P.bndE F.wok σ).mono_ok fun l s m w1 e e1 F1 P1 us ru => ?_⟩
  have hlen := evs_len es sl mu hk e
  exact ⟨by rw [← ru.len, hlen, sizeLine_eq]; omega, fun q hq => P1.at (new_ext hq) (F1.newO hq ru)⟩
theorem par_sw (x : XS S C sc fb W X) {n n' : Str} {p p' pt pt2 : Pos} {kt k2} {u v : Expr} (h1 : isLoc sc n = true) (h2 : isLoc sc n' = true) (hl : (p.line == p'.line) = true) (hn : (n == n') = false) (s1 : notStar u = true) (s2 : notStar v = true) (f : ([u, v].all (foldedForSure 8)) = false) (c : ([u, v].all (constantsAlone 8)) = false) :
    swappedStores [.Tuple [.Name n p, .Name n' p'] kt pt] (.Tuple [u, v] k2 pt2) X.env = pure (some [n, n']) := by
  have k1 : X.env.kindOf n = some .local := isLoc_of x.ok h1
  have k2' : X.env.kindOf n' = some .local := isLoc_of x.ok h2
  have hs : ([u, v].any fun | .Starred .. => true | _ => false) = false := by
    cases u <;> first | (simp [notStar] at s1; done) | skip
    all_goals (cases v <;> first | (simp [notStar] at s2; done) | rfl)
  have hl' : p'.line = p.line := (eq_of_beq hl).symm
  have hne : n ≠ n' := fun e => by rw [e] at hn; simp at hn
  have hnm : ([Expr.Name n p, Expr.Name n' p'].filterMap fun t => match t with | .Name id pos => if X.env.kindOf id == some .local && pos.line == p.line then some id else none | _ => none) = [n, n'] := by
    simp [k1, k2', hl']
  have hed : ([n, n'] : List Str).eraseDups = [n, n'] := by simp [List.eraseDups_cons, hn, hne, Ne.symm hne]
  unfold swappedStores
  simp only [blk_fun x]
  show (do
    if !((2 : Nat) == 2 || (2 : Nat) == 3) || (2 : Nat) != 2 || ScopeKind.function != .function then return none
    if [u, v].any fun | .Starred .. => true | _ => false then return none
    let names := [Expr.Name n p, Expr.Name n' p'].filterMap fun t => match t with | .Name id pos => if X.env.kindOf id == some .local && pos.line == p.line then some id else none | _ => none
    if names.length != 2 || names.eraseDups.length != names.length then return none
    if [u, v].all (foldedForSure 8) then return none
    if [u, v].all (constantsAlone 8) then unsupported "assign.tuple-of-constant-expressions:order-of-the-stores"
    return some names : Sem (Option (List Str))) = _
  rw [hnm, hs, f, c]
  simp only [hed]
  rfl
theorem ss_par (x : XS S C sc fb W X) (hc : C.hot = false) {i j : Nat} {a b : Ex} {n n' : Str} {p p' pt pt2 pos : Pos} {kt k2} {u v : Expr} (hi : C.N[i]? = some n) (hj : C.N[j]? = some n') (h1 : isLoc sc n = true) (h2 : isLoc sc n' = true) (hl : (p.line == p'.line) = true) (hn : (n == n') = false) (s1 : notStar u = true) (s2 : notStar v = true) (f : ([u, v].all (foldedForSure 8)) = false) (c : ([u, v].all (constantsAlone 8)) = false)
    (ha : SE S W X a u) (hb : SE S W X b v) : SS S W X (.par i j a b) (.Assign [.Tuple [.Name n p, .Name n' p'] kt pt] (.Tuple [u, v] k2 pt2) pos) := by
  have hne : n ≠ n' := fun e => by rw [e] at hn; simp at hn
  have hij : i ≠ j := fun e => by rw [e, hj] at hi; cases hi; exact hne rfl
  refine PS.imp (ps_par (x.ok.calm hc) x.ok.nd (by rw [x.ok.N]; exact hi) (by rw [x.ok.N]; exact hj) hij (isLoc_of x.ok h1) (isLoc_of x.ok h2) (pa_cons ha (pa_cons hb pa_nil (star_cons s2)) (star_cons s1)) (par_sw x h1 h2 hl hn s1 s2 f c) rfl) fun D σ H h => ?_
  obtain ⟨w, sl, mu, hH, F, P⟩ := h
  simp only [tPar, tCons]
  refine tS.bndE hH F P fun q y sl1 mu1 w1 e1 F1 rv P1 => ?_
  refine tS.bndE rfl F1 P1 fun q2 y2 sl2 mu2 w2 e2 F2 rv2 P2 => ?_
  exact ⟨y, y2, rfl, P2.now ((F2.set i (RepV.ext F1.wok e2 _ _ rv)).set j rv2)⟩
theorem ss_pow (x : XS S C sc fb W X) (hc : C.hot = false) {i j : Nat} {k : Int} {n n' : Str} {p p' pt pt2 pos lp pz : Pos} {kt k2 kz} (hi : C.N[i]? = some n) (hj : C.N[j]? = some n') (h1 : isLoc sc n = true) (h2 : isLoc sc n' = true) (hl : (p.line == p'.line) = true) (hn : (n == n') = false)
    (f : ([.List [] lp, .Constant (.int k) kz pz].all (foldedForSure 8)) = false) (c : ([.List [] lp, .Constant (.int k) kz pz].all (constantsAlone 8)) = false) : SS S W X (.pow i j k) (.Assign [.Tuple [.Name n p, .Name n' p'] kt pt] (.Tuple [.List [] lp, .Constant (.int k) kz pz] k2 pt2) pos) := by
  have hne : n ≠ n' := fun e => by rw [e] at hn; simp at hn
  have hij : i ≠ j := fun e => by rw [e, hj] at hi; cases hi; exact hne rfl
  refine PS.imp (ps_par (x.ok.calm hc) x.ok.nd (by rw [x.ok.N]; exact hi) (by rw [x.ok.N]; exact hj) hij (isLoc_of x.ok h1) (isLoc_of x.ok h2) (pa_cons (pe_lst pa_nil) (pa_cons pe_int pa_nil rfl) rfl) (par_sw x h1 h2 hl hn rfl rfl f c) rfl) fun D σ H h => ?_
  obtain ⟨w, sl, mu, rfl, F, P⟩ := h
  have P : Psf S.T S.C W w (.ok .nx (setS (sl.set i (.ow (.lst []))) j (.int k)) mu) D := P
  refine ⟨Nat.zero_le _, fun q hq => ⟨.ref q, .int k, rfl, ?_⟩⟩
  have F1 : FRel S.T (w.new q []) (σ.set i (some (.ref q))) (sl.set i (.ow (.lst []))) mu := F.newO hq (by simp only [Reps])
  exact P.at (new_ext hq) (F1.set j (p := .int k) (by simp only [RepV]))
theorem ip_aug (hK : S.T.K = X.K) (o : O2) : PIp X (opE o) (rP2 S.T (augP o)) := by
  intro pins s σ H x y v u Q I rx ry h
  obtain ⟨w, σ', sl, mu, p, q, z, rfl, F, rp, rq, e, h⟩ := h
  unfold augP at e
  split at e
  · cases e
    simp only [RepV] at rp rq
    subst rp rq
    exact ip_add pins s σ w.H _ _ v u Q I rx ry ⟨_, _, rfl, rfl, P2.here F h (by simp only [RepV])⟩
  · cases e
    simp only [RepV] at rp rq
    subst rp rq
    exact ip_sub pins s σ w.H _ _ v u Q I rx ry ⟨_, _, rfl, rfl, P2.here F h (by simp only [RepV])⟩
  · split at e
    · rename_i hs
      cases e
      simp only [RepV] at rp rq
      subst rp rq
      obtain ⟨t, rfl⟩ := rx
      obtain ⟨t', rfl⟩ := ry
      rw [Bool.or_eq_true, small_iff, small_iff] at hs
      exact PySem.AutoIntOps.imul_0 ⟨.int _, w.H, I.tok _, ⟨_, rfl⟩, P2.here F h (by simp only [RepV])⟩ (CMul.ok hs)
    · cases e
  · split at e
    · rename_i hs
      cases e
      simp only [RepV] at rp rq
      obtain ⟨rfl, z1⟩ := rp
      obtain ⟨rfl, z2⟩ := rq
      obtain ⟨t, rfl⟩ := rx
      obtain ⟨t', rfl⟩ := ry
      refine PySem.SB.iadd (fun t2 k => ?_) (by rw [str_len, str_len, sizeLine_eq]; exact hs)
      refine ⟨.str (⟨_⟩ ++ ⟨_⟩), w.H, I.tok _, ⟨_, rfl⟩, ?_⟩
      rw [str_append]
      exact P2.here F h (by simp only [RepV]; exact ⟨trivial, by rw [List.length_append]; exact hs⟩)
    · cases e
  · cases e
theorem par3_sw (x : XS S C sc fb W X) {n n' m : Str} {p p' p3 pt pt2 : Pos} {kt k2} {u v y : Expr} (h1 : isLoc sc n = true) (h2 : isLoc sc n' = true) (h3 : isLoc sc m = true) (hl : (p.line == p'.line) = true) (hl3 : (p.line == p3.line) = true) (hn : (n == n') = false) (hn2 : (n == m) = false) (hn3 : (n' == m) = false)
    (s1 : notStar u = true) (s2 : notStar v = true) (s3 : notStar y = true) (f : ([u, v, y].all (foldedForSure 8)) = false) (c : ([u, v, y].all (constantsAlone 8)) = false) :
    swappedStores [.Tuple [.Name n p, .Name n' p', .Name m p3] kt pt] (.Tuple [u, v, y] k2 pt2) X.env = pure (some [n, n', m]) := by
  have k1 : X.env.kindOf n = some .local := isLoc_of x.ok h1
  have k2' : X.env.kindOf n' = some .local := isLoc_of x.ok h2
  have k3 : X.env.kindOf m = some .local := isLoc_of x.ok h3
  have hs0 : ∀ q : Expr → Bool, (∀ e, notStar e = true → q e = false) → [u, v, y].any q = false := fun q hq => by simp [hq u s1, hq v s2, hq y s3]
  have hs := hs0 (fun | .Starred .. => true | _ => false) fun e h => by cases e <;> first | rfl | (simp [notStar] at h)
  have hl' : p'.line = p.line := (eq_of_beq hl).symm
  have hl3' : p3.line = p.line := (eq_of_beq hl3).symm
  have hne : n ≠ n' := fun e => by rw [e] at hn; simp at hn
  have hne2 : n ≠ m := fun e => by rw [e] at hn2; simp at hn2
  have hne3 : n' ≠ m := fun e => by rw [e] at hn3; simp at hn3
  have hnm : ([Expr.Name n p, Expr.Name n' p', Expr.Name m p3].filterMap fun t => match t with | .Name id pos => if X.env.kindOf id == some .local && pos.line == p.line then some id else none | _ => none) = [n, n', m] := by
    simp [k1, k2', k3, hl', hl3']
  have hed : ([n, n', m] : List Str).eraseDups = [n, n', m] := by simp [List.eraseDups_cons, hne, hne2, hne3, Ne.symm hne, Ne.symm hne2, Ne.symm hne3]
  unfold swappedStores
  simp only [blk_fun x]
  show (do
    if !((3 : Nat) == 2 || (3 : Nat) == 3) || (3 : Nat) != 3 || ScopeKind.function != .function then return none
    if [u, v, y].any fun | .Starred .. => true | _ => false then return none
    let names := [Expr.Name n p, Expr.Name n' p', Expr.Name m p3].filterMap fun t => match t with | .Name id pos => if X.env.kindOf id == some .local && pos.line == p.line then some id else none | _ => none
    if names.length != 3 || names.eraseDups.length != names.length then return none
    if [u, v, y].all (foldedForSure 8) then return none
    if [u, v, y].all (constantsAlone 8) then unsupported "assign.tuple-of-constant-expressions:order-of-the-stores"
    return some names : Sem (Option (List Str))) = _
  rw [hnm, hs, f, c]
  simp only [hed]
  rfl
theorem ss_par3 (x : XS S C sc fb W X) (hc : C.hot = false) {i j k : Nat} {a b d : Ex} {n n' m : Str} {p p' p3 pt pt2 pos : Pos} {kt k2} {u v y : Expr} (hi : C.N[i]? = some n) (hj : C.N[j]? = some n') (hk : C.N[k]? = some m) (h1 : isLoc sc n = true) (h2 : isLoc sc n' = true) (h3 : isLoc sc m = true) (hl : (p.line == p'.line) = true) (hl3 : (p.line == p3.line) = true) (hn : (n == n') = false) (hn2 : (n == m) = false) (hn3 : (n' == m) = false)
    (s1 : notStar u = true) (s2 : notStar v = true) (s3 : notStar y = true) (f : ([u, v, y].all (foldedForSure 8)) = false) (c : ([u, v, y].all (constantsAlone 8)) = false)
    (ha : SE S W X a u) (hb : SE S W X b v) (hd : SE S W X d y) : SS S W X (.par3 i j k a b d) (.Assign [.Tuple [.Name n p, .Name n' p', .Name m p3] kt pt] (.Tuple [u, v, y] k2 pt2) pos) := by
  have hne : n ≠ n' := fun e => by rw [e] at hn; simp at hn
  have hne2 : n ≠ m := fun e => by rw [e] at hn2; simp at hn2
  have hne3 : n' ≠ m := fun e => by rw [e] at hn3; simp at hn3
  have hij : i ≠ j := fun e => by rw [e, hj] at hi; cases hi; exact hne rfl
  have hik : i ≠ k := fun e => by rw [e, hk] at hi; cases hi; exact hne2 rfl
  have hjk : j ≠ k := fun e => by rw [e, hk] at hj; cases hj; exact hne3 rfl
  refine PS.imp (ps_par3 (x.ok.calm hc) x.ok.nd (by rw [x.ok.N]; exact hi) (by rw [x.ok.N]; exact hj) (by rw [x.ok.N]; exact hk) hij hik hjk (isLoc_of x.ok h1) (isLoc_of x.ok h2) (isLoc_of x.ok h3) (pa_cons ha (pa_cons hb (pa_cons hd pa_nil (star_cons s3)) (star_cons s2)) (star_cons s1)) (par3_sw x h1 h2 h3 hl hl3 hn hn2 hn3 s1 s2 s3 f c) rfl) fun D σ H h => ?_
  obtain ⟨w, sl, mu, hH, F, P⟩ := h
  simp only [tPar3, tCons]
  refine tS.bndE hH F P fun q y sl1 mu1 w1 e1 F1 rv P1 => ?_
  refine tS.bndE rfl F1 P1 fun q2 y2 sl2 mu2 w2 e2 F2 rv2 P2 => ?_
  refine tS.bndE rfl F2 P2 fun q3 y3 sl3 mu3 w3 e3 F3 rv3 P3 => ?_
  exact ⟨y, y2, y3, rfl, P3.now (((F3.set i (RepV.ext F1.wok (e2.trans F1.wok e3) _ _ rv)).set j (RepV.ext F2.wok e3 _ _ rv2)).set k rv3)⟩
theorem ss_aug (x : XS S C sc fb W X) {i : Nat} {o : O2} {e : Ex} {n : Str} {v : Expr} {p pos : Pos} (hi : C.N[i]? = some n) (hl : loc sc fb n = true) (he : SE S W X e v) : SS S W X (.aug i o e) (.AugAssign (.Name n p) (opE o) v pos) := by
  obtain ⟨l1, l2⟩ := loc_of x.ok hl
  refine PS.imp (ps_aug x.ok.nd (by rw [x.ok.N]; exact hi) l1 he (ip_aug x.ok.hK o) l2) fun D σ H h => ?_
  obtain ⟨w, sl, mu, rfl, F, P⟩ := h
  have P : Psf S.T S.C W w ((getS sl i mu).bnd fun x s m => (ev S.G S.cf e s m).bnd fun y s m => (lift (augP o x y) s m).bnd fun z s m => .ok .nx (setS s i z) m) D := P
  obtain ⟨q, u, sl', w', k1, ex, eH, F', rv, P'⟩ := getS_ok F (P.bndE F.wok σ)
  refine ⟨u, k1, ?_⟩
  rw [← eH]
  refine tS.bndE rfl F' P' fun q2 y2 sl2 mu2 w2 e2 F2 rv2 P2 => ?_
  obtain ⟨z, hz, P3⟩ := P2.lift
  exact ⟨w2, σ, sl2, mu2, q, q2, z, rfl, F2, RepV.ext F'.wok e2 _ _ rv, rv2, hz, fun w3 e3 F3 v3 r3 => P3.at e3 (F3.set i r3)⟩
theorem ixN_pIx {n : Nat} {i : Int} {j : Nat} (h : pIx n i = some j) : ixN n i = some j := by
  unfold pIx at h
  unfold ixN
  split at h
  · split at h
    · rename_i h1 h2
      cases h
      rw [if_pos h1, if_pos (by omega)]
    · cases h
  · split at h
    · rename_i h1 h2
      cases h
      rw [if_neg h1, if_pos (by omega)]
    · cases h
theorem ss_stc (x : XS S C sc fb W X) {a k v : Ex} {o i e : Expr} {p pos : Pos} (ha : SE S W X a o) (hk : SE S W X k i) (hs : notSlice i = true) (hv : SE S W X v e) (hc : noComp e = true) : SS S W X (.stc a k v) (.Assign [.Subscript o i p] e pos) := by
  have hsub : ∀ v, assign (.Subscript o i p) X.env v = (do
      let ov ← holding [v] (eval o X.env)
      let iv ← holding [v, ov] (eval i X.env)
      standAt p
      holding [v, ov, iv] (setItem ov iv v)
      release [v, ov, iv] []) := fun v => by cases i <;> first | rfl | (simp [notSlice] at hs)
  have hst : swappedStores [.Subscript o i p] e X.env = pure none := by cases e <;> rfl
  refine PS.imp (ps_asg hv (pg_sub ha hk set_list hsub) (by unfold swapsWithSole; exact noSw hc) hst rfl) fun D σ H h => ?_
  obtain ⟨w, sl, mu, hH, F, P⟩ := h
  refine tS.bndE hH F P fun q y sl1 mu1 w1 e1 F1 rv P1 => ?_
  refine tS.bndE rfl F1 P1 fun q2 y2 sl2 mu2 w2 e2 F2 rv2 P2 => ?_
  refine tS.bndE rfl F2 P2 fun q3 y3 sl3 mu3 w3 e3 F3 rv3 P3 => ?_
  cases q2 with
  | ref n =>
    cases q3 with
    | int j =>
      have r2 := RepV.ext F2.wok e3 _ _ rv2
      simp only [RepV] at r2 rv3
      obtain ⟨ad, rfl, hm⟩ := r2
      subst rv3
      have P3 : Psf S.T S.C W w3 (match mu3[n]? with
        | some (.lst l) => (match pIx l.length j with
          | some j => .ok .nx sl3 (mu3.set n (.lst (l.set j q)))
          | none => .stk)
        | _ => .stk) D := P3
      split at P3
      · rename_i l hl
        split at P3
        · rename_i jj hj
          obtain ⟨⟨xs, k1, k2⟩, hw⟩ := F3.cel.cl n _ ad hl hm
          have hix := ixN_pIx hj
          rw [k2.len] at hix
          exact ⟨ad, xs, j, jj, rfl, rfl, k1, hix, P3.at (wrt_ext hw) (F3.wrtC hm (Reps.set (RepV.ext F1.wok (e2.trans F1.wok e3) _ _ rv) jj k2))⟩
        · exact P3.elim
      · exact P3.elim
    | _ => exact P3.elim
  | _ => exact P3.elim
theorem ss_app (x : XS S C sc fb W X) {i : Nat} {e : Ex} {n : Str} {v : Expr} {p ap cp pos : Pos} (hi : C.N[i]? = some n) (hv : vis sc n = true) (ho : okNm n = true) (he : SE S W X e v) (hs : notStar v = true) (hline : (ap.endLine == cp.line) = true) :
    SS S W X (.app i e) (.Expr (.Call (.Attribute (.Name n p) "append" ap) [v] [] cp) pos) := by
  obtain ⟨h1, h2, _⟩ := okNm_of ho
  have hst : ∀ {y : Expr}, y ∈ [v] → notStar y = true := fun {y} hy => by rw [List.mem_singleton.mp hy]; exact hs
  refine PS.imp (ps_expr (pe_bm PySem.F.plainAttrs_list PySem.F.slot_list_append PySem.F.type_list_append (r := rAppend) mt_append (pe_var (by rw [x.ok.N]; exact hi) (vis_of x.ok hv) h1 h2) (pa_cons he pa_nil (star_cons hs)) rfl (by rw [back_all fun y hy => hst hy]; rfl) hline (star_cons hs) rfl) rfl) fun D σ H h => ?_
  obtain ⟨w, sl, mu, rfl, F, P⟩ := h
  have P : Psf S.T S.C W w (match sl[i]? with
    | some (.ow (.lst _)) => (ev S.G S.cf e sl mu).bnd fun x s m => (match s[i]? with
      | some (.ow (.lst l)) => if Nat.blt l.length SZ then .ok .nx (s.set i (.ow (.lst (l ++ [x])))) m else .stk
      | _ => .stk)
    | _ => .stk) D := P
  split at P
  · rename_i l0 h0
    obtain ⟨a, g1, ⟨xs, g2, g3⟩, g4, g5⟩ := F.ow i _ h0
    refine ⟨.ref a, g1, .inl ⟨rfl, xs, SqL.of g2⟩, ?_⟩
    refine tS.bndE rfl F P fun q y sl1 mu1 w1 e1 F1 rv P1 => ?_
    split at P1
    · rename_i l hl
      split at P1
      · rename_i hz
        obtain ⟨a', k1, ⟨ys, k2, k3⟩, k4, k5⟩ := F1.ow i _ hl
        rw [g1] at k1; cases k1
        refine ⟨a, ys, y, rfl, rfl, k2, ?_, P1.at (wrt_ext k4) (F1.wrtO hl g1 (k3.append (by simp only [Reps]; exact ⟨y, [], rfl, rv, rfl⟩)))⟩
        rw [← k3.len, sizeLine_eq]
        exact Nat.blt_eq.mp hz
      · exact P1.elim
    · exact P1.elim
  · exact P.elim
theorem ss_exd (x : XS S C sc fb W X) {i : Nat} {e : Ex} {n : Str} {v : Expr} {p ap cp pos : Pos} (hi : C.N[i]? = some n) (hv : vis sc n = true) (ho : okNm n = true) (he : SE S W X e v) (hs : notStar v = true) (hline : (ap.endLine == cp.line) = true) :
    SS S W X (.exd i e) (.Expr (.Call (.Attribute (.Name n p) "extend" ap) [v] [] cp) pos) := by
  obtain ⟨h1, h2, _⟩ := okNm_of ho
  have hst : ∀ {y : Expr}, y ∈ [v] → notStar y = true := fun {y} hy => by rw [List.mem_singleton.mp hy]; exact hs
  refine PS.imp (ps_expr (pe_bm PySem.F.plainAttrs_list PySem.F.slot_list_extend PySem.F.type_list_extend (r := rExtend) mt_extend (pe_var (by rw [x.ok.N]; exact hi) (vis_of x.ok hv) h1 h2) (pa_cons he pa_nil (star_cons hs)) rfl (by rw [back_all fun y hy => hst hy]; rfl) hline (star_cons hs) rfl) rfl) fun D σ H h => ?_
  obtain ⟨w, sl, mu, rfl, F, P⟩ := h
  have P : Psf S.T S.C W w (match sl[i]? with
    | some (.ow (.lst _)) => (ev S.G S.cf e sl mu).bnd fun x s m => (match s[i]? with
      | some (.ow (.lst l)) => (match x with
        | .lst y => if l.length + y.length ≤ SZ then .ok .nx (s.set i (.ow (.lst (l ++ y)))) m else .stk
        | _ => .stk)
      | _ => .stk)
    | _ => .stk) D := P
  split at P
  · rename_i l0 h0
    obtain ⟨a, g1, ⟨xs, g2, g3⟩, g4, g5⟩ := F.ow i _ h0
    refine ⟨.ref a, g1, .inl ⟨rfl, xs, SqL.of g2⟩, ?_⟩
    refine tS.bndE rfl F P fun q y sl1 mu1 w1 e1 F1 rv P1 => ?_
    split at P1
    · rename_i l hl
      split at P1
      · rename_i z
        split at P1
        · rename_i hz
          obtain ⟨a', k1, ⟨ys, k2, k3⟩, k4, k5⟩ := F1.ow i _ hl
          rw [g1] at k1; cases k1
          simp only [RepV] at rv
          obtain ⟨b, zs, rfl, r2, r3, r4⟩ := rv
          refine ⟨a, b, ys, zs, rfl, rfl, k2, r2, ?_, P1.at (wrt_ext k4) (F1.wrtO hl g1 (k3.append r4))⟩
          rw [← k3.len, ← r4.len, sizeLine_eq]
          exact hz
        · exact P1.elim
      · exact P1.elim
    · exact P1.elim
  · exact P.elim
end
end RA

set_option maxHeartbeats 1000000
/-! Own objects: fields are stored. -/
namespace RA
open PySem PySem.Spec PyProof.Rows L2
section
variable {S : Gs} {C : Ck} {sc : Scope} {fb : Str → Bool} {X : Cx} {W : WX}
theorem ss_sat (x : XS S C sc fb W X) {c k : Nat} {ns : List Str} {n : Str} {a v : Ex} {o e : Expr} {p pos : Pos} (hns : C.atn[c]? = some ns) (hn : ns[k]? = some n) (ha : SE S W X a o) (hv : SE S W X v e) (hc : noComp e = true) : SS S W X (.sat c k a v) (.Assign [.Attribute o n p] e pos) := by
  obtain ⟨a1, a2, a3, a4, a5⟩ := x.ok.atr c ns hns
  refine PS.imp (ps_fld ha hv (noSw hc)) fun D σ H h => ?_
  obtain ⟨w, sl, mu, hH, F, P⟩ := h
  refine tS.bndE hH F P fun q y sl1 mu1 w1 e1 F1 rv P1 => ?_
  refine tS.bndE rfl F1 P1 fun q2 y2 sl2 mu2 w2 e2 F2 rv2 P2 => ?_
  have rv' := RepV.ext F1.wok e2 _ _ rv
  cases q2 with
  | ref m =>
    simp only [RepV] at rv2
    obtain ⟨ad, rfl, hm⟩ := rv2
    have P3 : Psf S.T S.C W w2 (match mu2[m]? with
      | some (.obj c' fs) => if c' == c then (if k < fs.length then .ok .nx sl2 (mu2.set m (.obj c (fs.set k q))) else if k = fs.length then .ok .nx sl2 (mu2.set m (.obj c (fs ++ [q]))) else .stk) else .stk
      | _ => .stk) D := P2
    clear P2
    cases hk : mu2[m]? with
    | none => rw [hk] at P3; exact P3.elim
    | some d =>
      rw [hk] at P3
      cases d with
      | obj c' fs =>
        have P4 : Psf S.T S.C W w2 (if (c' == c) = true then (if k < fs.length then .ok .nx sl2 (mu2.set m (.obj c (fs.set k q))) else if k = fs.length then .ok .nx sl2 (mu2.set m (.obj c (fs ++ [q]))) else .stk) else .stk) D := P3
        clear P3
        by_cases hcc : (c' == c) = true
        case neg => rw [if_neg hcc] at P4; exact P4.elim
        rw [if_pos hcc] at P4
        obtain rfl := eq_of_beq hcc
        obtain ⟨⟨dx, vs, g1, g2, g3⟩, hw⟩ := F2.cel.cl m _ ad hk hm
        have hl := g3.len
        refine ⟨ad, _, dx, _, rfl, g1, a4, a5 n (List.mem_of_getElem? hn), ?_, ?_⟩
        · rw [a1]
          exact Nat.lt_of_le_of_lt (zip_small _ _) (by omega)
        · by_cases h1 : k < fs.length
          · rw [if_pos h1] at P4
            have hkv : k < vs.length := by omega
            rw [a1, putF_zip a2 hn hkv]
            refine P4.at (w' := w2.wrX ad (.ins (S.T.cla c') dx (ns.zip (vs.set k y)))) (wrX_ext hw) (F2.wrX hm ⟨dx, vs.set k y, ?_, by simpa using g2, Reps.ext F2.wok (wrX_ext hw) _ _ (Reps.set rv' k g3)⟩)
            show upd _ ad _ ad = _
            rw [upd_same, a1]
          · rw [if_neg h1] at P4
            by_cases h2 : k = fs.length
            case neg => rw [if_neg h2] at P4; exact P4.elim
            rw [if_pos h2] at P4
            have hkv : ns[vs.length]? = some n := by rw [← hl, ← h2]; exact hn
            have hkl : vs.length < ns.length := (List.getElem?_eq_some_iff.mp hkv).1
            rw [a1, putF_end a2 hkv]
            refine P4.at (w' := w2.wrX ad (.ins (S.T.cla c') dx (ns.zip (vs ++ [y])))) (wrX_ext hw) (F2.wrX hm ⟨dx, vs ++ [y], ?_, ?_, Reps.ext F2.wok (wrX_ext hw) _ _ (g3.append (by simp only [Reps]; exact ⟨y, [], rfl, rv', rfl⟩))⟩)
            · show upd _ ad _ ad = _
              rw [upd_same, a1]
            · rw [a1]
              simp
              omega
      | _ => exact P3.elim
  | _ => exact P2.elim
theorem ss_aat (x : XS S C sc fb W X) {c k : Nat} {ns : List Str} {n : Str} {a v : Ex} {oo : O2} {o e : Expr} {p pos : Pos} (hns : C.atn[c]? = some ns) (hn : ns[k]? = some n) (ha : SE S W X a o) (hv : SE S W X v e) : SS S W X (.aat c k a oo v) (.AugAssign (.Attribute o n p) (opE oo) e pos) := by
  obtain ⟨a1, a2, a3, a4, a5⟩ := x.ok.atr c ns hns
  refine PS.imp (ps_fldaug ha hv (ip_aug x.ok.hK oo)) fun D σ H h => ?_
  obtain ⟨w, sl, mu, hH, F, P⟩ := h
  refine tS.bndE hH F P fun q2 y2 sl2 mu2 w2 e2 F2 rv2 P2 => ?_
  cases q2 with
  | ref m =>
    simp only [RepV] at rv2
    obtain ⟨ad, rfl, hm⟩ := rv2
    have P3 : Psf S.T S.C W w2 (match mu2[m]? with
      | some (.obj c' fs) => if c' == c then (match fs[k]? with
        | some z0 => (ev S.G S.cf v sl2 mu2).bnd fun z s m' => (match m'[m]? with
          | some (.obj c2 fs2) => if c2 == c && k < fs2.length then (lift (augP oo z0 z) s m').bnd fun u s m' => .ok .nx s (m'.set m (.obj c (fs2.set k u))) else .stk
          | _ => .stk)
        | none => .stk) else .stk
      | _ => .stk) D := P2
    clear P2
    cases hk : mu2[m]? with
    | none => rw [hk] at P3; exact P3.elim
    | some d =>
      rw [hk] at P3
      cases d with
      | obj c' fs =>
        have P4 : Psf S.T S.C W w2 (if (c' == c) = true then (match fs[k]? with
        | some z0 => (ev S.G S.cf v sl2 mu2).bnd fun z s m' => (match m'[m]? with
          | some (.obj c2 fs2) => if c2 == c && k < fs2.length then (lift (augP oo z0 z) s m').bnd fun u s m' => .ok .nx s (m'.set m (.obj c (fs2.set k u))) else .stk
          | _ => .stk)
        | none => .stk) else .stk) D := P3
        clear P3
        by_cases hcc : (c' == c) = true
        case neg => rw [if_neg hcc] at P4; exact P4.elim
        rw [if_pos hcc] at P4
        obtain rfl := eq_of_beq hcc
        obtain ⟨⟨dx, vs, g1, g2, g3⟩, hw⟩ := F2.cel.cl m _ ad hk hm
        cases hz : fs[k]? with
        | none => rw [hz] at P4; exact P4.elim
        | some z0 =>
          rw [hz] at P4
          obtain ⟨v0, hv0, r0⟩ := g3.get hz
          rw [a1] at g1
          refine ⟨ad, _, dx, _, v0, rfl, g1, a4, a5 n (List.mem_of_getElem? hn), zip_at a2 hn hv0, ?_⟩
          refine tS.bndE rfl F2 P4 fun q3 y3 sl3 mu3 w3 e3 F3 rv3 P5 => ?_
          have hm3 : w3.m[m]? = some ad := e3.pre _ _ hm
          have P6 : Psf S.T S.C W w3 (match mu3[m]? with
            | some (.obj c2 fs2) => if c2 == c' && k < fs2.length then (lift (augP oo z0 q3) sl3 mu3).bnd fun u s m' => .ok .nx s (m'.set m (.obj c' (fs2.set k u))) else .stk
            | _ => .stk) D := P5
          clear P5
          cases hk3 : mu3[m]? with
          | none => rw [hk3] at P6; exact P6.elim
          | some d3 =>
            rw [hk3] at P6
            cases d3 with
            | obj c2 fs2 =>
              have P7 : Psf S.T S.C W w3 (if (c2 == c' && decide (k < fs2.length)) = true then (lift (augP oo z0 q3) sl3 mu3).bnd fun u s m' => .ok .nx s (m'.set m (.obj c' (fs2.set k u))) else .stk) D := P6
              clear P6
              by_cases hc2 : (c2 == c' && decide (k < fs2.length)) = true
              case neg => rw [if_neg hc2] at P7; exact P7.elim
              rw [if_pos hc2] at P7
              simp only [Bool.and_eq_true, decide_eq_true_eq] at hc2
              obtain ⟨hc3, hl3⟩ := hc2
              obtain rfl := eq_of_beq hc3
              obtain ⟨z, hz2, P8⟩ := P7.lift
              refine ⟨w3, σ, sl3, mu3, z0, q3, z, rfl, F3, RepV.ext F2.wok e3 _ _ r0, rv3, hz2, fun w4 e4 F4 v4 r4 => ?_⟩
              have hm4 : w4.m[m]? = some ad := e4.pre _ _ hm3
              obtain ⟨⟨dx4, vs4, j1, j2, j3⟩, hw4⟩ := F4.cel.cl m _ ad hk3 hm4
              have hl4 := j3.len
              rw [a1] at j1
              refine ⟨dx4, _, j1, Nat.lt_of_le_of_lt (zip_small _ _) (by omega), ?_⟩
              rw [putF_zip a2 hn (by omega)]
              refine P8.at (w' := w4.wrX ad (.ins (S.T.cla c2) dx4 (ns.zip (vs4.set k v4)))) (e4.trans F3.wok (wrX_ext hw4)) (F4.wrX hm4 ⟨dx4, vs4.set k v4, ?_, by simpa using j2, Reps.ext F4.wok (wrX_ext hw4) _ _ (Reps.set r4 k j3)⟩)
              show upd _ ad _ ad = _
              rw [upd_same, a1]
            | _ => exact P6.elim
      | _ => exact P3.elim
  | _ => exact P2.elim
end
end RA

set_option maxHeartbeats 1000000
/-! Dicts of one's own in a cell: stores, and the dict that is made beside a list. -/
namespace RA
open PySem PySem.Spec L2
section
variable {S : Gs} {C : Ck} {sc : Scope} {fb : Str → Bool} {W : WX} {X : Cx}
theorem stored_keys (es : List Ent) (k : List L2.Key) (b : Addr) (v : Value) : (storedH es k b v).map (fun e => (e.1, e.2.1)) = if (atKey es k).isSome then es.map (fun e => (e.1, e.2.1)) else es.map (fun e => (e.1, e.2.1)) ++ [(k, b)] := by
  unfold storedH
  split
  · rw [List.map_map]
    apply List.map_congr_left
    intro e _
    show ((putAt k v e).1, (putAt k v e).2.1) = _
    unfold putAt
    split <;> rfl
  · rw [List.map_append]; rfl
theorem stored_1 (es : List Ent) (k : List L2.Key) (b : Addr) (v : Value) : (storedH es k b v).map (·.1) = if (atKey es k).isSome then es.map (·.1) else es.map (·.1) ++ [k] := by
  have h := congrArg (List.map (fun p : List L2.Key × Addr => p.1)) (stored_keys es k b v)
  rw [List.map_map] at h
  have e : ((fun p : List L2.Key × Addr => p.1) ∘ fun e : Ent => (e.1, e.2.1)) = (·.1) := rfl
  rw [e] at h
  rw [h]
  split
  · rw [List.map_map, e]
  · rw [List.map_append, List.map_map, e]; rfl
theorem not_key {es : List Ent} {k : List L2.Key} (h : ¬ (atKey es k).isSome = true) : k ∉ es.map (·.1) := by
  intro hk
  obtain ⟨e, he, rfl⟩ := List.mem_map.mp hk
  apply h
  unfold atKey
  rw [Option.isSome_map, List.find?_isSome]
  exact ⟨e, he, by simp⟩
theorem ss_dst (x : XS S C sc fb W X) {a k : Ex} {o i : Expr} {p pos pz : Pos} {kz} (ha : SE S W X a o) (hk : SE S W X k i) (hs : notSlice i = true) : SS S W X (.dst a k) (.Assign [.Subscript o i p] (.Constant (.bool true) kz pz) pos) := by
  have hsub : ∀ v, assign (.Subscript o i p) X.env v = (do
      let ov ← holding [v] (eval o X.env)
      let iv ← holding [v, ov] (eval i X.env)
      standAt p
      holding [v, ov, iv] (setItem ov iv v)
      release [v, ov, iv] []) := fun v => by cases i <;> first | rfl | (simp [notSlice] at hs)
  have hun := x.ok.un
  refine PS.imp (ps_asg pe_bl (pg_sub ha hk (set_dct (X := X) (by omega)) hsub) (by unfold swapsWithSole; exact noSw rfl) rfl rfl) fun D σ H h => ?_
  obtain ⟨w, sl, mu, hH, F, P⟩ := h
  show tE S.T S.C W (sE S a) σ H fun o H1 => tE S.T S.C W (sE S k) σ H1 fun i H2 => rSetDct X o i (.bl true) H2 fun H3 => D.nx σ H3
  refine tS.bndE hH F P fun q2 y2 sl2 mu2 w2 e2 F2 rv2 P2 => ?_
  refine tS.bndE rfl F2 P2 fun q3 y3 sl3 mu3 w3 e3 F3 rv3 P3 => ?_
  cases q2 with
  | ref n =>
    have r2 := RepV.ext F2.wok e3 _ _ rv2
    simp only [RepV] at r2
    obtain ⟨ad, rfl, hm⟩ := r2
    have P3 : Psf S.T S.C W w3 (match (mu3[n]?).bind fun c => putDK c q3 with
      | some c => .ok .nx sl3 (mu3.set n c)
      | none => .stk) D := P3
    split at P3
    · rename_i c2 hc
      simp only [Option.bind_eq_some_iff] at hc
      obtain ⟨c, hc1, hc2⟩ := hc
      obtain ⟨r, hw⟩ := F3.cel.cl n c ad hc1 hm
      unfold putDK at hc2
      split at hc2
      · rename_i ks
        obtain ⟨es, h1, h2, D1, h3⟩ := cell_dct x.ok r
        split at hc2
        · rename_i l
          split at hc2
          · rename_i hl
            cases hc2
            simp only [Bool.and_eq_true] at hl
            obtain ⟨b, kk, rfl, rfl, h4⟩ := tup_key x.ok hl.1 rv3
            have hlen : es.length < sizeLine := by
              have z := Nat.le_of_ble_eq_true hl.2
              rw [h2, List.length_map] at z
              rw [sizeLine_eq]
              have : SZ = 16777216 := rfl
              omega
            refine ⟨ad, b, kk, es, rfl, rfl, rfl, h4, D1, hlen, ?_⟩
            refine P3.at (wrX_ext hw) (F3.wrX hm ?_)
            obtain ⟨_, es0, _, h20, hnd, hsy, _⟩ := r
            refine ⟨rfl, storedH es kk b (.bool true), by show upd _ ad _ ad = _; rw [upd_same, ← x.ok.pr, ← x.ok.wl], ?_, ?_, hsy, ?_⟩
            · have e : (storedH es kk b (.bool true)).map (fun e => PV.tup (e.1.map kP)) = ((storedH es kk b (.bool true)).map (·.1)).map fun k => PV.tup (k.map kP) := by rw [List.map_map]; rfl
              rw [e, stored_1, h2, any_key]
              split
              · rw [List.map_map]; rfl
              · rw [List.map_append, List.map_map]; rfl
            · rw [stored_1]
              split
              · exact D1.nd
              · rename_i hno
                exact List.nodup_append.mpr ⟨D1.nd, by simp, fun u hu z hz => by
                  rw [List.mem_singleton.mp hz]
                  exact fun q => not_key hno (q ▸ hu)⟩
            · have e : (storedH es kk b (.bool true)).map (fun e => V.ref e.2.1) = ((storedH es kk b (.bool true)).map (fun e => (e.1, e.2.1))).map fun q => V.ref q.2 := by rw [List.map_map]; rfl
              rw [e, stored_keys]
              have hx := wrX_ext (o := dctO X.prog X.w ad (storedH es kk b (.bool true))) hw
              have h3' := Reps.ext F3.wok hx _ _ h3
              rw [h2, any_key]
              rw [h2] at h3'
              split
              · rw [List.map_map]; exact h3'
              · rw [List.map_append, List.map_map]
                refine Reps.append h3' ?_
                simp only [Reps, List.map_cons, List.map_nil]
                exact ⟨_, _, rfl, RepV.ext F3.wok hx _ _ rv3, rfl⟩
          · cases hc2
        · cases hc2
      · cases hc2
    · exact P3.elim
  | _ => exact P3.elim
theorem ss_owd (x : XS S C sc fb W X) {i j : Nat} {n n' : Str} {p p' pt pt2 pos lp dp : Pos} {kt k2} (hi : C.N[i]? = some n) (hj : C.N[j]? = some n') (h1 : loc sc fb n = true) (h2 : loc sc fb n' = true) (hij : i ≠ j)
    (ht : swN sc (.Tuple [.Name n p, .Name n' p'] kt pt) (.Tuple [.List [] lp, .Dict [] [] dp] k2 pt2) = true) : SS S W X (.owd i j) (.Assign [.Tuple [.Name n p, .Name n' p'] kt pt] (.Tuple [.List [] lp, .Dict [] [] dp] k2 pt2) pos) := by
  obtain ⟨l1, l2⟩ := loc_of x.ok h1
  obtain ⟨m1, m2⟩ := loc_of x.ok h2
  refine PS.imp (ps_asg (pe_tup (pa_cons (pe_lst pa_nil) (pa_cons pe_dct pa_nil))) (pg_tupA (n := 2) x.ok (pgs_cons (pg_name x.ok.nd (by rw [x.ok.N]; exact hi) l1 l2) (pgs_cons (pg_name x.ok.nd (by rw [x.ok.N]; exact hj) m1 m2) pgs_nil)) rfl rfl) (by unfold swapsWithSole; exact noSw rfl) (noSt x ht) (asgOne rfl)) fun D σ H h => ?_
  obtain ⟨w, sl, mu, rfl, F, P⟩ := h
  have P : Psf S.T S.C W w (.ok .nx (setS (sl.set i (.ow (.lst []))) j (.ref mu.length)) (mu ++ [.dic [] []])) D := P
  refine ⟨Nat.zero_le _, fun q hq => ?_⟩
  intro d hd hsy
  refine ⟨by show 2 ≤ sizeLine; rw [sizeLine_eq]; omega, fun t hT => ?_⟩
  have F1 : FRel S.T (w.new q []) (σ.set i (some (.ref q))) (sl.set i (.ow (.lst []))) mu := F.newO hq (by simp only [Reps])
  have hd' : (w.new q []).H d = none := hd
  have F2 := F1.nuX (o := dctO X.prog X.w d []) (c := .dic [] []) hd' ⟨rfl, [], by show upd _ d _ d = _; rw [upd_same, x.ok.pr, x.ok.wl], rfl, by simp, hsy, by simp only [Reps, List.map_nil]⟩
  have hT' : ((w.new q []).nuX d (dctO X.prog X.w d [])).H t = none := hT
  have F3 := F2.put (o := .tup [.ref q, .ref d]) hT'
  have e3 : Ext w (((w.new q []).nuX d (dctO X.prog X.w d [])).put t (.tup [.ref q, .ref d])) := ((new_ext hq).trans F.wok (nuX_ext hd')).trans F.wok (Wd.put_ext hT')
  refine ⟨t, [.ref q, .ref d], rfl, .inl (.inl (by rw [upd_same])), rfl, .ref q, [.ref d], rfl, .ref d, [], rfl, rfl, ?_⟩
  refine P.at e3 (F3.set j ?_)
  simp only [RepV]
  exact ⟨d, rfl, by show (w.m ++ [d])[mu.length]? = _; rw [← F.cel.mlen]; simp⟩
/-- list(text), a new one -/
theorem snd_listN (hc : X.calm = true) : CallR X (.type "list") (fun vs H Q => ∃ x : List Nat, vs = [.str ⟨x.toArray⟩] ∧ x.length ≤ SZ ∧ ∀ p, H p = none → Q (.ref p) (L2.upd H p (.lst (x.map fun c => V.str ⟨#[c]⟩)))) := by
  intro pins s σ H vs us Q I rs h
  obtain ⟨x, rfl, hz, k⟩ := h
  cases rs with
  | cons r1 rr =>
    cases rr
    obtain ⟨t, rfl⟩ := r1
    have hn : (⟨x.toArray⟩ : Str).cps.size ≤ sizeLine := by rw [sizeLine_eq]; simpa using hz
    refine PySem.call_list_str (I.ok.hd hc) _ t (fun h' tk acc' c' kp e2 it => ?_) hn
    have hvs : Vals (x.map fun c => V.str ⟨#[c]⟩) acc'.toList := by
      obtain ⟨hsz, hat⟩ := it
      refine vals_at (by simp [hsz]) fun i y u h1 h2 => ?_
      obtain ⟨c, k, hc', rfl⟩ := hat i u (by simpa using h2)
      simp only [List.getElem?_map, Option.map_eq_some_iff] at h1
      obtain ⟨c2, hc2, rfl⟩ := h1
      have hc' : x[i]? = some c := by simpa using hc'
      rw [hc2] at hc'; cases hc'
      exact ⟨k, rfl⟩
    have I2 : Inv X pins σ (L2.upd H s.heap.objs.size (.lst (x.map fun c => V.str ⟨#[c]⟩))) { s with heap := h', toks := tk } :=
      I.laid kp (Nat.le_refl _) (show ObjOk X.prog X.w _ _ _ (.lst _) from ⟨by rw [List.length_map, sizeLine_eq]; exact hz, acc'.toList, c', hvs, by rw [Array.toArray_toList]; exact e2⟩)
    exact ⟨.ref s.heap.objs.size, _, I2, rfl, k _ (I.hok.fresh (Nat.le_refl _))⟩
theorem ss_owl (x : XS S C sc fb W X) (hc : C.hot = false) {i : Nat} {e : Ex} {n : Str} {v : Expr} {p p2 pc pos : Pos} (hi : C.N[i]? = some n) (hl : loc sc fb n = true) (hv : glb sc "list" = true) (he : SE S W X e v) (hs : notStar v = true) (hn : noComp (.Call (.Name "list" p2) [v] [] ⟨0, 0, 0, 0⟩) = true) :
    SS S W X (.owl i e) (.Assign [.Name n p] (.Call (.Name "list" p2) [v] [] pc) pos) := by
  obtain ⟨l1, l2⟩ := loc_of x.ok hl
  refine PS.imp (ps_set x.ok.nd (by rw [x.ok.N]; exact hi) l1 (pe_callTy (snd_listN (x.ok.calm hc)) (glb_of x.ok hv) (x.ok.blt _ (by decide +kernel)) (show bootBuiltins "list" = some (.type "list") by decide +kernel) (pa_cons he pa_nil (star_cons hs)) (by decide) (by decide) (star_cons hs) rfl) (noSw hn) l2) fun D σ H h => ?_
  obtain ⟨w, sl, mu, hH, F, P⟩ := h
  refine tS.bndE hH F P fun q u sl1 mu1 w1 e1 F1 rv P1 => ?_
  cases q with
  | str t =>
    simp only [RepV] at rv
    obtain ⟨rfl, hz⟩ := rv
    have P1 : Psf S.T S.C W w1 (.ok .nx (sl1.set i (.ow (.lst (t.map fun c => .str [c])))) mu1) D := P1
    exact ⟨t, rfl, hz, fun q hq => P1.at (new_ext hq) (F1.newO hq (charsReps t))⟩
  | _ => exact P1.elim
end
end RA

set_option maxHeartbeats 2000000
/-! A list comprehension whose element may raise: what leaves it. -/
namespace RA
open PySem PySem.Spec PyProof.Rows L2

section
variable {M : Model} {A : Around} {E : Value → Shared → Prop} {s : Shared} {Z : Obj → Prop} {base : Heap} {env : Env} {outer l : List Env} {L F e : Addr}
theorem funFrames_base {h B B' : Heap} (k : ∀ b, B.get? b = none → B'.get? b = none) : ∀ {l : List Env}, h.FunFrames B l → h.FunFrames B' l
  | [], _ => trivial
  | _ :: _, ⟨hk, ⟨L, o, hf, hn, ho, hd⟩, hr⟩ => ⟨hk, ⟨L, o, hf, k _ hn, ho, hd⟩, funFrames_base k hr⟩
/-- it was up in another frame -/
theorem looks_heldZ {Q : Unit → Shared → Prop} (hZ : PXN.Steady1 Z) (hne : F ≠ L)
    (hfr : A.frames = some (env :: outer)) (hf : env.frame = some L) (hfl : HandSPX.HeldZ base (env :: outer) e Z F s.heap)
    (hQ : ∀ h', HandSPX.HeldZ base (env :: outer) e Z L h' → s.heap.UpToSlots h' → Q () { s with heap := h' }) : wpAny M A (noteFrame (.ref e) env) Q E s := by
  obtain ⟨hkb, hen, hl, oe, vs, T, oT, ts, he, hz, hd, h1, hnT, hTe, hT, hdT, h3⟩ := hfl
  unfold noteFrame
  simp only [hf]
  refine wpAny_bind (wpAny_field he hd h1 ?_)
  rw [if_pos (show (Value.ref T != Value.none) = true from by simp)]
  refine wpAny_bind (wpAny_field hT hdT h3 ?_)
  rw [if_neg (show ¬ ((rawInt F == rawInt L) = true) from fun h => hne (Int.ofNat.inj (by simpa [rawInt] using h)))]
  refine wpAny_bind (wpAny_setField hT hdT (Array.getElem?_eq_some_iff.mp h3).1 ?_)
  have other : ∀ b, b ≠ T → (s.heap.update T (Obj.mapFields (·.setIfInBounds 3 Value.none))).get? b = s.heap.get? b := fun b hb => Heap.get?_update_other _ _ (Ne.symm hb)
  have noRecord : ∀ b o, s.heap.get? b = some o → (∀ vs, o.data ≠ .fields vs) → b ≠ T := fun b o hb hnf q => by
    rw [q, hT] at hb; injection hb with hb; subst hb; exact hnf ts hdT
  refine PXN.wpAny_entryZ hZ hfr (hl.of_keeps fun b o hb hnf => ⟨o, (other b (noRecord b o hb hnf)).trans hb, rfl⟩) hf ((other e (Ne.symm hTe)).trans he)
    (fun b o hbo => (other b fun q => by rw [q, hnT] at hbo; cases hbo).trans (hkb b o hbo)) hen hd (Array.getElem?_eq_some_iff.mp h1).1 hz fun h' hN => ?_
  obtain ⟨x1, x2, x3, x4⟩ := hN
  exact hQ h' ⟨x1, hen, x2, x3⟩ fun b o hb hnf => x4 b o ((other b (noRecord b o hb hnf)).trans hb) hnf
end
section
variable {X : Cx} {pins : List (Addr × Obj)} {σ : L2.St} {H3 : Hp} {s3 : Shared} {fp : List Addr} {scope : Scope} {ce : Env} {W : WX}
theorem lcx_takes (hs : X.stack = X.env :: X.outer) (hf : X.env.frame = some X.env.locals) (tk : L2N.Takes X W) (I3 : Inv X pins σ H3 s3) (f3 : ∀ b ∈ fp, FpOk X pins H3 b) (cL : ce.locals = s3.heap.objs.size) (cF : ce.frame = X.env.frame)
    {use : Option (Value → Sem Unit)} {Qf : Value → Shared → Prop} {acc : Value} :
    L2N.Takes ((X.blk s3 H3 scope ce fp).wish (notedBy (model X.prog X.w) X.A ce fun e s' => compEnds (model X.prog X.w) X.A X.xe use Qf acc ce (.error e) s')) (fun c d _ H' => W c d σ H') := by
  rintro u s' ⟨a, B, sI, pins', σ', H', cls, d, rfl, I6, nb, up, sky, na, os, ag, w⟩
  have hfr : X.A.frames = some (X.env :: X.outer) := by rw [I3.ok.frames, hs]
  obtain ⟨m, hn, _⟩ := I6.loc
  have hn : sI.heap.Ns ce.locals m := hn
  have nC : H' ce.locals = none := I6.free
  have freshC : s3.heap.get? ce.locals = none := by
    cases q : s3.heap.get? ce.locals with
    | none => rfl
    | some o =>
      have z := Heap.lt_size q
      rw [cL] at z
      exact absurd z (Nat.lt_irrefl _)
  have neC : ∀ b o, s3.heap.get? b = some o → b ≠ ce.locals := fun b o e z => by rw [z, freshC] at e; cases e
  have LC : ce.locals ≠ X.env.locals := by rw [cL]; exact Ne.symm (Nat.ne_of_lt I3.lt)
  have sky : Sky B (X.env :: X.outer) a (L2N.Zn cls d) ce.locals s'.heap := by rw [← hs]; exact sky
  show wpAny (model X.prog X.w) X.A (noteFrame (.ref a) ce) _ _ s'
  rw [noteFrame_env _ cF]
  have fin : ∀ h1, HandSPX.HeldZ B (X.env :: X.outer) a (L2N.Zn cls d) X.env.locals h1 → s'.heap.UpToSlots h1 → compEnds (model X.prog X.w) X.A X.xe use Qf acc ce (.error (.ref a)) { s' with heap := h1 } := fun h1 hh up1 => by
    have goal : CompFails (model X.prog X.w) X.A X.xe ce (.ref a) { s' with heap := h1 } := by
      have hn1 : h1.Ns ce.locals m := (hn.upToSlots up).upToSlots up1
      refine ⟨m, hn1, fun h2 m2 hn2 hs2 => ?_⟩
      obtain ⟨b1, b0, f1, oe, vs, T, oT, ts, he, hz, hd, e1, hnT, hTe, hT, hdT, e3⟩ := hh
      have notC : ∀ {b : Addr} {o : Obj} {us : Array Value}, h1.get? b = some o → o.data = .fields us → b ≠ ce.locals := fun {b o us} e dd z => by
        obtain ⟨oL, es, ep, hoL, hdL, _⟩ := hn1
        rw [z, hoL] at e
        cases e
        rw [hdL] at dd
        cases dd
      have ha := notC he hd
      have hTC := notC hT hdT
      have bB : ∀ b o, (PySem.W.hideAll B [ce.locals]).get? b = some o → B.get? b = some o ∧ b ≠ ce.locals := fun b o e => ⟨PySem.W.of_hideAll _ e, fun z => by
        rw [PySem.W.hideAll_none [ce.locals] (by rw [z]; exact List.mem_singleton.mpr rfl)] at e
        cases e⟩
      have bI : ∀ b o, (PySem.W.hideAll sI.heap [ce.locals]).get? b = some o → sI.heap.get? b = some o ∧ b ≠ ce.locals := fun b o e => ⟨PySem.W.of_hideAll _ e, fun z => by
        rw [PySem.W.hideAll_none [ce.locals] (by rw [z]; exact List.mem_singleton.mpr rfl)] at e
        cases e⟩
      have none' : ∀ b, B.get? b = none → (PySem.W.hideAll B [ce.locals]).get? b = none := fun b e => by
        cases q : (PySem.W.hideAll B [ce.locals]).get? b with
        | none => rfl
        | some o =>
          rw [(bB b o q).1] at e
          cases e
      have st2 : (PySem.W.hideAll B [ce.locals]).StaysIn h2 := fun b o e => (hs2.2 b (bB b o e).2).trans (b1 b o (bB b o e).1)
      have fr2 : h2.FunFrames (PySem.W.hideAll B [ce.locals]) (X.env :: X.outer) := funFrames_base none' (Heap.FunFrames.sameBut hs2 hn2 f1)
      have he2 : h2.get? a = some oe := (hs2.2 a ha).trans he
      have hT2 : h2.get? T = some oT := (hs2.2 T hTC).trans hT
      unfold PySem.passOn
      refine wpAny_bind (wpAny_field he2 hd e1 ?_)
      rw [if_neg (show ¬ ((Value.ref T == Value.none) = true) from by simp)]
      rw [cF, hf]
      have fly : wpAny (model X.prog X.w) X.A (setFlight (.ref a) (some X.env.locals)) (fun _ s4 => wpAny (model X.prog X.w) X.A (throw (.ref a) : Sem Value) (fun _ _ => False) X.xe s4) X.xe { s' with heap := h2 } := by
        refine HandSPX.setFlight_anyZ (fl := rawInt X.env.locals) st2 fr2 ⟨oe, vs, T, oT, ts, he2, hz, hd, e1, none' _ hnT, hTe, hT2, hdT, e3⟩ fun h3 b3 fr3 t3 k3 => wpAny_throw (tk _ _ ?_)
        have J : Inv X pins σ H' { sI with heap := PySem.W.hideAll sI.heap [ce.locals] } := by
          refine I3.call' (ch := fp) I6.os ?_ ?_ I6.bare fun b hb => ⟨(f3 b hb).2.2.2.1, (f3 b hb).2.1, (f3 b hb).2.2.2.2.1, (f3 b hb).2.2.2.2.2⟩
          · have u := I6.base
            exact ⟨fun b o e n hb hx => PySem.W.hideAll_get _ (u.keep b o e n hb hx) (by simpa using neC b o e),
              fun b o e n hb hx => (u.slot b o e n hb hx).imp fun sl q => PySem.W.hideAll_get _ q (by simpa using neC b o e),
              u.free, fun b o e hx => (u.there b o e hx).imp fun o' q => PySem.W.hideAll_get _ q (by simpa using neC b o e), u.tups, u.frzs, u.tbls⟩
          · exact fun b o q => (I6.hok b o q).stay (fun c v hc r => PySem.W.hideAll_get _ r (by
              have : c ≠ ce.locals := fun z => by
                rcases hc with hc | hc
                · rw [← hc, z, nC] at q; cases q
                · rw [z, nC] at hc; cases hc
              simpa using this)) (fun _ r => r) fun _ _ r => r
        refine ⟨a, PySem.W.hideAll B [ce.locals], { sI with heap := PySem.W.hideAll sI.heap [ce.locals] }, pins, σ, H', cls, d, rfl, J, fun b o e hb => PySem.W.hideAll_get _ (nb b o (bI b o e).1 hb) (by simpa using (bI b o e).2), fun b o e hnf => ?_, .inr (.inr ?_), na, os, ag, w⟩
        · obtain ⟨k1, k2⟩ := bI b o e
          obtain ⟨l1, z1⟩ := up b o k1 hnf
          obtain ⟨l2, z2⟩ := up1 b _ z1 hnf
          have z3 := (hs2.2 b k2).trans z2
          obtain ⟨l3, z4⟩ := k3 b _ z3 hnf
          exact ⟨l3, z4⟩
        · rw [hs]
          exact ⟨b3, none' _ b0, fr3, t3⟩
      first
        | exact wpAny_bind (wpAny_pure (wpAny_bind fly))
        | exact wpAny_bind fly
    cases use <;> exact goal
  rcases sky with ⟨hB, hna, hl, oe, vs, he, hz, hd, h1⟩ | fl | hh
  · exact PXN.look_newZ L2N.Zn.steady hfr hl hf he hB hna hd h1 hz fin
  · exact PXN.looks_onZ L2N.Zn.steady hfr hf fl fin
  · exact looks_heldZ L2N.Zn.steady LC hfr hf hh fin
theorem thnE {α : Type} {t : Sem α} {Q Q' : α → Shared → Prop} {M : Model} {A : Around} {E E' : Value → Shared → Prop} {s : Shared} (hE : E' = E) (h : wpAny M A t Q E s) (hQ : ∀ a s, Q a s → Q' a s) : wpAny M A t Q' E' s := by
  subst hE
  exact thn h hQ
theorem lc_coreX {W : WX} {pins : List (Addr × Obj)} {s : Shared} {σ : L2.St} {H : Hp} {Q : VK} {elt tg iter : Expr} {ifs : List Expr} {scope : Scope} {own : List (Str × Nat)} {pos pos' : Pos} {wi : TI} {g : TG} {tt : TT} {te : WX → TE} {use : Option (Value → Sem Unit)} {Qf : Value → Shared → Prop}
    (hs0 : X.stack = X.env :: X.outer) (hf0 : X.env.frame = some X.env.locals) (tk : L2N.Takes X W)
    (hc : X.calm = true) (hN : X.N.Nodup) (I : Inv X pins σ H s) (hi : PI X tg iter wi) (ok : BlkOk X.N X.env.scope scope own)
    (hg : ∀ (s : Shared) (H : Hp) (C : Addr) (cl : List (Str × Addr)) (fp : List Addr) (E : Value → Shared → Prop), PG ((X.blk s H scope (compEnvC scope cl C X.env) fp).wish E) tg g) (ht : ∀ (s : Shared) (H : Hp) (C : Addr) (cl : List (Str × Addr)) (fp : List Addr) (E : Value → Shared → Prop), PTs ((X.blk s H scope (compEnvC scope cl C X.env) fp).wish E) ifs tt)
    (he : ∀ (s : Shared) (H : Hp) (C : Addr) (cl : List (Str × Addr)) (fp : List Addr) (E : Value → Shared → Prop) (W' : WX), L2N.Takes ((X.blk s H scope (compEnvC scope cl C X.env) fp).wish E) W' → PE ((X.blk s H scope (compEnvC scope cl C X.env) fp).wish E) elt (te W')) (hs : ∀ x, foldedSetIterable iter X.env x = pure x)
    (h : tLc wi g tt (te fun c d _ H' => W c d σ H') (own.map (·.2)) σ H Q)
    (hRR : ∀ D C s' m H', Inv X pins σ H' s' → Q (.ref D) H' → s'.heap.Ns C m → FpOk X pins H' C → ∀ ce : Env, ce.locals = C → compEnds (model X.prog X.w) X.A X.xe use Qf (.ref D) ce (.ok .next) s') :
    wpAny (model X.prog X.w) X.A (comprehension (.ListComp elt [⟨tg, iter, ifs, 0⟩] scope pos) scope X.env pos' (newList []) false (eval iter X.env) use) Qf X.xe s := by
  have hfree : ∀ y ∈ scope.names, y.2 = .free → ∃ c, X.env.cells.lookup y.1 = some c := fun y hy e => by
    rcases ok.free y hy e with k | k
    · exact I.ok.has _ (.inl k)
    · exact I.ok.has _ (.inr k)
  refine comprehension_at (use := use) rfl hs (closure_ok hfree) ok.kind (fun y hy e => by rw [ok.uniq y hy, e])
    (thn (hi.run pins s σ H _ I h) fun xv s1 hx => thn hx fun itv s2 h2 => ?_)
  obtain ⟨it, fp, tn, J, H2, e, I2, T, st2, f2, q⟩ := h2
  subst e
  refine wpAny_newObj_type (newEnv_comp ?_) (by show 0 ≤ sizeLine; decide)
  generalize hD : s2.heap.objs.size = D
  have hDn : H2 D = none := I2.hok.fresh (Nat.le_of_eq hD)
  obtain ⟨Wm, ⟨m0, w0⟩, turn⟩ := q D hDn
  -- the new list
  generalize hs3 : ({ s2 with heap := s2.heap.push { cls := .type "list", data := .seq ([] : List Value).toArray } } : Shared) = s3
  have I3 : Inv X pins σ (upd H2 D (.lst [])) s3 := by
    rw [← hs3]
    refine I2.laid (t' := s2.toks) (fun b o e => Heap.get?_push_of_some _ e) (Nat.le_of_eq hD) ⟨Nat.zero_le _, [], 0, .nil, ?_⟩
    rw [← hD]
    exact Heap.get?_push_size _ rfl
  have h3 : s3.heap = s2.heap.push { cls := .type "list", data := .seq ([] : List Value).toArray } := by rw [← hs3]
  have sz : ∀ b ∈ fp, b < s2.heap.objs.size := fun b hb => by
    obtain ⟨o, e, _⟩ := T.obj _ _ st2 b hb
    exact Heap.lt_size e
  have f3 : ∀ b ∈ fp, FpOk X pins (upd H2 D (.lst [])) b ∧ b < s3.heap.objs.size := fun b hb => by
    have hlt := sz b hb
    refine ⟨⟨?_, (f2 b hb).2⟩, by rw [h3, Heap.size_push]; exact Nat.lt_succ_of_lt hlt⟩
    rw [upd_ne (by rw [← hD]; exact Nat.ne_of_lt hlt)]
    exact (f2 b hb).1
  have st3 : tn 0 s3.heap := T.keep _ _ _ st2 fun b _ o e => by rw [h3]; exact Heap.get?_push_of_some _ e
  have I4' := block_start I3 ok hN f3
  generalize hEe : (notedBy (model X.prog X.w) X.A (compEnvC scope (cellsFrom (s3.heap.objs.size + 1) scope.names (cloFrom X.env.cells scope.names [])) s3.heap.objs.size X.env) fun e s' => compEnds (model X.prog X.w) X.A X.xe use Qf (.ref D) (compEnvC scope (cellsFrom (s3.heap.objs.size + 1) scope.names (cloFrom X.env.cells scope.names [])) s3.heap.objs.size X.env) (.error e) s') = Ee
  have I4 := I4'.wish Ee
  clear I4'
  have pg := hg s3 (upd H2 D (.lst [])) s3.heap.objs.size (cellsFrom (s3.heap.objs.size + 1) scope.names (cloFrom X.env.cells scope.names [])) fp Ee
  have pt := ht s3 (upd H2 D (.lst [])) s3.heap.objs.size (cellsFrom (s3.heap.objs.size + 1) scope.names (cloFrom X.env.cells scope.names [])) fp Ee
  have pe := he s3 (upd H2 D (.lst [])) s3.heap.objs.size (cellsFrom (s3.heap.objs.size + 1) scope.names (cloFrom X.env.cells scope.names [])) fp Ee (fun c d _ H' => W c d σ H') (by rw [← hEe]; exact lcx_takes (ce := compEnvC scope (cellsFrom (s3.heap.objs.size + 1) scope.names (cloFrom X.env.cells scope.names [])) s3.heap.objs.size X.env) hs0 hf0 tk I3 (fun b hb => (f3 b hb).1) rfl rfl)
  show codeAny _ _ (.compStart (.ListComp elt [⟨tg, iter, ifs, 0⟩] scope pos) 0 (.ref it) (.ref D) (compEnvC scope (cellsFrom (s3.heap.objs.size + 1) scope.names (cloFrom X.env.cells scope.names [])) s3.heap.objs.size X.env)) (compEnds (model X.prog X.w) X.A X.xe use Qf (.ref D) (compEnvC scope (cellsFrom (s3.heap.objs.size + 1) scope.names (cloFrom X.env.cells scope.names [])) s3.heap.objs.size X.env)) { s3 with heap := pushCells (s3.heap.push { cls := .type "dict", data := .dict #[] }) scope.names }
  have nfp : ∀ b ∈ fp, (upd H2 D (.lst [])) b = none := fun b hb => (f3 b hb).1.1
  generalize hce : compEnvC scope (cellsFrom (s3.heap.objs.size + 1) scope.names (cloFrom X.env.cells scope.names [])) s3.heap.objs.size X.env = ce at I4 pg pt pe hEe ⊢
  have cL : ce.locals = s3.heap.objs.size := by subst hce; rfl
  generalize hH3 : upd H2 D (.lst []) = H3 at I3 I4 pg pt pe w0 nfp f3
  generalize hs4 : ({ s3 with heap := pushCells (s3.heap.push { cls := .type "dict", data := .dict #[] }) scope.names } : Shared) = s4 at I4 ⊢
  have st4 : tn 0 s4.heap := T.keep _ _ _ st3 fun b _ o e => by rw [← hs4]; exact pushCells_keeps _ _ _ _ (Heap.get?_push_of_some _ e)
  have stat : ∀ {σ' : L2.St} {H' : Hp} {s' : Shared}, Inv ((X.blk s3 H3 scope ce fp).wish Ee) [] σ' H' s' → (∀ b ∈ fp, H' b = none) → ∀ b ∈ fp, FpOk ((X.blk s3 H3 scope ce fp).wish Ee) [] H' b := fun {σ' H' s'} I' hn b hb =>
    ⟨hn b hb, (I'.ok.exf b hb).1, I'.ok.exfs b hb, .inl hb, fun x c e => (I'.ok.exf b hb).2 x c e, fun p hp => absurd (show p ∈ ([] : List (Addr × Obj)) ++ [] from hp) (by simp)⟩
  have loop : codeAny (model X.prog X.w) X.A (.compLoop (.ListComp elt [⟨tg, iter, ifs, 0⟩] scope pos) 0 (.ref it) (.ref D) ce) (compEnds (model X.prog X.w) X.A X.xe use Qf (.ref D) ce) s4 := by
    refine compLoop_any (fun n s' => ∃ i H', Inv ((X.blk s3 H3 scope ce fp).wish Ee) [] (L2.wipe σ (own.map (·.2))) H' s' ∧ tn i s'.heap ∧ (∀ b ∈ fp, H' b = none) ∧ Wm i n H') ?_ m0 ⟨0, H3, I4, st4, nfp, w0⟩
    rintro n s5 ⟨i, H5, I5, st5, n5, w5⟩
    rcases turn i n H5 w5 with ⟨stop, qq⟩ | ⟨go, Nx, hNx, step⟩
    · have td := T.done ((X.blk s3 H3 scope ce fp).wish Ee) rfl rfl rfl hc i [] s5 _ H5 (fun _ _ => False) I5 (stat I5 n5) st5 stop
      refine thnF td fun r s6 ⟨hr, I6⟩ => ?_
      subst hr
      -- back in the def's context
      have I7 : Inv X pins σ H5 s6 := I3.call' (ch := fp) I6.os I6.base I6.hok I6.bare fun b hb => ⟨(f3 b hb).1.2.2.2.1, (f3 b hb).1.2.1, (f3 b hb).1.2.2.2.2.1, (f3 b hb).1.2.2.2.2.2⟩
      have nC : H5 s3.heap.objs.size = none := by
        have z : H5 ce.locals = none := I6.free
        rw [cL] at z
        exact z
      obtain ⟨m, hn, _⟩ := I6.loc
      have hn : s6.heap.Ns ce.locals m := hn
      rw [cL] at hn
      exact hRR D s3.heap.objs.size s6 m H5 I7 qq hn (I3.fpOk (Nat.le_refl _) nC) ce cL
    · have ti := T.item ((X.blk s3 H3 scope ce fp).wish Ee) rfl rfl rfl hc i [] s5 _ H5 (fun _ _ => False) I5 (stat I5 n5) st5 go
      refine thnF ti fun r s6 ⟨u, hr, h6⟩ => ?_
      subst hr
      refine thnF h6 fun _ s7 ⟨x, H7, I7, r7, y7, st7, n7⟩ => ?_
      have I7' := I7.pinned (stat I7 n7) (T.obj _ _ st7)
      refine thnE hEe (pg.run _ s7 _ H7 x u _ I7' r7 (step x H7 y7)) fun _ s8 ⟨σ8, H8, I8, hw8, q8⟩ => ?_
      refine thnE hEe (pt.run _ s8 σ8 H8 _ I8 q8) fun b s9 ⟨H9, I9, q9⟩ => ?_
      -- the turn's end
      have fin : ∀ {s' : Shared} {H' : Hp}, Inv ((X.blk s3 H3 scope ce fp).wish Ee) ([] ++ pinsAt fp s7.heap) σ8 H' s' → Nx H' → ∃ m, m < n ∧ ∃ i H', Inv ((X.blk s3 H3 scope ce fp).wish Ee) [] (L2.wipe σ (own.map (·.2))) H' s' ∧ tn i s'.heap ∧ (∀ b ∈ fp, H' b = none) ∧ Wm i m H' := fun {s' H'} I' nx => by
        obtain ⟨m', hm, w'⟩ := hNx H' nx
        have pin' : ∀ b ∈ fp, ∀ o, s7.heap.get? b = some o → s'.heap.get? b = some o ∧ H' b = none := fun b hb o e =>
          let z := I'.pin (b, o) (List.mem_append_right _ (List.mem_append_right _ (mem_pinsAt hb e)))
          ⟨z.1, z.2.1⟩
        have hl : (L2.wipe σ (own.map (·.2))).length = σ8.length := by rw [← hw8, wipe_length]
        refine ⟨m', hm, i + 1, H', (I'.unpinned (pins := [])).weak hl (fun j v e => ?_), T.keep _ _ _ st7 fun b hb o e => (pin' b hb o e).1, fun b hb => ?_, w'⟩
        · rw [← hw8] at e
          exact (wipe_some e).1
        · obtain ⟨o, e, _⟩ := T.obj _ _ st7 b hb
          exact (pin' b hb o e).2
      cases b with
      | false =>
        simp only [Bool.false_eq_true, if_false] at q9 ⊢
        exact fin I9 q9
      | true =>
        simp only [if_true] at q9 ⊢
        refine thnE hEe (pe.run _ s9 σ8 H9 _ I9 q9) fun z s10 ⟨yv, H10, I10, r10, acc, hD10, hz10, nx⟩ => ?_
        exact app_ok (X := (X.blk s3 H3 scope ce fp).wish Ee) I10 hD10 hz10 r10 fun s11 I11 => fin I11 nx
  exact codeAny_compStart_list loop (T.self X.A 0 _ _ _ st4 loop)


/-- name = [..] on one line, the name a local; the element may raise -/
theorem ps_setLcX {W : WX} {i : Nat} {y : Str} {py : Pos} {elt tg iter : Expr} {ifs : List Expr} {scope : Scope} {own : List (Str × Nat)} {pos spos : Pos} {wi : TI} {g : TG} {tt : TT} {te : WX → TE} (hs0 : X.stack = X.env :: X.outer) (hf0 : X.env.frame = some X.env.locals) (tk : L2N.Takes X W)
    (hc : X.calm = true) (hN : X.N.Nodup) (hy : X.N[i]? = some y) (hyl : X.env.scope.names.lookup y = some .local)
    (hsw : swapsWith (.ListComp elt [⟨tg, iter, ifs, 0⟩] scope pos) (some (.Name y py)) spos.line X.env = pure true) (hi : PI X tg iter wi) (ok : BlkOk X.N X.env.scope scope own)
    (hg : ∀ (s : Shared) (H : Hp) (C : Addr) (cl : List (Str × Addr)) (fp : List Addr) (E : Value → Shared → Prop), PG ((X.blk s H scope (compEnvC scope cl C X.env) fp).wish E) tg g) (ht : ∀ (s : Shared) (H : Hp) (C : Addr) (cl : List (Str × Addr)) (fp : List Addr) (E : Value → Shared → Prop), PTs ((X.blk s H scope (compEnvC scope cl C X.env) fp).wish E) ifs tt)
    (he : ∀ (s : Shared) (H : Hp) (C : Addr) (cl : List (Str × Addr)) (fp : List Addr) (E : Value → Shared → Prop) (W' : WX), L2N.Takes ((X.blk s H scope (compEnvC scope cl C X.env) fp).wish E) W' → PE ((X.blk s H scope (compEnvC scope cl C X.env) fp).wish E) elt (te W')) (hs : ∀ x, foldedSetIterable iter X.env x = pure x) :
    PS X (.Assign [.Name y py] (.ListComp elt [⟨tg, iter, ifs, 0⟩] scope pos) spos) (fun D σ H => tLc wi g tt (te fun c d _ H' => W c d σ H') (own.map (·.2)) σ H (fun x H1 => gName i x σ H1 D.nx)) := by
  refine ⟨fun pins s σ H D I h => ?_⟩
  rw [exec_Assign_Name_used _ _ _ _ hsw]
  refine wpAny_bind (wpAny_standAt (wpAny_bind ?_))
  show wpAny _ X.A (do let _ ← comprehension (.ListComp elt [⟨tg, iter, ifs, 0⟩] scope pos) scope X.env (firstIterPos [⟨tg, iter, ifs, 0⟩] pos) (newList []) false (eval iter X.env) (some (assign (.Name y py) X.env))) _ _ s
  refine wpAny_bind (thn (lc_coreX (W := W) (Qf := fun _ s' => SP X pins D .next s') hs0 hf0 tk hc hN I hi ok hg ht he hs h fun L C s' m H' I' q hn f ce hce => ?_) fun _ s' hq => wpAny_pure (wpAny_pure hq))
  subst hce
  show wpAny _ _ (assign (.Name y py) X.env (.ref L)) _ _ _
  refine wpAny_assign_Name (store_ok2 (v := V.ref L) I' hN hy (.inl hyl) rfl (fun s2 I2 ⟨a, sb, ha⟩ => ?_) (.inr hyl))
  obtain ⟨f0, f1, f2, f3, f4, f5⟩ := f
  have haC : ce.locals ≠ a := by
    rcases ha with z | z
    · rw [z]; exact f1
    · exact fun e => f4 y a z e.symm
  refine ⟨m, hn.sameBut sb haC, fun h3 sb3 => ?_⟩
  exact ⟨_, H', I2.turned (t' := s2.toks) (fun b o hb e => (sb3.2 b hb).trans e) f0 f1 f3 f4 f5, q⟩
end
end RA

/-! Soundness: a comprehension that is stored, whose element may raise; an own list and a value beside each other. -/
namespace RA
open PySem L2

/-- what a result wishes for, seen from a world; what it raises meets W -/
def Pkx {α : Type} (T : Tb) (Cl : Nat → Value) (W : Value → Option Addr → Hp → Prop) (τ : L2.St) (w : Wd) (r : Res α) (Q : α → List Sl → List PV → Wd → Prop) : Prop :=
  match r with
  | .ok a sl mu => ∀ w', Ext w w' → FRel T w' τ sl mu → Q a sl mu w'
  | .exc e sl mu => ∀ cls d w', Ext w w' → WOk w' → CRel T w' mu → sl.length = τ.length → RepX T Cl w' e cls d → W cls d w'.H
  | .stk => False
section
variable {T : Tb} {Cl : Nat → Value} {W : Value → Option Addr → Hp → Prop} {τ : L2.St} {w0 : Wd}
theorem Pkx.bnd {α β : Type} {r : Res α} {f : α → List Sl → List PV → Res β} {Q : β → List Sl → List PV → Wd → Prop} (h : Pkx T Cl W τ w0 (r.bnd f) Q) {σ : L2.St} (hl : σ.length = τ.length) (ok : WOk w0) {w : Wd} (e0 : Ext w0 w) :
    Pst T Cl (fun c d _ H' => W c d H') σ w r fun a sl mu _ => Pkx T Cl W τ w0 (f a sl mu) Q := by
  cases r with
  | stk => exact h
  | ok a sl mu => exact fun w' _ _ => h
  | exc x sl mu => exact fun cls d w' e F rx => (show ∀ cls d w', Ext w0 w' → WOk w' → CRel T w' mu → sl.length = τ.length → RepX T Cl w' x cls d → W cls d w'.H from h) cls d w' (e0.trans ok e) F.wok F.cel (F.len.trans hl) rx
theorem Pkx.bndN {α β : Type} {r : Res α} {f : α → List Sl → List PV → Res β} {Q : β → List Sl → List PV → Wd → Prop} (h : Pkx T Cl W τ w0 (r.nox.bnd f) Q) (σ : L2.St) (w : Wd) {W' : WX} :
    Pst T Cl W' σ w r fun a sl mu _ => Pkx T Cl W τ w0 (f a sl mu) Q := by
  cases r with
  | stk => exact h
  | ok a sl mu => exact fun w' _ _ => h
  | exc x sl mu => exact h.elim
theorem Pkx.map {α β : Type} {r : Res α} {f : α → β} {Q : β → List Sl → List PV → Wd → Prop} (h : Pkx T Cl W τ w0 (r.bnd fun a s m => .ok (f a) s m) Q) : Pkx T Cl W τ w0 r fun a sl mu w' => Q (f a) sl mu w' := by
  cases r with
  | stk => exact h
  | ok a sl mu => exact h
  | exc x sl mu => exact h
end
theorem Pss.bndK {α β : Type} {T : Tb} {Cl : Nat → Value} {W : WX} {w w0 : Wd} {r : Res α} {f : α → List Sl → List PV → Res β} {P : β → List Sl → List PV → L2.St → Wd → Prop} (h : Pss T Cl W w (r.bnd f) P) (ok : WOk w) (e0 : Ext w w0) (σ : L2.St) : Pst T Cl W σ w0 r fun a sl mu _ => Pss T Cl W w (f a sl mu) P := by
  cases r with
  | stk => exact h
  | ok a sl mu => exact fun w' _ _ => h
  | exc x sl mu => exact fun cls d w' e F rx => (show ∀ cls d σ w', Ext w w' → FRel T w' σ sl mu → RepX T Cl w' x cls d → W cls d σ w'.H from h) cls d σ w' (e0.trans ok e) F rx
section
variable {S : Gs} {C : Ck} {sc : Scope} {fb : Str → Bool} {X : Cx} {W : WX}
/-- one turn -/
def lcGx (S : Gs) (own : List Nat) (elt : Ex) (tg : Tg) (ifs : Tts) : PV → List Sl → List PV → Res (Option PV) :=
  fun x s1 m => (lift (asg tg x s1) s1 m).bnd fun s2 _ m => (evall S.G S.cf ifs s2 m).nox.bnd fun c s3 m => if c then (ev S.G S.cf elt s3 m).bnd fun y s4 m => .ok (some y) (RA.wipe s4 own) m else .ok none (RA.wipe s3 own) m
theorem xs_asl {i : Nat} {own : List Nat} {elt : Ex} {tg : Tg} {it : It} {ifs : Tts} {s : List Sl} {m : List PV} : xs S.G S.cf (.asl i own elt tg it ifs) s m = (evi S.G S.cf it s m).bnd fun xs s m => if Nat.ble xs.length SZ then ((lcL (lcGx S own elt tg ifs) xs (RA.wipe s own) m).unx).bnd fun ys s1 m => .ok .nx (setS (RA.rest s s1 own) i (.lst ys)) m else .stk := by
  conv => lhs; unfold RA.xs
  rfl
theorem lcx_wish {i : Nat} {own : List Nat} {elt : Ex} {tg : Tg} {it : It} {ifs : Tts} (hsl : ∀ i ∈ tg.sl, i ∈ own) {σ : L2.St} {H : Hp} {Dn : Ends} (h : tS S.T S.C W (xs S.G S.cf (.asl i own elt tg it ifs)) Dn σ H) :
    tLc (tI S.T S.C W (sI S it)) (tG S.T tg) (tT S.T S.C W0 (evall S.G S.cf ifs)) (tE S.T S.C (fun c d _ H' => W c d σ H') (sE S elt)) own σ H (fun x H1 => gName i x σ H1 Dn.nx) := by
  obtain ⟨w0, sl0, mu0, hH, F0, P⟩ := h
  rw [xs_asl] at P
  refine ⟨w0, sl0, mu0, hH, F0, (P.bndE F0.wok σ).mono fun ps s mu1 w1 e1 F1 P1 J hJ D hD => ?_⟩
  by_cases hz : Nat.ble ps.length SZ = true
  case neg => rw [if_neg hz] at P1; exact P1.elim
  rw [if_pos hz] at P1
  have hz : ps.length ≤ 16777216 := Nat.le_of_ble_eq_true hz
  -- what the turns' result wishes for
  let R : List PV → List Sl → List PV → Wd → Prop := fun ys s1 m1 w' => ∀ acc, w'.H D = some (.lst acc) → w'.mb D → ¬ w'.wr D → Reps S.T w' ys acc → gName i (.ref D) σ w'.H Dn.nx
  have hk : Pkx S.T S.C (fun c d H' => W c d σ H') (L2.wipe σ own) w1 (lcL (lcGx S own elt tg ifs) ps (RA.wipe s own) mu1) R := by
    generalize lcL (lcGx S own elt tg ifs) ps (RA.wipe s own) mu1 = r at P1
    cases r with
    | stk => exact P1
    | exc e s' m' =>
      intro cls d w' ex ok' cr hl rx
      have P1 : ∀ cls d σ' w', Ext w1 w' → FRel S.T w' σ' (s'.map fun _ => Sl.un) m' → RepX S.T S.C w' e cls d → W cls d σ' w'.H := P1
      refine P1 cls d σ w' ex ?_ rx
      have no : ∀ {i : Nat} {x : Sl}, (s'.map fun _ => Sl.un)[i]? = some x → x = .un := fun {i x} h => by
        rw [List.getElem?_map] at h
        obtain ⟨_, _, rfl⟩ := Option.map_eq_some_iff.mp h
        rfl
      exact ⟨ok', by rw [List.length_map, hl, wipe_length], fun i p h => (by cases no h), fun i p h => (by cases no h), fun i j p q a h => (by cases no h), cr, fun i c fs h => (by cases no h)⟩
    | ok ys s1 m1 =>
      intro w' ex F' acc h1 h2 h3 h4
      have P1 : ∀ σ' w', Ext w1 w' → FRel S.T w' σ' (setS (RA.rest s s1 own) i (.lst ys)) m1 → endsP S.T Dn .nx σ' w' := P1
      have F2 := (F1.rest ex F')
      have F3 := F2.free (D := D) h3 h2
      have ex' : Ext w1 (w'.free D) := ⟨ex.pre, ex.keep, ex.trk, fun a h => ex.mt a h.1, fun a h k => ⟨ex.mkp a h k, fun e => F1.wok.mtr a h (e ▸ hD)⟩, ex.ws, ex.xs⟩
      have rD : RepV S.T (w'.free D) (.lst ys) (.ref D) := by
        simp only [RepV]
        exact ⟨D, acc, rfl, h1, fun z => z.2 rfl, reps_free F2 h3 h2 h4⟩
      exact P1 (σ.set i (some (.ref D))) (w'.free D) ex' (F3.set i rD)
  have FL := (F1.wipe own).lay hD
  refine ⟨fun i n H' => n = ps.length - i ∧ i ≤ ps.length ∧ ∃ w sl mu dn acc, w.H = H' ∧ Ext w1 w ∧ w.H D = some (.lst acc) ∧ w.mb D ∧ ¬ w.wr D ∧ Reps S.T w dn acc ∧ dn.length ≤ i ∧ FRel S.T w (L2.wipe σ own) sl mu ∧
    Pkx S.T S.C (fun c d H' => W c d σ H') (L2.wipe σ own) w1 (lcL (lcGx S own elt tg ifs) (ps.drop i) sl mu) (fun ys s1 m1 w' => R (dn ++ ys) s1 m1 w'), ⟨ps.length, by simp, Nat.zero_le _, w1.lay D, RA.wipe s own, mu1, [], [], rfl, lay_ext hD, by show upd w1.H D _ D = _; rw [upd_same], .inr rfl, fun z => F1.wok.mtr D (F1.wok.sub D z) hD, by simp only [Reps], Nat.zero_le _, FL, by simpa using hk⟩, ?_⟩
  rintro i n H' ⟨rfl, hi, w, sl, mu, dn, acc, rfl, ex, hDa, hDm, hDw, rdn, hdn, F, pk⟩
  by_cases hlt : i < ps.length
  case neg =>
    have e : i = ps.length := by omega
    subst e
    refine .inl ⟨hJ.stop w ex, ?_⟩
    rw [List.drop_length] at pk
    have pk : ∀ w', Ext w1 w' → FRel S.T w' (L2.wipe σ own) sl mu → R (dn ++ []) sl mu w' := pk
    rw [List.append_nil] at pk
    exact pk w ex F acc hDa hDm hDw rdn
  have hp : ps[i]? = some ps[i] := List.getElem?_eq_getElem hlt
  refine .inr ⟨hJ.go i ps[i] w ex hp, fun H' => ∃ w sl mu dn acc, w.H = H' ∧ Ext w1 w ∧ w.H D = some (.lst acc) ∧ w.mb D ∧ ¬ w.wr D ∧ Reps S.T w dn acc ∧ dn.length ≤ i + 1 ∧ FRel S.T w (L2.wipe σ own) sl mu ∧
    Pkx S.T S.C (fun c d H' => W c d σ H') (L2.wipe σ own) w1 (lcL (lcGx S own elt tg ifs) (ps.drop (i + 1)) sl mu) (fun ys s1 m1 w' => R (dn ++ ys) s1 m1 w'), fun H' h => ⟨ps.length - (i + 1), by omega, rfl, hlt, h⟩, fun x H' hy => ?_⟩
  obtain ⟨w2, rfl, hw2, rx⟩ := hJ.yld i ps[i] w x H' ex F.wok hp hy
  have step : Ext w w2 ∧ FRel S.T w2 (L2.wipe σ own) sl mu := by
    rcases hw2 with rfl | ⟨a, o, ha, rfl⟩
    · exact ⟨Ext.refl _, F⟩
    · exact ⟨Wd.put_ext ha, F.put ha⟩
  obtain ⟨e2, F2⟩ := step
  -- D stands from here on
  have stand : ∀ {w3 : Wd}, Ext w w3 → Ext w1 w3 ∧ w3.H D = some (.lst acc) ∧ w3.mb D ∧ ¬ w3.wr D ∧ Reps S.T w3 dn acc := fun {w3} e3 =>
    ⟨ex.trans F1.wok e3, e3.keep D _ hDa hDw, e3.mkp D hDm hDw, fun z => (e3.ws D z).elim hDw fun q => (by rw [hDa] at q; cases q), Reps.ext F.wok e3 _ _ rdn⟩
  rw [List.drop_eq_getElem_cons hlt] at pk
  unfold lcL at pk
  unfold lcGx at pk
  rw [Res.bnd_assoc] at pk
  obtain ⟨s2, ha⟩ : ∃ s2, asg tg ps[i] sl = some s2 := by
    cases q : asg tg ps[i] sl with
    | none => rw [q] at pk; exact pk.elim
    | some s2 => exact ⟨s2, rfl⟩
  rw [ha] at pk
  have pk : Pkx S.T S.C (fun c d H' => W c d σ H') (L2.wipe σ own) w1 (((evall S.G S.cf ifs s2 mu).nox.bnd fun c s3 m => if c then (ev S.G S.cf elt s3 m).bnd fun y s4 m => .ok (some y) (RA.wipe s4 own) m else .ok none (RA.wipe s3 own) m).bnd fun o s m => (lcL (lcGx S own elt tg ifs) (ps.drop (i + 1)) s m).bnd fun ys s m => .ok (match o with | some y => y :: ys | none => ys) s m) (fun ys s1 m1 w' => R (dn ++ ys) s1 m1 w') := pk
  rw [Res.bnd_assoc] at pk
  refine ⟨w2, sl, mu, ps[i], s2, rfl, F2, rx, ha, fun σ2 Fσ hw => ?_⟩
  have hwe : L2.wipe σ2 own = L2.wipe σ own := by rw [hw own hsl, wipe_wipe]
  refine ⟨hwe, w2, s2, mu, rfl, Fσ, (pk.bndN σ2 w2).mono fun c s3 m3 w3 e3 F3 pk3 => ?_⟩
  cases c with
  | false =>
    have pk3 : Pkx S.T S.C (fun c d H' => W c d σ H') (L2.wipe σ own) w1 ((lcL (lcGx S own elt tg ifs) (ps.drop (i + 1)) (RA.wipe s3 own) m3).bnd fun ys s m => .ok ys s m) (fun ys s1 m1 w' => R (dn ++ ys) s1 m1 w') := pk3
    obtain ⟨k1, k2, k3, k4, k5⟩ := stand (e2.trans F.wok e3)
    have F3' := F3.wipe own
    rw [hwe] at F3'
    exact ⟨w3, _, m3, dn, acc, rfl, k1, k2, k3, k4, k5, by omega, F3', pk3.map⟩
  | true =>
    have pk3 : Pkx S.T S.C (fun c d H' => W c d σ H') (L2.wipe σ own) w1 (((ev S.G S.cf elt s3 m3).bnd fun y s4 m => .ok (some y) (RA.wipe s4 own) m).bnd fun o s m => (lcL (lcGx S own elt tg ifs) (ps.drop (i + 1)) s m).bnd fun ys s m => .ok (match o with | some y => y :: ys | none => ys) s m) (fun ys s1 m1 w' => R (dn ++ ys) s1 m1 w') := pk3
    rw [Res.bnd_assoc] at pk3
    rw [if_pos rfl]
    refine ⟨w3, s3, m3, rfl, F3, (pk3.bnd (σ := σ2) (w := w3) (by rw [← hwe, wipe_length]) F1.wok ((stand (e2.trans F.wok e3)).1)).mono fun y s4 m4 w4 e4 F4 pk4 v rv => ?_⟩
    have pk4 : Pkx S.T S.C (fun c d H' => W c d σ H') (L2.wipe σ own) w1 ((lcL (lcGx S own elt tg ifs) (ps.drop (i + 1)) (RA.wipe s4 own) m4).bnd fun ys s m => .ok (y :: ys) s m) (fun ys s1 m1 w' => R (dn ++ ys) s1 m1 w') := pk4
    obtain ⟨k1, k2, k3, k4, k5⟩ := stand ((e2.trans F.wok e3).trans F.wok e4)
    have hacc := k5.len
    have hd4 : w4.H D ≠ none := by rw [k2]; simp
    have F4' := F4.wipe own
    rw [hwe] at F4'
    refine ⟨acc, k2, by rw [sizeLine_eq]; omega, w4.putD D (.lst (acc ++ [v])), _, m4, dn ++ [y], acc ++ [v], rfl, ?_, by show upd w4.H D _ D = _; rw [upd_same], k3, k4, ?_, by simp; omega, F4'.putD k4 k3 hd4, ?_⟩
    · exact ⟨k1.pre, fun a o h k => by show upd w4.H D _ a = _; rw [upd_ne (ne_of_none h hD)]; exact k1.keep a o h k, fun a h => (ext_putD k4 k3 hd4).trk a (k1.trk a h), k1.mt, k1.mkp, k1.ws, k1.xs⟩
    · exact (reps_putD F4 k4 k3 hd4 k5).append (by simp only [Reps]; exact ⟨v, [], rfl, rep_putD F4 k4 k3 hd4 rv, rfl⟩)
    · have := pk4.map
      simpa using this
theorem ss_asl (x : XS S C sc fb W X) (hc : C.hot = false) {i : Nat} {own : List Nat} {elt : Ex} {tg : Tg} {it : It} {ifs : Tts} {n : Str} {p : Pos} {y tge iter : Expr} {fs : List Expr} {scope : Scope} {pos spos : Pos} (hi' : C.N[i]? = some n) (hsame : lcSame sc n p (.ListComp y [⟨tge, iter, fs, 0⟩] scope pos) = true)
    (hown : (ownOf C.N own).map (·.2) = own) (hb : blkC C.N sc scope (ownOf C.N own) = true) (hsl : ∀ i ∈ tg.sl, i ∈ own) (hi : SI S W X it tge iter) (hn : notSet iter = true)
    (hg : ∀ (s : Shared) (H : Hp) (A : Addr) (cl : List (Str × Addr)) (fp : List Addr) (E : Value → Shared → Prop), PG ((X.blk s H scope (compEnvC scope cl A X.env) fp).wish E) tge (tG S.T tg))
    (ht : ∀ (s : Shared) (H : Hp) (A : Addr) (cl : List (Str × Addr)) (fp : List Addr) (E : Value → Shared → Prop), PTs ((X.blk s H scope (compEnvC scope cl A X.env) fp).wish E) fs (tT S.T S.C W0 (evall S.G S.cf ifs)))
    (he : ∀ (s : Shared) (H : Hp) (A : Addr) (cl : List (Str × Addr)) (fp : List Addr) (E : Value → Shared → Prop) (W' : WX), L2N.Takes ((X.blk s H scope (compEnvC scope cl A X.env) fp).wish E) W' → SE S W' ((X.blk s H scope (compEnvC scope cl A X.env) fp).wish E) elt y) :
    SS S W X (.asl i own elt tg it ifs) (.Assign [.Name n p] (.ListComp y [⟨tge, iter, fs, 0⟩] scope pos) spos) := by
  simp only [lcSame, Bool.and_eq_true, Bool.not_eq_true'] at hsame
  obtain ⟨⟨h1, h2⟩, h3⟩ := hsame
  have hloc : X.env.scope.names.lookup n = some .local := isLoc_of x.ok (by unfold isLoc; exact h1)
  refine PS.imp (ps_setLcX (te := fun W' => tE S.T S.C W' (sE S elt)) (x.stk hc) x.frm x.tk (x.ok.calm hc) x.ok.nd (by rw [x.ok.N]; exact hi') hloc (sw_true (by rw [x.ok.sc]; exact x.kd) hloc h2 h3) hi (by rw [x.ok.N, x.ok.sc]; exact blkOk_by hb) hg ht he (noFold hn)) fun D σ H h => ?_
  rw [hown]
  exact lcx_wish hsl h

/-- a list of one's own, locked so far -/
theorem FRel.ownD {T : Tb} {w : Wd} {σ : L2.St} {sl : List Sl} {mu : List PV} {q : Addr} {xs : List V} {l : List PV} {i : Nat} (F : FRel T w σ sl mu) (hq : w.H q = some (.lst xs)) (hm : w.mb q) (hw : ¬ w.wr q) (r : Reps T w l xs) : FRel T (w.wrs fun a => w.wr a ∨ a = q) (σ.set i (some (.ref q))) (sl.set i (.ow (.lst l))) mu := by
  have hl := F.len
  have nw : ∀ {a : Addr}, w.wr a → a ≠ q := fun h z => hw (z ▸ h)
  have nm : q ∉ w.m := fun z => nw (F.cellOf z) rfl
  have rv : ∀ {p : PV} {v : V}, RepV T w p v → RepV T (w.wrs fun a => w.wr a ∨ a = q) p v := fun {p v} h => RepV.wrs p v h
  have rs : ∀ {ps : List PV} {vs : List V}, Reps T w ps vs → Reps T (w.wrs fun a => w.wr a ∨ a = q) ps vs := fun {ps vs} h => Reps.wrs ps vs h
  refine ⟨lockT F hm, by simp [hl], fun j p hj => ?_, fun j p hj => ?_, fun j j' p p' a hj hj' s1 s2 => ?_, ⟨F.cel.mlen, fun n c a h1 h2 => ?_, F.cel.inj⟩, fun j c fs hj => ?_⟩
  · by_cases z : i = j
    · subst z
      by_cases y : i < sl.length
      · rw [List.getElem?_set_self y] at hj; cases hj
      · rw [List.getElem?_eq_none (by simp; omega)] at hj; cases hj
    · rw [List.getElem?_set_ne z] at hj
      obtain ⟨v, h1, h2⟩ := F.va j p hj
      exact ⟨v, by rw [List.getElem?_set_ne z]; exact h1, rv h2⟩
  · by_cases z : i = j
    · subst z
      by_cases y : i < sl.length
      · rw [List.getElem?_set_self y] at hj
        cases hj
        exact ⟨q, by rw [List.getElem?_set_self (by omega)], ⟨xs, hq, rs r⟩, .inr rfl, nm⟩
      · rw [List.getElem?_eq_none (by simp; omega)] at hj; cases hj
    · rw [List.getElem?_set_ne z] at hj
      obtain ⟨a, h1, h2, h3, h4⟩ := F.ow j p hj
      refine ⟨a, by rw [List.getElem?_set_ne z]; exact h1, ?_, .inl h3, h4⟩
      cases p with
      | lst l' =>
        obtain ⟨ys, k1, k2⟩ := h2
        exact ⟨ys, k1, rs k2⟩
      | _ => exact h2.elim
  · have old : ∀ {j : Nat} {p : PV} {a : Addr}, i ≠ j → (sl.set i (.ow (.lst l)))[j]? = some (.ow p) → (σ.set i (some (.ref q)))[j]? = some (some (.ref a)) → a ≠ q := fun {j p a} z hj s1 => by
      rw [List.getElem?_set_ne z] at hj s1
      obtain ⟨b, h1, _, h3, _⟩ := F.ow j p hj
      rw [h1] at s1; cases s1
      exact nw h3
    have here : ∀ {a : Addr}, (σ.set i (some (.ref q)))[i]? = some (some (.ref a)) → a = q := fun {a} s1 => by
      by_cases y : i < σ.length
      · rw [List.getElem?_set_self y] at s1; cases s1; rfl
      · rw [List.getElem?_eq_none (by simp; omega)] at s1; cases s1
    by_cases z : i = j
    · subst z
      by_cases z' : i = j'
      · exact z'
      · exact absurd (here s1) (old z' hj' s2)
    · by_cases z' : i = j'
      · subst z'
        exact absurd (here s2) (old z hj s1)
      · rw [List.getElem?_set_ne z] at hj s1
        rw [List.getElem?_set_ne z'] at hj' s2
        exact F.ows j j' p p' a hj hj' s1 s2
  · obtain ⟨h3, h4⟩ := F.cel.cl n c a h1 h2
    refine ⟨?_, .inl h4⟩
    cases c with
    | lst l' =>
      obtain ⟨ys, k1, k2⟩ := h3
      exact ⟨ys, k1, rs k2⟩
    | obj c' fs =>
      obtain ⟨dx, vs, k1, k2, k3⟩ := h3
      exact ⟨dx, vs, k1, k2, rs k3⟩
    | dic ks vs =>
      obtain ⟨h0, es, k1, k2, k3, k4, k5⟩ := h3
      exact ⟨h0, es, k1, k2, k3, k4, rs k5⟩
    | cl j => exact h3
    | _ => exact h3.elim
  · by_cases z : i = j
    · subst z
      by_cases y : i < sl.length
      · rw [List.getElem?_set_self y] at hj; cases hj
      · rw [List.getElem?_eq_none (by simp; omega)] at hj; cases hj
    · rw [List.getElem?_set_ne z] at hj
      obtain ⟨a, d, vs, k1, k2, k3, k4, k5, k6⟩ := F.ex j c fs hj
      exact ⟨a, d, vs, by rw [List.getElem?_set_ne z]; exact k1, k2, k3, k4, k5, rs k6⟩
theorem ss_owe (x : XS S C sc fb W X) (hc : C.hot = false) {i j : Nat} {b : Ex} {n n' : Str} {p p' pt pt2 pos lp : Pos} {kt k2} {v : Expr} (hi : C.N[i]? = some n) (hj : C.N[j]? = some n') (h1 : isLoc sc n = true) (h2 : isLoc sc n' = true) (hl : (p.line == p'.line) = true) (hn : (n == n') = false) (s2 : notStar v = true) (f : ([.List [] lp, v].all (foldedForSure 8)) = false) (c : ([.List [] lp, v].all (constantsAlone 8)) = false)
    (hb : SE S W X b v) : SS S W X (.owe i j b) (.Assign [.Tuple [.Name n p, .Name n' p'] kt pt] (.Tuple [.List [] lp, v] k2 pt2) pos) := by
  have hne : n ≠ n' := fun e => by rw [e] at hn; simp at hn
  have hij : i ≠ j := fun e => by rw [e, hj] at hi; cases hi; exact hne rfl
  refine PS.imp (ps_par (x.ok.calm hc) x.ok.nd (by rw [x.ok.N]; exact hi) (by rw [x.ok.N]; exact hj) hij (isLoc_of x.ok h1) (isLoc_of x.ok h2) (pa_cons (pe_lst pa_nil) (pa_cons hb pa_nil (star_cons s2)) rfl) (par_sw x h1 h2 hl hn rfl s2 f c) rfl) fun D σ H h => ?_
  obtain ⟨w, sl, mu, rfl, F, P⟩ := h
  have P : Psf S.T S.C W w ((ev S.G S.cf b sl mu).bnd fun y s m => .ok .nx (setS (s.set i (.ow (.lst []))) j y) m) D := P
  refine ⟨Nat.zero_le _, fun q hq => ?_⟩
  have FL := F.lay hq
  have eL := lay_ext hq
  refine ⟨w.lay q, sl, mu, rfl, FL, (P.bndK F.wok eL σ).mono fun y sl1 mu1 w1 e1 F1 P1 u rv => ?_⟩
  have q0 : (w.lay q).H q = some (.lst []) := by show upd w.H q _ q = _; rw [upd_same]
  have nq : ¬ w.wr q := fun z => F.wok.mtr q (F.wok.sub q z) hq
  have q1 : w1.H q = some (.lst []) := e1.keep q _ q0 nq
  have q2 : w1.mb q := e1.mkp q (.inr rfl) nq
  have q3 : ¬ w1.wr q := fun z => (e1.ws q z).elim nq fun z => by
    rw [q0] at z; cases z
  have F2 := F1.ownD (i := i) (l := []) q1 q2 q3 (by simp only [Reps])
  have rv2 : RepV S.T (w1.wrs fun a => w1.wr a ∨ a = q) y u := RepV.wrs y u rv
  have e2 := eL.trans F.wok e1
  exact ⟨.ref q, u, rfl, P1.at (w' := w1.wrs fun a => w1.wr a ∨ a = q) ⟨e2.pre, e2.keep, e2.trk, e2.mt, e2.mkp, fun a h => h.elim (e2.ws a) fun z => .inr (z ▸ hq), e2.xs⟩ (F2.set j rv2)⟩
end
end RA

/-! Soundness: control flow. -/
namespace RA
open PySem L2

theorem Pss.ext {α : Type} {T : Tb} {Cl : Nat → Value} {W : WX} {w w' : Wd} {r : Res α} {P : α → List Sl → List PV → L2.St → Wd → Prop} (ok : WOk w) (e : Ext w w') (h : Pss T Cl W w r P) : Pss T Cl W w' r P := by
  cases r with
  | stk => exact h
  | ok a sl mu => exact fun σ w2 e2 F => h σ w2 (e.trans ok e2) F
  | exc x sl mu => exact fun cls d σ w2 e2 F rx => h cls d σ w2 (e.trans ok e2) F rx
section
variable {S : Gs} {C : Ck} {sc : Scope} {fb : Str → Bool} {X : Cx} {W : WX}
theorem ss_asgL (x : XS S C sc fb W X) (hc : C.hot = false) {i : Nat} {own : List Nat} {elt : Ex} {tg : Tg} {it : It} {ifs : Tts} {n : Str} {p : Pos} {y tge iter : Expr} {fs : List Expr} {scope : Scope} {pos spos : Pos} (hi' : C.N[i]? = some n) (hsame : lcSame sc n p (.ListComp y [⟨tge, iter, fs, 0⟩] scope pos) = true)
    (hown : (ownOf C.N own).map (·.2) = own) (hb : blkC C.N sc scope (ownOf C.N own) = true) (hsl : ∀ i ∈ tg.sl, i ∈ own) (hi : SI S W X it tge iter) (hn : notSet iter = true)
    (hg : ∀ (s : Shared) (H : Hp) (A : Addr) (cl : List (Str × Addr)) (fp : List Addr), PG (X.blk s H scope (compEnvC scope cl A X.env) fp) tge (tG S.T tg))
    (ht : ∀ (s : Shared) (H : Hp) (A : Addr) (cl : List (Str × Addr)) (fp : List Addr), PTs (X.blk s H scope (compEnvC scope cl A X.env) fp) fs (tT S.T S.C W0 (evall S.G S.cf ifs)))
    (he : ∀ (s : Shared) (H : Hp) (A : Addr) (cl : List (Str × Addr)) (fp : List Addr), SE S W0 (X.blk s H scope (compEnvC scope cl A X.env) fp) elt y) :
    SS S W X (.asg i (.lc own elt tg it ifs)) (.Assign [.Name n p] (.ListComp y [⟨tge, iter, fs, 0⟩] scope pos) spos) := by
  simp only [lcSame, Bool.and_eq_true, Bool.not_eq_true'] at hsame
  obtain ⟨⟨h1, h2⟩, h3⟩ := hsame
  have hloc : X.env.scope.names.lookup n = some .local := isLoc_of x.ok (by unfold isLoc; exact h1)
  refine PS.imp (ps_setLc (x.ok.calm hc) x.ok.nd (by rw [x.ok.N]; exact hi') hloc (sw_true (by rw [x.ok.sc]; exact x.kd) hloc h2 h3) hi (by rw [x.ok.N, x.ok.sc]; exact blkOk_by hb) hg ht he (noFold hn)) fun D σ H h => ?_
  obtain ⟨w, sl, mu, hH, F, P⟩ := h
  rw [hown]
  show tLc _ _ _ _ own σ H _
  refine lc_wish hsl (tS.bndE hH F P fun q u sl1 mu1 w1 e1 F1 rv P1 => ?_)
  exact P1.now (F1.set i rv)
theorem ss_ift {t : Tt} {a b : Sms} {c : Expr} {u v : List Stmt} {pos : Pos} (ht : ST S W X t c) (ha : SSs S W X a u) (hb : SSs S W X b v) : SS S W X (.ift t a b) (.If c u v pos) := by
  refine PS.imp (ps_if ht ha hb) fun D σ H h => ?_
  obtain ⟨w, sl, mu, hH, F, P⟩ := h
  refine tS.bndT hH F P fun k sl1 mu1 w1 e1 F1 P1 => ?_
  cases k with
  | true => exact ⟨w1, sl1, mu1, rfl, F1, P1⟩
  | false => exact ⟨w1, sl1, mu1, rfl, F1, P1⟩
theorem ss_whl (x : XS S C sc fb W X) {t : Tt} {b : Sms} {c : Expr} {v : List Stmt} {pos : Pos} (ht : ST S W X t c) (hb : SSs S W X b v) : SS S W X (.whl t b) (.While c v [] pos) := by
  refine PS.imp (ps_while x.hp ht hb) fun D σ H h => ?_
  obtain ⟨w, sl, mu, hH, F, P⟩ := h
  have P : Psf S.T S.C W w (whlN (fun s m => evt S.G S.cf t s m) (fun s m => xss S.G S.cf b s m) WF sl mu) D := P
  refine ⟨fun m σ H => ∃ w sl mu, w.H = H ∧ FRel S.T w σ sl mu ∧ Psf S.T S.C W w (whlN (fun s m => evt S.G S.cf t s m) (fun s m => xss S.G S.cf b s m) m sl mu) D, ⟨WF, w, sl, mu, hH, F, P⟩, ?_⟩
  rintro m σ H ⟨w, sl, mu, hH, F, P⟩
  cases m with
  | zero => exact P.elim
  | succ m =>
    unfold whlN at P
    refine tS.bndT hH F P fun k sl1 mu1 w1 e1 F1 P1 => ?_
    cases k with
    | false => exact P1.now F1
    | true =>
      rw [if_pos rfl] at P1 ⊢
      refine ⟨fun σ' H' => ∃ w sl mu, w.H = H' ∧ FRel S.T w σ' sl mu ∧ Psf S.T S.C W w (whlN (fun s m => evt S.G S.cf t s m) (fun s m => xss S.G S.cf b s m) m sl mu) D, fun σ' H' h => ⟨m, Nat.lt_succ_self _, h⟩, w1, sl1, mu1, rfl, F1, ?_⟩
      refine (P1.bnd F1.wok).mono fun f sl2 mu2 σ2 w2 e2 F2 P2 => ?_
      cases f with
      | nx => exact ⟨w2, sl2, mu2, rfl, F2, P2⟩
      | ct => exact ⟨w2, sl2, mu2, rfl, F2, P2⟩
      | bk => exact P2.now F2
      | rt p => exact P2.now F2
theorem ss_forA {tg : Tg} {it : It} {b : Sms} {tge iter : Expr} {v : List Stmt} {pos : Pos} (hp : PS X (.For tge iter v [] pos) (tFor (tI S.T S.C W (sI S it)) (tG S.T tg) (tS S.T S.C W (xss S.G S.cf b)))) : SS S W X (.for tg it b) (.For tge iter v [] pos) := by
  refine PS.imp hp fun D σ H h => ?_
  obtain ⟨w0, sl0, mu0, hH, F0, P⟩ := h
  have P : Psf S.T S.C W w0 ((evi S.G S.cf it sl0 mu0).bnd fun l s m => forL (fun x s m => (lift (asg tg x s) s m).bnd fun s' _ m => xss S.G S.cf b s' m) l s m) D := P
  refine ⟨w0, sl0, mu0, hH, F0, (P.bndE F0.wok σ).mono fun ps sl1 mu1 w1 e1 F1 P1 J hJ => ?_⟩
  generalize hgb : (fun (x : PV) (s : List Sl) (m : List PV) => (lift (asg tg x s) s m).bnd fun s' _ m => xss S.G S.cf b s' m) = g at P1
  refine ⟨fun i m σ H => m = ps.length - i ∧ i ≤ ps.length ∧ ∃ w sl mu, w.H = H ∧ Ext w1 w ∧ FRel S.T w σ sl mu ∧ Psf S.T S.C W w (forL g (ps.drop i) sl mu) D, ⟨ps.length, by simp, Nat.zero_le _, w1, sl1, mu1, rfl, Ext.refl w1, F1, by simpa using P1⟩, ?_⟩
  rintro i m σ H ⟨rfl, hi, w, sl, mu, rfl, ex, F, P⟩
  by_cases hlt : i < ps.length
  case neg =>
    have e : i = ps.length := by omega
    subst e
    rw [List.drop_length] at P
    exact .inl ⟨hJ.stop w ex, P.now F⟩
  have hp : ps[i]? = some ps[i] := List.getElem?_eq_getElem hlt
  refine .inr ⟨hJ.go i ps[i] w ex hp, fun σ H => ∃ w sl mu, w.H = H ∧ Ext w1 w ∧ FRel S.T w σ sl mu ∧ Psf S.T S.C W w (forL g (ps.drop (i + 1)) sl mu) D, fun σ' H' h => ⟨ps.length - (i + 1), by omega, rfl, hlt, h⟩, fun y H' hy => ?_⟩
  obtain ⟨w2, rfl, hw2, rx⟩ := hJ.yld i ps[i] w y H' ex F.wok hp hy
  have step : Ext w w2 ∧ FRel S.T w2 σ sl mu := by
    rcases hw2 with rfl | ⟨a, o, ha, rfl⟩
    · exact ⟨Ext.refl _, F⟩
    · exact ⟨Wd.put_ext ha, F.put ha⟩
  obtain ⟨e2, F2⟩ := step
  rw [List.drop_eq_getElem_cons hlt] at P
  unfold forL at P
  rw [← hgb] at P
  simp only at P
  rw [Res.bnd_assoc] at P
  obtain ⟨s', ha, P⟩ := P.lift
  rw [hgb] at P
  have P := P.ext F.wok e2
  refine ⟨w2, sl, mu, ps[i], s', rfl, F2, rx, ha, fun σ2 Fσ _ => ⟨w2, s', mu, rfl, Fσ, ?_⟩⟩
  refine (P.bnd F2.wok).mono fun f sl3 mu3 σ3 w3 e3 F3 P3 => ?_
  cases f with
  | nx => exact ⟨w3, sl3, mu3, rfl, ex.trans F1.wok (e2.trans F.wok e3), F3, P3⟩
  | ct => exact ⟨w3, sl3, mu3, rfl, ex.trans F1.wok (e2.trans F.wok e3), F3, P3⟩
  | bk => exact P3.now F3
  | rt p => exact P3.now F3
theorem ss_for (x : XS S C sc fb W X) (hc : C.hot = false) {tg : Tg} {it : It} {b : Sms} {tge iter : Expr} {v : List Stmt} {pos : Pos} (hg : ckG C.N sc fb tg tge = true) (hi : SI S W X it tge iter) (hn : notSet iter = true) (hb : SSs S W X b v) : SS S W X (.for tg it b) (.For tge iter v [] pos) :=
  ss_forA (ps_for x.hp (x.ok.calm hc) hi (s_tg x.ok tg tge hg) hb (noFold hn))
theorem ss_forH (x : XS S C sc fb W X) (hc : C.hot = true) {tg : Tg} {it : It} {b : Sms} {tge iter : Expr} {v : List Stmt} {pos : Pos} (hg : ckG C.N sc fb tg tge = true) (hi : SIH S W X it tge iter) (hn : notSet iter = true) (hb : SSs S W X b v) : SS S W X (.for tg it b) (.For tge iter v [] pos) :=
  ss_forA (L2H.ps_forH x.hp (x.ok.hotc hc) hi (s_tg x.ok tg tge hg) hb (noFold hn))
theorem ss_ret {e : Ex} {v : Expr} {pos : Pos} (he : SE S W X e v) : SS S W X (.ret e) (.Return (some v) pos) := by
  refine PS.imp (ps_ret he) fun D σ H h => ?_
  obtain ⟨w, sl, mu, hH, F, P⟩ := h
  exact tS.bndE hH F P fun q u sl1 mu1 w1 e1 F1 rv P1 => P1.now F1 u rv
theorem ss_exp {e : Ex} {v : Expr} {pos : Pos} (he : SE S W X e v) (hc : noComp v = true) : SS S W X (.exp e) (.Expr v pos) := by
  refine PS.imp (ps_expr he (noSw hc)) fun D σ H h => ?_
  obtain ⟨w, sl, mu, hH, F, P⟩ := h
  exact tS.bndE hH F P fun q u sl1 mu1 w1 e1 F1 rv P1 => P1.now F1
theorem ss_pas {pos : Pos} : SS S W X .pas (.Pass pos) := PS.imp ps_pass fun D σ H h => by
  obtain ⟨w, sl, mu, rfl, F, P⟩ := h
  exact P.now F
theorem ss_brk {pos : Pos} : SS S W X .brk (.Break pos) := PS.imp ps_break fun D σ H h => by
  obtain ⟨w, sl, mu, rfl, F, P⟩ := h
  exact P.now F
theorem ss_cnt {pos : Pos} : SS S W X .cnt (.Continue pos) := PS.imp ps_continue fun D σ H h => by
  obtain ⟨w, sl, mu, rfl, F, P⟩ := h
  exact P.now F
theorem sss_nil : SSs S W X .nil [] := PSs.imp pss_nil fun D σ H h => by
  obtain ⟨w, sl, mu, rfl, F, P⟩ := h
  exact P.now F
theorem sss_cons {s : Sm} {r : Sms} {st : Stmt} {sts : List Stmt} (h1 : SS S W X s st) (h2 : SSs S W X r sts) : SSs S W X (.cons s r) (st :: sts) := by
  refine PSs.imp (pss_cons h1 h2) fun D σ H h => ?_
  obtain ⟨w, sl, mu, hH, F, P⟩ := h
  refine ⟨w, sl, mu, hH, F, ?_⟩
  have P : Psf S.T S.C W w ((xs S.G S.cf s sl mu).bnd fun f s m => (match f with
    | .nx => xss S.G S.cf r s m
    | f => .ok f s m)) D := P
  refine (P.bnd F.wok).mono fun f sl2 mu2 σ2 w2 e2 F2 P2 => ?_
  cases f with
  | nx => exact ⟨w2, sl2, mu2, rfl, F2, P2⟩
  | ct => exact P2.now F2
  | bk => exact P2.now F2
  | rt p => exact P2.now F2

/-! ### match -/
theorem ckPat_ne {x : Str} {z : List Nat} : (z == x.cps.toList) = true ↔ (⟨z.toArray⟩ : Str) = x := by
  constructor
  · intro h
    obtain rfl := eq_of_beq h
    simp
  · rintro rfl
    simp
theorem pat_one (x0 : XOk S C sc fb X) {y : Str} {j p pos} {z : List Nat} {v : Value} {pins : List (Addr × Obj)} {σ : L2.St} {H : Hp} {s : Shared} (I : L2.Inv X pins σ H s) (r : RelV (.str ⟨z.toArray⟩) v) :
    wpAny (model X.prog X.w) X.A (matchPattern (.MatchValue (.Constant (.str y) j p) pos) X.env v) (fun q s1 => q = (if z == y.cps.toList then some [] else none) ∧ L2.Inv X pins σ H s1) X.xe s := by
  refine wpAny_matchPattern_Value (thn (pe_str.run pins s σ H (fun u H1 => u = .str y ∧ H1 = H) I ⟨rfl, rfl⟩) fun u s1 ⟨u', H1, I1, r1, e1, e2⟩ => ?_)
  subst e1 e2
  refine thn (op_eq pins s1 σ H1 _ _ v u (fun w H2 => w = .bl (z == y.cps.toList) ∧ H2 = H1) I1 r r1 ⟨rfl, ?_, rfl⟩) fun c s2 ⟨c', H2, I2, r2, e3, e4⟩ => ?_
  · congr 1
    rw [Bool.eq_iff_iff, ckPat_ne, decide_eq_true_eq]
    exact ⟨fun h => by cases h; rfl, fun h => by rw [h]⟩
  · subst e3 e4
    cases r2
    refine wpAny_truthy_bool ?_
    cases (z == y.cps.toList) <;> exact ⟨rfl, I2⟩
theorem first_all (x0 : XOk S C sc fb X) {z : List Nat} {v : Value} {pins : List (Addr × Obj)} {σ : L2.St} {H : Hp} (r : RelV (.str ⟨z.toArray⟩) v) : ∀ (ks : List (List Nat)) (ps : List Pattern) (s : Shared), ps.length = ks.length → ((ks.zip ps).all fun p => match p.2 with | .MatchValue (.Constant (.str y) _ _) _ => p.1 == y.cps.toList | _ => false) = true → L2.Inv X pins σ H s →
    wpAny (model X.prog X.w) X.A (matchFirst ps X.env v) (fun q s1 => q = (if ks.contains z then some [] else none) ∧ L2.Inv X pins σ H s1) X.xe s
  | [], [], s, _, _, I => wpAny_matchFirst_nil ⟨by simp, I⟩
  | [], _ :: _, s, h, _, _ => by simp at h
  | _ :: _, [], s, h, _, _ => by simp at h
  | k :: ks, p :: ps, s, hl, ha, I => by
    simp only [List.zip_cons_cons, List.all_cons, Bool.and_eq_true] at ha
    obtain ⟨h1, h2⟩ := ha
    split at h1
    · rename_i y _ _ _
      obtain rfl := eq_of_beq h1
      refine wpAny_matchFirst_cons (thn (pat_one x0 I r) fun q s1 ⟨e, I1⟩ => ?_)
      subst e
      by_cases hz : (z == y.cps.toList) = true
      · rw [if_pos hz]
        exact ⟨by rw [List.contains_cons, hz]; rfl, I1⟩
      · rw [if_neg hz]
        refine thn (first_all x0 r ks ps s1 (by simpa using hl) h2 I1) fun q s2 ⟨e, I2⟩ => ⟨?_, I2⟩
        rw [e, List.contains_cons]
        simp only [Bool.not_eq_true] at hz
        rw [hz, Bool.false_or]
    · cases h1
theorem pat_all (x0 : XOk S C sc fb X) {ks : List (List Nat)} {pt : Pattern} (h : ckPat ks pt = true) {z : List Nat} {v : Value} {pins : List (Addr × Obj)} {σ : L2.St} {H : Hp} {s : Shared} (I : L2.Inv X pins σ H s) (r : RelV (.str ⟨z.toArray⟩) v) :
    wpAny (model X.prog X.w) X.A (matchPattern pt X.env v) (fun q s1 => q = (if ks.contains z then some [] else none) ∧ L2.Inv X pins σ H s1) X.xe s := by
  unfold ckPat at h
  split at h
  · obtain rfl := eq_of_beq h
    refine thn (pat_one x0 I r) fun q s1 ⟨e, I1⟩ => ⟨?_, I1⟩
    rw [e]
    simp [List.contains_cons]
  · simp only [Bool.and_eq_true, Bool.not_eq_true', decide_eq_true_eq] at h
    obtain ⟨⟨h1, h2⟩, h3⟩ := h
    refine wpAny_matchPattern_Or (thn (first_all x0 r _ _ s h2 h3 I) fun q s1 ⟨e, I1⟩ => ?_)
    subst e
    split
    · rename_i e
      split at e
      · cases e
      · exact ⟨(if_neg (by assumption)).symm, I1⟩
    · rename_i bs e
      split at e
      · rename_i hc
        cases e
        rename_i ps _
        refine ⟨?_, I1⟩
        rw [if_pos hc]
        simp
      · cases e
  · cases h
/-- cases, on a text -/
def PMs (X : Cx) (ms : List MatchCase) (t : List Nat → TS) : Prop := ∀ (pins : List (Addr × Obj)) (s : Shared) (σ : L2.St) (H : Hp) (D : Ends) (z : List Nat) (v : Value) (first : Bool), L2.Inv X pins σ H s → RelV (.str ⟨z.toArray⟩) v → t z D σ H → wpAny (model X.prog X.w) X.A (matchCases ms X.env v first) (SP X pins D) X.xe s
def SMs (S : Gs) (W : WX) (X : Cx) (a : Mcs) (ms : List MatchCase) : Prop := PMs X ms fun z => tS S.T S.C W (xm S.G S.cf a z)
theorem sm_nil : SMs S W X .nil [] := by
  intro pins s σ H D z v first I r h
  obtain ⟨w, sl, mu, rfl, F, P⟩ := h
  exact wpAny_matchCases_nil ⟨σ, w.H, I, P.now F⟩
theorem sm_cons (x : XS S C sc fb W X) {ks : List (List Nat)} {b : Sms} {r : Mcs} {pt : Pattern} {body : List Stmt} {rest : List MatchCase} (hp : ckPat ks pt = true) (hb : SSs S W X b body) (hr : SMs S W X r rest) : SMs S W X (.cons ks b r) (⟨pt, none, body⟩ :: rest) := by
  intro pins s σ H D z v first I rv h
  obtain ⟨w, sl, mu, rfl, F, P⟩ := h
  have P : Psf S.T S.C W w (if ks.contains z then xss S.G S.cf b sl mu else xm S.G S.cf r z sl mu) D := P
  refine wpAny_matchCases_cons (thn (pat_all x.ok hp I rv) fun q s1 ⟨e, I1⟩ => ?_)
  subst e
  by_cases hz : ks.contains z = true
  · rw [if_pos hz] at P ⊢
    exact wpAny_assignInOrder_none (hb.run pins s1 σ w.H D I1 ⟨w, sl, mu, rfl, F, P⟩)
  · rw [if_neg hz] at P ⊢
    exact hr pins s1 σ w.H D z v false I1 rv ⟨w, sl, mu, rfl, F, P⟩
theorem ss_mat {e : Ex} {cs : Mcs} {v : Expr} {ms : List MatchCase} {pos : Pos} (he : SE S W X e v) (hc : SMs S W X cs ms) : SS S W X (.mat e cs) (.Match v ms pos) := by
  refine ⟨fun pins s σ H D I h => ?_⟩
  obtain ⟨w, sl, mu, hH, F, P⟩ := h
  refine wpAny_Match (thn (he.run pins s σ H (fun y H1 => ∃ z, y = .str ⟨z.toArray⟩ ∧ tS S.T S.C W (xm S.G S.cf cs z) D σ H1) I (tS.bndE hH F P fun q u sl1 mu1 w1 e1 F1 rv P1 => ?_)) fun u s1 ⟨y, H1, I1, r1, z, hz, q⟩ => ?_)
  · cases q with
    | str z =>
      simp only [RepV] at rv
      exact ⟨z, rv.1, w1, sl1, mu1, rfl, F1, P1⟩
    | _ => exact P1.elim
  · subst hz
    exact hc pins s1 σ H1 D z u true I1 r1 q
end


section
/-- what gets stuck is never asked -/
theorem ss_stuck {S : Gs} {W : WX} {X : Cx} {a : Sm} {st : Stmt} (h : ∀ sl mu, xs S.G S.cf a sl mu = .stk) : SS S W X a st := ⟨fun pins s σ H D I q => by
  obtain ⟨w, sl, mu, hH, F, P⟩ := q
  have P : Psf S.T S.C W w (xs S.G S.cf a sl mu) D := P
  rw [h sl mu] at P
  exact P.elim⟩
variable {S : Gs} {C : Ck} {sc : Scope} {fb : Str → Bool} {X : Cx} {W : WX}
theorem cxN {P : Program} {w : World} {outer : List Env} {H : Hp} {s : Shared} {e : Value} {s' : Shared} (h : L2N.CX P w outer H s (fun _ _ _ => False) e s') : False := by
  obtain ⟨_, _, _, _, _, _, _, _, _, _, _, _, h⟩ := h
  exact h
theorem XS.tr {pn : List (Addr × Obj)} {xe : Value → Shared → Prop} {W' : WX} (x : XS S C sc fb W X) (hc : C.hot = false) (tk : L2N.Takes (X.tr pn xe) W') (hp : PassesOwn (model X.prog X.w) X.A X.env xe) : XS S C sc fb W' (X.tr pn xe) where
  ok := ⟨x.ok.hK, x.ok.pr, x.ok.wl, x.ok.sc, x.ok.fb, x.ok.N, x.ok.nd, x.ok.calm, (fun h => by rw [hc] at h; cases h), x.ok.gd, x.ok.roomH, fun f a h q => (x.ok.fnsH f a h q).same, x.ok.room, x.ok.un, x.ok.glob, x.ok.fa, fun h f a q => (x.ok.fns h f a q).same, fun h f c n q => by
    obtain ⟨a, k1, k2, k3, k4⟩ := x.ok.mts h f c n q
    exact ⟨a, k1, k2, k3.same, k4⟩, x.ok.cls, x.ok.atr, x.ok.nom, fun c y ks q => (x.ok.xcs c y ks q).same, x.ok.exm, x.ok.xfl, x.ok.nx, x.ok.icl, x.ok.cold, (fun p hp => by
      rw [x.ok.cold hc] at hp
      cases hp), x.ok.blt, fun h => (x.ok.lx h).same⟩
  tk := tk
  hp := hp
  kd := x.kd
  stk := x.stk
  frm := x.frm
/-- the setting of a handler's suite -/
theorem RepX.at {T : Tb} {Cl : Nat → Value} {E : List (Nat × Addr × Nat × Addr)} {w : Wd} {e : PV} {cls : Value} {d : Option Addr} : RepX (T.at E) Cl w e cls d ↔ RepX T Cl w e cls d :=
  ⟨fun ⟨c, fs, d', vs, h1, h2, h3, h4, h5, h6, h7, h8⟩ => ⟨c, fs, d', vs, h1, h2, h3, h4, h5, h6, h7, (Reps.at fs vs).mp h8⟩, fun ⟨c, fs, d', vs, h1, h2, h3, h4, h5, h6, h7, h8⟩ => ⟨c, fs, d', vs, h1, h2, h3, h4, h5, h6, h7, (Reps.at fs vs).mpr h8⟩⟩
theorem spF_at {S : Gs} {E : List (Nat × Addr × Nat × Addr)} {f : Nat} : spF { S with T := S.T.at E } f = spF S f := by
  funext vs H Q EE
  apply propext
  unfold spF
  constructor
  · rintro ⟨w, ps, mu, h1, h2, h3, h4, h5, h6⟩
    refine ⟨w, ps, mu, h1, h2, CRel.at.mp h3, h4, (Reps.at ps vs).mp h5, ?_⟩
    have h6 : (match S.cf f ps mu with
      | .stk => False
      | .ok p mu' => ∀ v w', Ext w w' → WOk w' → CRel (S.T.at E) w' mu' → RepV (S.T.at E) w' p v → Q v w'.H
      | .exc e mu' => ∀ cls d w', Ext w w' → WOk w' → CRel (S.T.at E) w' mu' → RepX (S.T.at E) S.C w' e cls d → EE cls d w'.H) := h6
    generalize S.cf f ps mu = r at h6 ⊢
    cases r with
    | stk => exact h6
    | ok p mu' => exact fun v w' a b c d => h6 v w' a b (CRel.at.mpr c) ((RepV.at p v).mpr d)
    | exc e mu' => exact fun cls d w' a b c q => h6 cls d w' a b (CRel.at.mpr c) (RepX.at.mpr q)
  · rintro ⟨w, ps, mu, h1, h2, h3, h4, h5, h6⟩
    refine ⟨w, ps, mu, h1, h2, CRel.at.mpr h3, h4, (Reps.at ps vs).mpr h5, ?_⟩
    show (match S.cf f ps mu with
      | .stk => False
      | .ok p mu' => ∀ v w', Ext w w' → WOk w' → CRel (S.T.at E) w' mu' → RepV (S.T.at E) w' p v → Q v w'.H
      | .exc e mu' => ∀ cls d w', Ext w w' → WOk w' → CRel (S.T.at E) w' mu' → RepX (S.T.at E) S.C w' e cls d → EE cls d w'.H)
    generalize S.cf f ps mu = r at h6 ⊢
    cases r with
    | stk => exact h6
    | ok p mu' => exact fun v w' a b c d => h6 v w' a b (CRel.at.mp c) ((RepV.at p v).mp d)
    | exc e mu' => exact fun cls d w' a b c q => h6 cls d w' a b (CRel.at.mp c) (RepX.at.mp q)
theorem XS.suite {a : Addr} {oe : Obj} {pn : List (Addr × Obj)} {E : List (Nat × Addr × Nat × Addr)} (x : XS S C sc fb W X) (hz : ∃ cls d, L2N.Zn cls d oe) (hd : ∃ vs, oe.data = .fields vs) (hE : ∀ p ∈ E, p.2.2.1 < C.xcn.length ∧ ∃ o, (p.2.1, o) ∈ (a, oe) :: pn ∧ L2N.Zn (S.C p.2.2.1) (some p.2.2.2) o ∧ ∃ vs, o.data = .fields vs) :
    XS { S with T := S.T.at E } { C with hot := true } sc fb W0 (X.suite a ((a, oe) :: pn)) where
  ok := {
    hK := x.ok.hK
    pr := x.ok.pr
    wl := x.ok.wl
    sc := x.ok.sc
    fb := x.ok.fb
    N := x.ok.N
    nd := x.ok.nd
    calm := fun h => Bool.noConfusion h
    hotc := fun _ => by
      obtain ⟨cls, d, z⟩ := hz
      obtain ⟨vs, e⟩ := hd
      exact ⟨(a, oe), ⟨rfl, vs, e, z.2.2 vs e⟩, List.mem_cons_self⟩
    gd := fun h => x.ok.gd h
    roomH := ⟨x.ok.roomH.dp, x.ok.roomH.un⟩
    fnsH := fun f b hf q => by
      obtain ⟨fd, ps, l, k1, k2, k3, k4⟩ := (x.ok.fnsH f b hf q).ex
      exact ⟨fd, ps, l, k1, k2, k3, by rw [spF_at]; exact k4⟩
    room := fun h => Bool.noConfusion h
    un := x.ok.un
    glob := fun g y h => by
      obtain ⟨u, v, p, k1, k2, k3, k4⟩ := x.ok.glob g y h
      exact ⟨u, v, p, k1, k2, k3, fun w ok => (RepV.at p v).mpr (k4 w ok)⟩
    fa := x.ok.fa
    fns := fun h => Bool.noConfusion h
    mts := fun h => Bool.noConfusion h
    cls := x.ok.cls
    atr := x.ok.atr
    nom := x.ok.nom
    xcs := fun c y ks q => ⟨(x.ok.xcs c y ks q).ex⟩
    exm := x.ok.exm
    xfl := x.ok.xfl
    nx := x.ok.nx
    icl := x.ok.icl
    cold := fun h => Bool.noConfusion h
    pin := hE
    blt := x.ok.blt
    lx := fun h => Bool.noConfusion h }
  tk := takesW0
  hp := PassesOwn.never
  kd := x.kd
  stk := fun h => Bool.noConfusion h
  frm := x.frm
theorem endsP.at {E : List (Nat × Addr × Nat × Addr)} {D : Ends} {f : Fl} {σ : L2.St} {w : Wd} (h : endsP S.T D f σ w) : endsP (S.T.at E) D f σ w := by
  cases f with
  | rt p => exact fun v rv => h v ((RepV.at p v).mp rv)
  | _ => exact h
theorem exc_is {c c' : Nat} {fs : List PV} {w : Wd} {cls : Value} {d : Option Addr} (rx : RepX S.T S.C w (.exc c' fs) cls d) : c' < S.T.nx ∧ cls = S.C c' ∧ ∃ d' vs, d = some d' ∧ w.H d' = some (.xd ((S.T.fld c').zip vs)) ∧ (S.T.fld c').length = vs.length ∧ ¬ w.mb d' ∧ Reps S.T w fs vs := by
  obtain ⟨c0, fs0, d', vs, e, r0, r1, r2, r3, r4, r5, r6⟩ := rx
  cases e
  exact ⟨r0, r1, d', vs, r2, r3, r4, r5, r6⟩
theorem Pss.noxat {E : List (Nat × Addr × Nat × Addr)} {w : Wd} {r : Res Fl} {Wa : WX} {D : Ends} {P : Fl → List Sl → List PV → L2.St → Wd → Prop} (h : ∀ f sl mu, r = .ok f sl mu → ∀ σ w', Ext w w' → FRel (S.T.at E) w' σ sl mu → endsP (S.T.at E) D f σ w') (hn : r ≠ .stk) (hx : ∀ e sl mu, r ≠ .exc e sl mu) : Psf (S.T.at E) S.C Wa w r D := by
  cases r with
  | stk => exact absurd rfl hn
  | exc e sl mu => exact absurd rfl (hx e sl mu)
  | ok f sl mu => exact h f sl mu rfl
theorem ss_rai (x : XS S C sc fb W X) (hc : C.hot = false) {c : Nat} {ks : List Bool} {as : Exs} {n : Str} {e : Expr} {es : List Expr} {p pos pos' : Pos} (hx : C.xcn[c]? = some (n, ks)) (hg : glb sc n = true) (ho : okNm n = true) (ha : SA S W X as (e :: es)) (hk : ckEs C sc fb as (e :: es) = true) (hl : (e :: es).length ≤ 900) :
    SS S W X (.rai c ks as) (.Raise (some (.Call (.Name n p) (e :: es) [] pos)) none pos') := by
  obtain ⟨h1, _, _⟩ := okNm_of ho
  have hs := notStar_all hk
  obtain ⟨Ca, fI, fd, ps, lv, klv, k1, k2, k3, k4, k5, k6, k7, _, _, _, k10, k11, _⟩ := (x.ok.xcs c n ks hx).ex
  have hr : Room (lv + 1) X.A := (x.ok.room hc).mono (by omega)
  refine PS.imp (L2N.ps_raise (x.ok.calm hc) x.tk (pmk_oexN k3 k4 k5 k6 hr k7 (fun _ _ _ _ z => cxN z) (glb_of x.ok hg) k2 ha h1 (star_cons (hs e List.mem_cons_self)) (back_any fun y hy => hs y (List.mem_cons_of_mem _ hy)))) fun D σ H h => ?_
  obtain ⟨w, sl, mu, hH, F, P⟩ := h
  refine tS.bndA hH F P fun l vs sl1 mu1 w1 e1 F1 rv P1 => ?_
  by_cases hk : okX ks l = true
  case neg => rw [if_neg hk] at P1; exact P1.elim
  rw [if_pos hk] at P1
  have hv := okV_of hk rv
  have hfl : vs.length = (S.T.fld c).length := (okV_len hv).trans k10
  refine ⟨?_, fun a ha => ⟨a, vs ++ [], rfl, by rw [List.append_nil]; exact hfl, by rw [List.append_nil]; exact hv, upd_same, fun d H' hd hne g1 g2 g3 => ⟨rfl, d, _, g1, g2, ?_, ?_⟩⟩⟩
  · rw [hfl]; omega
  · rw [upd_ne hne] at hd; exact hd
  · rw [List.append_nil] at g2 ⊢
    rw [upd_ne hne] at hd
    -- the world behind the raise
    have gr : Grow w1.H (upd (del H' a) d (.xd ((S.T.fld c).zip vs.reverse))) := fun b o hb => by
      have n1 : b ≠ a := ne_of_none hb ha
      have n2 : b ≠ d := ne_of_none hb hd
      rw [upd_ne n2]
      show (if b = a then none else H' b) = some o
      rw [if_neg n1]
      exact g3 b o n1 (by rw [upd_ne n1]; exact hb)
    have e2 := Wd.hp_ext gr
    rw [← k1]
    exact P1 (S.C c) (some d) σ (w1.hp _) e2 (F1.hp gr) ⟨c, l.reverse, d, vs.reverse, rfl, by rw [x.ok.nx]; exact (List.getElem?_eq_some_iff.mp hx).1, rfl, rfl, by show upd _ d _ d = _; rw [upd_same], by rw [List.length_reverse, hfl], fun z => F1.wok.mtr d z hd, Reps.reverse (Reps.ext F1.wok e2 _ _ rv)⟩
end
section
variable {S : Gs} {C : Ck} {sc : Scope} {fb : Str → Bool} {X : Cx} {W : WX}
/-- except C as n -/
theorem ss_trya (x : XS S C sc fb W X) (hc : C.hot = false) {b h : Sms} {c j : Nat} {n m : Str} {ks : List Bool} {body suite : List Stmt} {b0 : Stmt} {np hp pos : Pos} (hx : C.xcn[c]? = some (n, ks)) (hcl : c ∈ C.hnd) (hg : glb sc n = true) (ho : okNm n = true) (hj : C.N[j]? = some m) (hl : isLoc sc m = true)
    (hb : ∀ {W' : WX} {X' : Cx}, XS S C sc fb W' X' → SSs S W' X' b body) (hh : ∀ {S' : Gs} {X' : Cx}, XS S' { C with hot := true } sc fb W0 X' → SSs S' W0 X' h (b0 :: suite)) :
    SS S W X (.try b c (some j) h) (.Try body [.ExceptHandler (some (.Name n np)) (some m) (b0 :: suite) hp] [] [] pos) := by
  obtain ⟨h1, _, _⟩ := okNm_of ho
  obtain ⟨Ca, fI, fd, ps, lv, klv, k1, k2, _⟩ := (x.ok.xcs c n ks hx).ex
  have hcn : c < C.xcn.length := (List.getElem?_eq_some_iff.mp hx).1
  refine PS.imp (L2N.ps_try_as (tb := fun W' => tS S.T S.C W' (xss S.G S.cf b)) (ts := fun a cls d D σ H => ∃ d', cls = S.C c ∧ d = some d' ∧ tS (S.T.at ((j, a, c, d') :: S.T.xs)) S.C W0 (xss S.G S.cf h) D σ H) (c := .ref Ca) (i := j) (Wout := W) (x.stk hc) x.frm x.ok.nd (by rw [x.ok.N]; exact hj) (isLoc_of x.ok hl) ⟨glb_of x.ok hg, h1, .inl k2⟩ x.tk
    (fun W' pn xe tk hpo => hb (x.tr hc tk hpo)) (fun a oe cls d pn hz hf => ⟨fun pins s σ H D I ⟨d', e1, e2, q⟩ => ?_⟩)) fun D σ H q => ?_
  · subst e1 e2
    refine (hh (S' := { S with T := S.T.at ((j, a, c, d') :: S.T.xs) }) (x.suite ⟨_, _, hz⟩ hf fun p hp => ?_)).run pins s σ H D I q
    rw [x.ok.cold hc] at hp
    obtain rfl := List.mem_singleton.mp hp
    exact ⟨hcn, oe, List.mem_cons_self, hz, hf⟩
  · obtain ⟨w, sl, mu, hH, F, P⟩ := q
    refine ⟨w, sl, mu, hH, F, ?_⟩
    have P : Psf S.T S.C W w (match xss S.G S.cf b sl mu with
      | .exc (.exc c' fs) s m => if c' == c then ((xss S.G S.cf h (s.set j (.ex c' fs)) m).nox.bnd fun f s m => .ok f (s.set j .un) m) else .exc (.exc c' fs) s m
      | r => r) D := P
    generalize xss S.G S.cf b sl mu = r at P ⊢
    cases r with
    | stk => exact P
    | ok f s m => exact P
    | exc e s m =>
      intro cls d σ' w' ex F' rx
      cases e with
      | exc c' fs =>
        obtain ⟨r0, r1, d', vs, r2, r3, r4, r5, r6⟩ := exc_is (S := S) (c := c) rx
        have hm := x.ok.exm c' c (by rw [← x.ok.nx]; exact r0) hcl
        subst r1 r2
        refine ⟨c' == c, by rw [← k1]; exact hm, fun hb a ha => ?_, fun hb => ?_⟩
        · have P2 : Psf S.T S.C W w (if (c' == c) = true then ((xss S.G S.cf h (s.set j (.ex c' fs)) m).nox.bnd fun f s m => .ok f (s.set j .un) m) else .exc (.exc c' fs) s m) D := P
          rw [if_pos hb] at P2
          obtain rfl : c' = c := by simpa using hb
          refine ⟨d', rfl, rfl, w', _, m, rfl, F'.into (i := j) r3 r4 r5 r6, ?_⟩
          generalize xss S.G S.cf h (s.set j (.ex c' fs)) m = r at P2 ⊢
          cases r with
          | stk => exact P2
          | exc _ _ _ => exact P2.elim
          | ok f s2 m2 =>
            intro σ2 w2 e2 F2
            have q := P2 (σ2.set j none) w2 (ex.trans F.wok e2) F2.outof
            cases f with
            | rt p => exact fun v rv => q v ((RepV.at p v).mp rv)
            | _ => exact q
        · have P2 : Psf S.T S.C W w (if (c' == c) = true then ((xss S.G S.cf h (s.set j (.ex c' fs)) m).nox.bnd fun f s m => .ok f (s.set j .un) m) else .exc (.exc c' fs) s m) D := P
          rw [if_neg (by rw [hb]; simp)] at P2
          exact P2 _ _ σ' w' ex F' rx
      | _ =>
        obtain ⟨_, _, _, _, e, _⟩ := rx
        cases e
/-- except C -/
theorem ss_tryo (x : XS S C sc fb W X) (hc : C.hot = false) {b h : Sms} {c : Nat} {n : Str} {ks : List Bool} {body suite : List Stmt} {b0 : Stmt} {np hp pos : Pos} (hx : C.xcn[c]? = some (n, ks)) (hcl : c ∈ C.hnd) (hg : glb sc n = true) (ho : okNm n = true)
    (hb : ∀ {W' : WX} {X' : Cx}, XS S C sc fb W' X' → SSs S W' X' b body) (hh : ∀ {S' : Gs} {X' : Cx}, XS S' { C with hot := true } sc fb W0 X' → SSs S' W0 X' h (b0 :: suite)) :
    SS S W X (.try b c none h) (.Try body [.ExceptHandler (some (.Name n np)) none (b0 :: suite) hp] [] [] pos) := by
  obtain ⟨h1, _, _⟩ := okNm_of ho
  obtain ⟨Ca, fI, fd, ps, lv, klv, k1, k2, _⟩ := (x.ok.xcs c n ks hx).ex
  have hcn : c < C.xcn.length := (List.getElem?_eq_some_iff.mp hx).1
  have hat : S.T.at [] = S.T := by
    have := x.ok.cold hc
    unfold Tb.at
    rw [← this]
  refine PS.imp (ps_try_onlyN (tb := fun W' => tS S.T S.C W' (xss S.G S.cf b)) (ts := fun a cls d => tS S.T S.C W0 (xss S.G S.cf h)) (c := .ref Ca) (Wout := W) (x.stk hc) x.frm ⟨glb_of x.ok hg, h1, .inl k2⟩ x.tk
    (fun W' pn xe tk hpo => hb (x.tr hc tk hpo)) (fun a oe cls d pn hz hf => ?_)) fun D σ H q => ?_
  · have z := hh (S' := { S with T := S.T.at [] }) (x.suite (a := a) (oe := oe) (pn := pn) (E := []) ⟨_, _, hz⟩ hf fun p hp => by cases hp)
    rw [hat] at z
    exact z
  · obtain ⟨w, sl, mu, hH, F, P⟩ := q
    refine ⟨w, sl, mu, hH, F, ?_⟩
    have P : Psf S.T S.C W w (match xss S.G S.cf b sl mu with
      | .exc (.exc c' fs) s m => if c' == c then (xss S.G S.cf h s m).nox else .exc (.exc c' fs) s m
      | r => r) D := P
    generalize xss S.G S.cf b sl mu = r at P ⊢
    cases r with
    | stk => exact P
    | ok f s m => exact P
    | exc e s m =>
      intro cls d σ' w' ex F' rx
      cases e with
      | exc c' fs =>
        obtain ⟨r0, r1, d', vs, r2, r3, r4, r5, r6⟩ := exc_is (S := S) (c := c) rx
        have hm := x.ok.exm c' c (by rw [← x.ok.nx]; exact r0) hcl
        subst r1 r2
        have P : Psf S.T S.C W w (if (c' == c) = true then (xss S.G S.cf h s m).nox else .exc (.exc c' fs) s m) D := P
        refine ⟨c' == c, by rw [← k1]; exact hm, fun hb a ha => ?_, fun hb => ?_⟩
        · rw [if_pos hb] at P
          refine ⟨w', s, m, rfl, F', ?_⟩
          generalize xss S.G S.cf h s m = r at P ⊢
          cases r with
          | stk => exact P
          | exc _ _ _ => exact P.elim
          | ok f s2 m2 => exact fun σ2 w2 e2 F2 => P σ2 w2 (ex.trans F.wok e2) F2
        · rw [if_neg (by rw [hb]; simp)] at P
          exact P _ _ σ' w' ex F' rx
      | _ =>
        obtain ⟨_, _, _, _, e, _⟩ := rx
        cases e
end
set_option maxHeartbeats 4000000 in
mutual
theorem ss_all {sc : Scope} {fb : Str → Bool} : ∀ (a : Sm) {S : Gs} {C : Ck} {W : WX} {X : Cx} (x : XS S C sc fb W X) (st : Stmt), ckS sc fb a C st = true → SS S W X a st
  | .asg i e, S, C, W, X, x, st, h => by
    simp only [ckS] at h
    split at h
    · rw [Bool.and_eq_true, Bool.or_eq_true] at h
      simp only [Bool.and_eq_true, decide_eq_true_eq] at h
      obtain ⟨⟨⟨h1, h2⟩, h3⟩, h4 | h4⟩ := h
      · exact ss_asg x h1 h2 (s_ex e x.ok x.tk _ h3) h4
      · rename_i n p v pos
        simp only [Bool.and_eq_true, Bool.not_eq_true'] at h4
        obtain ⟨hc, h4⟩ := h4
        match v, h3, h4 with
        | .ListComp y gs scope lp, h3, h4 =>
          match e, h3 with
          | .lc own elt tg it ifs, h3 =>
            simp only [ckE] at h3
            split at h3
            · rename_i heq
              cases heq
              simp only [Bool.and_eq_true, decide_eq_true_eq] at h3
              obtain ⟨⟨⟨⟨⟨⟨⟨⟨k1, k2⟩, k3⟩, k4⟩, k5⟩, k6⟩, k7⟩, k8⟩, k9⟩ := h3
              refine ss_asgL x hc h1 h4 k2 k1 (fun i hi => ?_) (s_it it x.ok x.tk _ _ k4) k9 (fun s H A cl fp => s_tg (x.ok.blk hc s H _ A cl fp) tg _ k5) (fun s H A cl fp => s_ifs ?_) fun s H A cl fp => s_ex elt (x.ok.blk hc s H _ A cl fp) takesW0 _ k8
              · have := List.all_eq_true.mp k3 i hi
                simpa using this
              · rename_i fs
                match ifs, fs, k6, k7 with
                | .nil, fs, h6, _ =>
                  simp only [ckTs, List.isEmpty_iff] at h6
                  exact .inl ⟨rfl, h6⟩
                | .cons t ts, [], h6, _ => simp [ckTs] at h6
                | .cons t .nil, [y], h6, _ =>
                  simp only [ckTs, Bool.and_eq_true] at h6
                  exact .inr ⟨t, y, rfl, rfl, s_tt t (x.ok.blk hc s H _ A cl fp) takesW0 _ h6.1⟩
                | .cons t (.cons _ _), [y], h6, _ => simp [ckTs] at h6
                | _, _ :: _ :: _, _, h7 => exact absurd (Nat.le_of_ble_eq_true h7) (by simp)
            · cases h3
          | .stk, h3 => exact ss_stuck fun _ _ => rfl
    · cases h
  | .cell i es, S, C, W, X, x, st, h => by
    simp only [ckS] at h
    split at h
    · simp only [Bool.and_eq_true, decide_eq_true_eq] at h
      obtain ⟨⟨⟨h1, h2⟩, h3⟩, h4⟩ := h
      exact ss_cell x h1 h2 (s_exs es x.ok x.tk _ h3) h3 (Nat.le_of_ble_eq_true h4)
    · cases h
  | .own i es, S, C, W, X, x, st, h => by
    simp only [ckS] at h
    split at h
    · simp only [Bool.and_eq_true, decide_eq_true_eq] at h
      obtain ⟨⟨⟨h1, h2⟩, h3⟩, h4⟩ := h
      exact ss_own x h1 h2 (s_exs es x.ok x.tk _ h3) h3 (Nat.le_of_ble_eq_true h4)
    · cases h
  | .ast tg e, S, C, W, X, x, st, h => by
    simp only [ckS] at h
    split at h
    · simp only [Bool.and_eq_true] at h
      obtain ⟨⟨⟨⟨h1, h2⟩, h3⟩, h4⟩, h5⟩ := h
      exact ss_ast x h1 h2 (s_ex e x.ok x.tk _ h3) h4 h5
    · cases h
  | .par i j a b, S, C, W, X, x, st, h => by
    simp only [ckS] at h
    split at h
    · simp only [Bool.and_eq_true, Bool.not_eq_true', decide_eq_true_eq] at h
      obtain ⟨⟨⟨⟨⟨⟨⟨⟨⟨⟨⟨⟨hc, h1⟩, h2⟩, h3⟩, h4⟩, h5⟩, h6⟩, h7⟩, h8⟩, h9⟩, h10⟩, h11⟩, h12⟩ := h
      exact ss_par x hc h1 h2 h3 h4 h5 h6 h7 h8 h9 h10 (s_ex a x.ok x.tk _ h11) (s_ex b x.ok x.tk _ h12)
    · cases h
  | .pow i j k, S, C, W, X, x, st, h => by
    simp only [ckS] at h
    split at h
    · simp only [Bool.and_eq_true, Bool.not_eq_true', decide_eq_true_eq] at h
      obtain ⟨⟨⟨⟨⟨⟨⟨⟨⟨hc, h1⟩, h2⟩, h3⟩, h4⟩, h5⟩, h6⟩, h7⟩, h8⟩, h9⟩ := h
      obtain rfl := eq_of_beq h7
      exact ss_pow x hc h1 h2 h3 h4 h5 h6 h8 h9
    · cases h
  | .owl i e, S, C, W, X, x, st, h => by
    simp only [ckS] at h
    split at h
    · simp only [Bool.and_eq_true, Bool.not_eq_true', decide_eq_true_eq] at h
      obtain ⟨⟨⟨⟨⟨⟨hc, h1⟩, h2⟩, h3⟩, h4⟩, h5⟩, h6⟩ := h
      obtain ⟨p', rfl, g'⟩ := isName_of h3
      exact ss_owl x hc h1 h2 g' (s_ex e x.ok x.tk _ h4) h5 h6
    · cases h
  | .dst a k, S, C, W, X, x, st, h => by
    simp only [ckS] at h
    split at h
    · simp only [Bool.and_eq_true] at h
      obtain ⟨⟨⟨rfl, h1⟩, h2⟩, h3⟩ := h
      exact ss_dst x (s_ex a x.ok x.tk _ h1) (s_ex k x.ok x.tk _ h2) h3
    · cases h
  | .owe i j e, S, C, W, X, x, st, h => by
    simp only [ckS] at h
    split at h
    · simp only [Bool.and_eq_true, Bool.not_eq_true', decide_eq_true_eq] at h
      obtain ⟨⟨⟨⟨⟨⟨⟨⟨⟨⟨hc, h1⟩, h2⟩, h3⟩, h4⟩, h5⟩, h6⟩, h7⟩, h8⟩, h9⟩, h10⟩ := h
      exact ss_owe x hc h1 h2 h3 h4 h5 h6 h7 h8 h9 (s_ex e x.ok x.tk _ h10)
    · cases h
  | .asl k own elt tg it ifs, S, C, W, X, x, st, h => by
    simp only [ckS] at h
    split at h
    · simp only [Bool.and_eq_true, Bool.not_eq_true', decide_eq_true_eq] at h
      obtain ⟨⟨⟨⟨⟨⟨⟨⟨⟨⟨⟨hc, h0⟩, hl⟩, h1⟩, h2⟩, h3⟩, h4⟩, h5⟩, h6⟩, h7⟩, h8⟩, h9⟩ := h
      have hsl : ∀ i ∈ tg.sl, i ∈ own := fun i hi => by
        have := List.all_eq_true.mp h3 i hi
        simpa using this
      rename_i fs _ _ _
      refine ss_asl x hc h0 hl h2 h1 hsl (s_it it x.ok x.tk _ _ h4) h9 (fun s H A cl fp E => s_tg ((x.ok.blk hc s H _ A cl fp).wish E) tg _ h5) (fun s H A cl fp E => s_ifs ?_) fun s H A cl fp E W' tk' => s_ex elt ((x.ok.blk hc s H _ A cl fp).wish E) tk' _ h8
      match ifs, fs, h6, h7 with
      | .nil, fs, h6, _ =>
        simp only [ckTs, List.isEmpty_iff] at h6
        exact .inl ⟨rfl, h6⟩
      | .cons t ts, [], h6, _ => simp [ckTs] at h6
      | .cons t .nil, [y], h6, _ =>
        simp only [ckTs, Bool.and_eq_true] at h6
        exact .inr ⟨t, y, rfl, rfl, s_tt t ((x.ok.blk hc s H _ A cl fp).wish E) takesW0 _ h6.1⟩
      | .cons t (.cons _ _), [y], h6, _ => simp [ckTs] at h6
      | _, _ :: _ :: _, _, h7 => exact absurd (Nat.le_of_ble_eq_true h7) (by simp)
    · cases h
  | .owd i j, S, C, W, X, x, st, h => by
    simp only [ckS] at h
    split at h
    · simp only [Bool.and_eq_true, decide_eq_true_eq, Bool.not_eq_true', beq_eq_false_iff_ne] at h
      obtain ⟨⟨⟨⟨⟨h1, h2⟩, h3⟩, h4⟩, h5⟩, h6⟩ := h
      exact ss_owd x h1 h2 h3 h4 h5 h6
    · cases h
  | .par3 i j k a b c, S, C, W, X, x, st, h => by
    simp only [ckS] at h
    split at h
    · simp only [Bool.and_eq_true, Bool.not_eq_true', decide_eq_true_eq] at h
      obtain ⟨⟨⟨⟨⟨⟨⟨⟨⟨⟨⟨⟨⟨⟨⟨⟨⟨⟨⟨hc, h1⟩, h2⟩, h3⟩, h4⟩, h5⟩, h6⟩, h7⟩, h8⟩, h9⟩, h10⟩, h11⟩, h12⟩, h13⟩, h14⟩, h15⟩, h16⟩, h17⟩, h18⟩, h19⟩ := h
      exact ss_par3 x hc h1 h2 h3 h4 h5 h6 h7 h8 h9 h10 h11 h12 h13 h14 h15 h16 (s_ex a x.ok x.tk _ h17) (s_ex b x.ok x.tk _ h18) (s_ex c x.ok x.tk _ h19)
    · cases h
  | .aug i o e, S, C, W, X, x, st, h => by
    simp only [ckS] at h
    split at h
    · simp only [Bool.and_eq_true, decide_eq_true_eq] at h
      obtain ⟨⟨⟨h1, h2⟩, rfl⟩, h4⟩ := h
      exact ss_aug x h1 h2 (s_ex e x.ok x.tk _ h4)
    · cases h
  | .stc a k v, S, C, W, X, x, st, h => by
    simp only [ckS] at h
    split at h
    · simp only [Bool.and_eq_true] at h
      obtain ⟨⟨⟨⟨h1, h2⟩, h3⟩, h4⟩, h5⟩ := h
      exact ss_stc x (s_ex a x.ok x.tk _ h1) (s_ex k x.ok x.tk _ h2) h3 (s_ex v x.ok x.tk _ h4) h5
    · cases h
  | .ift t a b, S, C, W, X, x, st, h => by
    simp only [ckS] at h
    split at h
    · simp only [Bool.and_eq_true] at h
      exact ss_ift (s_tt t x.ok x.tk _ h.1.1) (sss_all a x _ h.1.2) (sss_all b x _ h.2)
    · cases h
  | .whl t b, S, C, W, X, x, st, h => by
    simp only [ckS] at h
    split at h
    · simp only [Bool.and_eq_true] at h
      exact ss_whl x (s_tt t x.ok x.tk _ h.1) (sss_all b x _ h.2)
    · cases h
  | .for tg it b, S, C, W, X, x, st, h => by
    simp only [ckS] at h
    split at h
    · simp only [Bool.and_eq_true] at h
      obtain ⟨⟨⟨h1, h2⟩, h3⟩, h4⟩ := h
      cases hc : C.hot with
      | false => exact ss_for x hc h1 (s_it it x.ok x.tk _ _ h2) h3 (sss_all b x _ h4)
      | true => exact ss_forH x hc h1 (s_itH it x.ok hc x.tk _ _ h2) h3 (sss_all b x _ h4)
    · cases h
  | .ret e, S, C, W, X, x, st, h => by
    simp only [ckS] at h
    split at h
    · exact ss_ret (s_ex e x.ok x.tk _ h)
    · cases h
  | .exp e, S, C, W, X, x, st, h => by
    simp only [ckS] at h
    split at h
    · simp only [Bool.and_eq_true] at h
      exact ss_exp (s_ex e x.ok x.tk _ h.1) h.2
    · cases h
  | .pas, S, C, W, X, x, st, h => by
    simp only [ckS] at h
    split at h
    · exact ss_pas
    · cases h
  | .brk, S, C, W, X, x, st, h => by
    simp only [ckS] at h
    split at h
    · exact ss_brk
    · cases h
  | .cnt, S, C, W, X, x, st, h => by
    simp only [ckS] at h
    split at h
    · exact ss_cnt
    · cases h
  | .mat e cs, S, C, W, X, x, st, h => by
    simp only [ckS] at h
    split at h
    · simp only [Bool.and_eq_true] at h
      exact ss_mat (s_ex e x.ok x.tk _ h.1) (sm_all cs x _ h.2)
    · cases h
  | .app i e, S, C, W, X, x, st, h => by
    simp only [ckS] at h
    split at h
    · simp only [Bool.and_eq_true, decide_eq_true_eq] at h
      obtain ⟨⟨⟨⟨⟨⟨rfl, h2⟩, h3⟩, h4⟩, h5⟩, h6⟩, h7⟩ := h
      exact ss_app x h2 h3 h4 (s_ex e x.ok x.tk _ h5) h6 h7
    · cases h
  | .rai c ks es, S, C, W, X, x, st, h => by
    simp only [ckS] at h
    split at h
    · simp only [Bool.and_eq_true, Bool.not_eq_true', decide_eq_true_eq] at h
      obtain ⟨⟨⟨⟨⟨hc, h1⟩, h2⟩, h3⟩, h4⟩, h5⟩ := h
      exact ss_rai x hc h1 h2 h3 (s_exs es x.ok x.tk _ h4) h4 (Nat.le_of_ble_eq_true h5)
    · cases h
  | .try b c i hs, S, C, W, X, x, st, h => by
    simp only [ckS] at h
    split at h
    · simp only [Bool.and_eq_true, Bool.not_eq_true', decide_eq_true_eq] at h
      obtain ⟨⟨⟨⟨⟨⟨⟨hc, h1⟩, h7⟩, h2⟩, h3⟩, h4⟩, h5⟩, h6⟩ := h
      have h7 : c ∈ C.hnd := by simpa using h7
      split at h1
      · rename_i y ks hy
        obtain rfl := of_decide_eq_true h1
        split at h4
        · simp only [Bool.and_eq_true, decide_eq_true_eq] at h4
          exact ss_trya x hc hy h7 h2 h3 h4.1 h4.2 (fun x' => sss_all b x' _ h5) fun x' => sss_all hs x' _ h6
        · exact ss_tryo x hc hy h7 h2 h3 (fun x' => sss_all b x' _ h5) fun x' => sss_all hs x' _ h6
        · cases h4
      · cases h1
    · cases h
  | .frz _, S, C, W, X, x, st, h => by simp [ckS] at h
  | .sat c k a v, S, C, W, X, x, st, h => by
    simp only [ckS] at h
    split at h
    · simp only [Bool.and_eq_true, decide_eq_true_eq, Option.bind_eq_some_iff] at h
      obtain ⟨⟨⟨⟨ns, h1, h2⟩, h3⟩, h4⟩, h5⟩ := h
      exact ss_sat x h1 h2 (s_ex a x.ok x.tk _ h3) (s_ex v x.ok x.tk _ h4) h5
    · cases h
  | .aat c k a oo v, S, C, W, X, x, st, h => by
    simp only [ckS] at h
    split at h
    · simp only [Bool.and_eq_true, decide_eq_true_eq, Option.bind_eq_some_iff] at h
      obtain ⟨⟨⟨⟨ns, h1, h2⟩, rfl⟩, h3⟩, h4⟩ := h
      exact ss_aat x h1 h2 (s_ex a x.ok x.tk _ h3) (s_ex v x.ok x.tk _ h4)
    · cases h
  | .exd i e, S, C, W, X, x, st, h => by
    simp only [ckS] at h
    split at h
    · simp only [Bool.and_eq_true, decide_eq_true_eq] at h
      obtain ⟨⟨⟨⟨⟨⟨rfl, h1⟩, h2⟩, h3⟩, h4⟩, h5⟩, h6⟩ := h
      exact ss_exd x h1 h2 h3 (s_ex e x.ok x.tk _ h4) h5 h6
    · cases h
  | .stk, S, C, W, X, x, st, h => ss_stuck fun _ _ => rfl
theorem sss_all {sc : Scope} {fb : Str → Bool} : ∀ (a : Sms) {S : Gs} {C : Ck} {W : WX} {X : Cx} (x : XS S C sc fb W X) (sts : List Stmt), ckSs sc fb a C sts = true → SSs S W X a sts
  | .nil, S, C, W, X, x, sts, h => by
    simp only [ckSs, List.isEmpty_iff] at h
    subst h
    exact sss_nil
  | .cons s r, S, C, W, X, x, sts, h => by
    simp only [ckSs] at h
    split at h
    · simp only [Bool.and_eq_true] at h
      exact sss_cons (ss_all s x _ h.1) (sss_all r x _ h.2)
    · cases h
theorem sm_all {sc : Scope} {fb : Str → Bool} : ∀ (a : Mcs) {S : Gs} {C : Ck} {W : WX} {X : Cx} (x : XS S C sc fb W X) (ms : List MatchCase), ckMs sc fb a C ms = true → SMs S W X a ms
  | .nil, S, C, W, X, x, ms, h => by
    simp only [ckMs, List.isEmpty_iff] at h
    subst h
    exact sm_nil
  | .cons ks b r, S, C, W, X, x, ms, h => by
    simp only [ckMs] at h
    split at h
    · simp only [Bool.and_eq_true] at h
      exact sm_cons x h.1.1 (sss_all b x _ h.1.2) (sm_all r x _ h.2)
    · cases h
end
end RA

/-! Functions: all of them, by the number of calls. -/
namespace RA
open PySem L2

/-- a def's name (a method's: without its class) -/
def FI.nm (I : FI) : Str := match I.mt with | some (_, n) => n | none => I.name
structure FOk (K : PySem.W.Frag) (mg : Str → Option Value) (a : Addr) (fd : FuncData) (I : FI) : Prop where
  F : FunD K I.nm I.name I.st a fd
  m : ∀ x, I.gn = some x → mg x = some (.ref a)
  b : Binds K fd I.ps []
  d : I.dfl ≠ [] → ∃ us : List Value, Vals (I.dfl.map V.int) us ∧ Binds K fd I.ps us
theorem repl_get {α : Type} {n i : Nat} {x y : α} (h : (List.replicate n x)[i]? = some y) : y = x := by
  rw [List.getElem?_replicate] at h
  split at h
  · cases h; rfl
  · cases h
theorem slots_at {ps : List PV} {n i : Nat} {s : Sl} (h : (ps.map Sl.va ++ List.replicate n Sl.un)[i]? = some s) : (∃ p, s = .va p ∧ ps[i]? = some p) ∨ s = .un := by
  by_cases hi : i < (ps.map Sl.va).length
  · rw [List.getElem?_append_left hi] at h
    simp only [List.getElem?_map, Option.map_eq_some_iff] at h
    obtain ⟨p, h1, rfl⟩ := h
    exact .inl ⟨p, rfl, h1⟩
  · rw [List.getElem?_append_right (by omega)] at h
    exact .inr (repl_get h)
theorem frel_start {T : Tb} {w : Wd} {N : List Str} {ps : List PV} {vs : List V} {mu : List PV} {np ns : Nat} (ok : WOk w) (cr : CRel T w mu) (r : Reps T w ps vs) (h1 : ps.length = np) (h2 : ns = N.length) : FRel T w (L2.start N vs) (ps.map .va ++ List.replicate (ns - np) .un) mu := by
  have hl := r.len
  refine ⟨ok, by simp [L2.start]; omega, fun i p h => ?_, fun i p h => ?_, fun i j p q a h => ?_, cr, fun i c fs h => ?_⟩
  · rcases slots_at h with ⟨p', e, h'⟩ | e
    · cases e
      obtain ⟨v, hv, rv⟩ := r.get h'
      refine ⟨v, ?_, rv⟩
      have hi : i < (vs.map some).length := by rw [List.length_map]; exact (List.getElem?_eq_some_iff.mp hv).1
      unfold L2.start
      rw [List.getElem?_append_left hi, List.getElem?_map, hv]
      rfl
    · cases e
  · rcases slots_at h with ⟨p', e, h'⟩ | e <;> cases e
  · rcases slots_at h with ⟨p', e, h'⟩ | e <;> cases e
  · rcases slots_at h with ⟨p', e, h'⟩ | e <;> cases e
/-- an own exception class, wherever it is raised -/
def XcAt (P : Program) (w : World) (K : PySem.W.Frag) (mg : Str → Option Value) (T : Tb) (Cl : Nat → Value) (c : Nat) (x : Str) (ks : List Bool) : Prop :=
  ∃ (Ca fI : Addr) (fd : FuncData) (ps : List Str), Cl c = .ref Ca ∧ mg x = some (.ref Ca) ∧ OexC K Ca ∧ PySem.W.findIn K (.ref Ca) "__init__" = some (some (.ref fI)) ∧ PySem.W.typeIn K (.ref fI) = some (.type "function") ∧
    (∀ base, FnOk P w K mg base (L2N.CX P w) 1 fI fd ps (spX T c Ca (okV ks))) ∧ Binds K fd ps [] ∧ XfC K Ca ∧ (∀ n ∈ T.fld c, PySem.W.findIn K (.ref Ca) n = some none) ∧ (T.fld c).Nodup ∧ ks.length = (T.fld c).length ∧ ks.length ≤ 900 ∧ T.xca c = Ca ∧ XiC K Ca
section
variable {P : Program} {w : World} {K : PySem.W.Frag} {mg : Str → Option Value} {base : Heap} {T : Tb} {Cl : Nat → Value} {G : List PV} {Is : List FI} {tx : Tx}
/-- the tables of a program -/
structure PgOk (P : Program) (w : World) (K : PySem.W.Frag) (mg : Str → Option Value) (T : Tb) (Cl : Nat → Value) (G : List PV) (Is : List FI) (tx : Tx) : Prop where
  hK : T.K = K
  pr : T.pr = P
  wl : T.wl = w
  xs : T.xs = []
  nx : T.nx = tx.xcn.length
  fns : ∀ (f : Nat) I, Is[f]? = some I → I.lam = false → ∃ a fd, FOk K mg a fd I ∧ T.fa f = some a
  fa : ∀ (f : Nat) a, T.fa f = some a → ∃ I, Is[f]? = some I ∧ I.lam = false
  sc : ∀ I ∈ Is, I.lam = false → FnScope I.N I.ps (defScope I.st)
  lm : ∀ (f : Nat) ld, T.lm f ld ↔ lamC tx Is f ld.params ld.body ld.scope = true
  tbs : ∀ (f : Nat) I a fd k, Is[f]? = some I → FOk K mg a fd I → T.fa f = some a → I.lk = some k → ∃ c P0, T.tbs[k]? = some (c, P0, (I.name ++ ".<locals>.") ++ "<lambda>") ∧ fd.code = .ref c
  bms : ∀ (f : Nat) I c n, Is[f]? = some I → I.mt = some (c, n) → tx.bmn.contains f = true → T.bm f = true ∧ ∃ a, T.fa f = some a ∧ L2.BMeth K (T.cla c) n a
  bf : ∀ (f : Nat) a, T.bm f = true → T.fa f = some a → PySem.W.fnIn K a = true
  chk : Is.all (FI.chk tx Is) = true
  chkH : chkHs tx Is = true
  glob : ∀ (g : Nat) x, tx.gn[g]? = some x → ∃ u v p, mg x = some u ∧ RelV v u ∧ G[g]? = some p ∧ ∀ w, WOk w → RepV T w p v
  mts : ∀ (f : Nat) I c n, Is[f]? = some I → I.mt = some (c, n) → ∃ a, T.fa f = some a ∧ Cls K (T.cla c) ∧ L2.Meth K (T.cla c) n a ∧ (n = ("__init__" : Str) → Mk K (T.cla c) a)
  cls : ∀ (c : Nat) x, tx.cln[c]? = some x → mg x = some (.ref (T.cla c))
  atr : ∀ (c : Nat) ns, tx.atn[c]? = some ns → T.atn c = ns ∧ ns.Nodup ∧ ns.length ≤ 900 ∧ Cls K (T.cla c) ∧ ∀ n ∈ ns, NoAttr K (T.cla c) n
  nom : ∀ I ∈ Is, ∀ c n, I.mt = some (c, n) → n ∉ T.atn c
  xcs : ∀ (c : Nat) x ks, tx.xcn[c]? = some (x, ks) → XcAt P w K mg T Cl c x ks
  exm : ∀ (c c' : Nat), c < tx.xcn.length → c' ∈ tx.hnd → PySem.W.exmOne K (Cl c) (Cl c') = some (c == c')
  xfl : ∀ (c : Nat) ns, tx.xfl[c]? = some ns → T.fld c = ns
  icl : ∀ (k : Nat) y tb, tx.icl[k]? = some (y, tb) → ∃ (v : V) (cv : Value), RelV v cv ∧ (∀ u, RelV v u → u = cv) ∧ (mg y = some cv ∨ (mg y = none ∧ bootBuiltins y = some cv)) ∧ ∀ p ∈ tb, p.1 < tx.xcn.length ∧ PySem.W.kitOne K (.ref (T.xca p.1)) cv = some p.2
  blt : ∀ x ∈ bNames, mg x = none
theorem PgOk.nl {f : Nat} {I : FI} (O : PgOk P w K mg T Cl G Is tx) (hI : Is[f]? = some I) (h : I.gn ≠ none ∨ I.mt ≠ none) : I.lam = false := by
  have hc := List.all_eq_true.mp O.chk I (List.mem_of_getElem? hI)
  unfold FI.chk at hc
  simp only [Bool.and_eq_true, Bool.or_eq_true, Bool.not_eq_true'] at hc
  rcases hc.2 with z | ⟨z1, z2⟩
  · exact z
  · exact h.elim (fun h => absurd (Option.isNone_iff_eq_none.mp z1) h) fun h => absurd (Option.isNone_iff_eq_none.mp z2) h
theorem okH {x qual : Str} {st : Stmt} {f : Addr} {fd : FuncData} {N ps : List Str} {k : Nat} {sp : Sp} (F : FunD K x qual st f fd) (S : FnScope N ps (defScope st)) (len : ∀ vs H Q E, sp vs H Q E → vs.length = ps.length)
    (hbody : ∀ (cdv : Value) (A : Around) (outer : List Env) (s : Shared) (H : Hp) (vs : List V) (Q : VK) (E : XK) (p : Addr × Obj), L2H.Hot1 A p → L2H.RoomH k (A.deeper (PyProof.Rows.envOfC qual (defScope st) s.heap.objs.size f cdv)) → sp vs H Q E →
      ∃ t, PSs (L2H.cxH (L2N.CX P w) P w K mg base N qual (defScope st) f cdv A outer s H E p) (defBody st) t ∧ t { nx := fun _ H' => Q .non H', rt := Q } (L2.start N vs) H) : L2H.FnH P w K mg base (L2N.CX P w) (k + 1) f fd ps sp := by
  obtain ⟨oc, od, dV, kV, doc, pm, an, cdv, ct, osl, rfl, lk, hcd⟩ := F.ex
  exact L2H.fn_ofH lk hcd S len fun A outer s H vs Q E p hot hr hsp => hbody cdv A outer s H vs Q E p hot hr hsp
theorem fn_hot (O : PgOk P w K mg T Cl G Is tx) : ∀ (k f : Nat) (I : FI) (a : Addr) (fd : FuncData), tx.hf.contains f = true → Is[f]? = some I → I.lam = false → FOk K mg a fd I → L2H.FnH P w K mg base (L2N.CX P w) (2 * k + 1) a fd I.ps (spF ⟨T, Cl, G, callN G (Is.map FI.fn) k, 2 * k + 2⟩ f)
  | 0, f, I, a, fd, hhf, hI, _, hF => by
    have no : ∀ vs H Q E, ¬ spF ⟨T, Cl, G, callN G (Is.map FI.fn) 0, 2⟩ f vs H Q E := fun vs H Q E h => by
      obtain ⟨w, ps, mu, _, _, _, _, _, h⟩ := h
      exact h
    exact ⟨fun vs H Q E h => absurd h (no vs H Q E), fun A outer s H args us vs Q E _ _ _ _ _ _ _ h => absurd h (no vs H Q E)⟩
  | k + 1, f, I, a, fd, hhf, hI, hIl, hF => by
    have hmem : I ∈ Is := List.mem_of_getElem? hI
    have hc := List.all_eq_true.mp O.chk I hmem
    unfold FI.chk at hc
    simp only [Bool.and_eq_true] at hc
    obtain ⟨⟨⟨⟨_, hnp⟩, hns⟩, hkd⟩, _⟩ := hc
    rw [hIl] at hkd
    have hb : ckSs (defScope I.st) (fun _ => true) I.fn.body { tx.ck Is I.N with hot := true, gd := false } (defBody I.st) = true := by
      have z := O.chkH
      unfold chkHs at z
      have z := List.all_eq_true.mp z f (by simpa using hhf)
      rw [hI] at z
      exact z
    have hnp := Nat.eq_of_beq_eq_true hnp
    have hns := Nat.eq_of_beq_eq_true hns
    have hS := O.sc I hmem hIl
    have hfn : (Is.map FI.fn)[f]? = some I.fn := by rw [List.getElem?_map, hI]; rfl
    have opened : ∀ {ps : List PV} {mu : List PV} , callN G (Is.map FI.fn) (k + 1) f ps mu = if ps.length == I.fn.np then (match xss G (callN G (Is.map FI.fn) k) I.fn.body (ps.map .va ++ List.replicate (I.fn.ns - I.fn.np) .un) mu with
      | .ok (.rt p) _ m => .ok p m
      | .ok .nx _ m => .ok .non m
      | .exc e _ m => .exc e m
      | _ => .stk) else .stk := fun {ps mu} => by
      show (match (Is.map FI.fn)[f]? with | none => CR.stk | some fn => _) = _
      rw [hfn]
      all_goals rfl
    refine okH (k := 2 * k + 2) hF.F hS (fun vs H Q E h => ?_) fun cdv A outer s H vs Q E p0 hp0 hr h => ?_
    · obtain ⟨w0, ps, mu, _, _, _, _, rp, hm⟩ := h
      have hm : (match callN G (Is.map FI.fn) (k + 1) f ps mu with | .stk => False | .ok p mu' => _ | .exc e mu' => _) := hm
      rw [opened] at hm
      by_cases hl : (ps.length == I.fn.np) = true
      · rw [← rp.len]
        have := eq_of_beq hl
        omega
      · rw [if_neg hl] at hm
        exact hm.elim
    · obtain ⟨w0, ps, mu, rfl, ok, cr, hwr, rp, hm⟩ := h
      have hm : (match callN G (Is.map FI.fn) (k + 1) f ps mu with
        | .stk => False
        | .ok p mu' => ∀ v w', Ext w0 w' → WOk w' → CRel T w' mu' → RepV T w' p v → Q v w'.H
        | .exc e mu' => ∀ cls d w', Ext w0 w' → WOk w' → CRel T w' mu' → RepX T Cl w' e cls d → E cls d w'.H) := hm
      rw [opened] at hm
      by_cases hl : (ps.length == I.fn.np) = true
      case neg => rw [if_neg hl] at hm; exact hm.elim
      rw [if_pos hl] at hm
      have hl := eq_of_beq hl
      have x0 : XS ⟨T, Cl, G, callN G (Is.map FI.fn) k, 2 * k + 2⟩ { tx.ck Is I.N with hot := true, gd := false } (defScope I.st) (fun _ => true) (fun cls d _ H => E cls d H) (L2H.cxH (L2N.CX P w) P w K mg base I.N I.name (defScope I.st) a cdv A outer s w0.H E p0) := by
        refine ⟨⟨O.hK, O.pr, O.wl, rfl, rfl, rfl, hS.nd, fun h => Bool.noConfusion h, fun _ => ⟨p0, hp0, List.mem_cons_self⟩, (fun h => Bool.noConfusion h), hr, fun j b hf hj => ?_, fun h => Bool.noConfusion h, by have := hr.un; show (A.deeper (PyProof.Rows.envOfC I.name (defScope I.st) s.heap.objs.size a cdv)).units + 66 < cLine; omega, O.glob, fun j x hj => ?_, fun h => Bool.noConfusion h, fun h => Bool.noConfusion h, fun c x hx => ?_, fun c ns hx => ?_, fun j c n hj => ?_, fun c x ks hx => ?_, O.exm, O.xfl, O.nx, O.icl, fun h => Bool.noConfusion h, fun p hp => ?_, O.blt, fun h => Bool.noConfusion h⟩, L2N.takes_of rfl rfl rfl rfl, passes_of rfl, hS.kind, fun h => Bool.noConfusion h, rfl⟩
        · obtain ⟨J, hJ, hJl⟩ := O.fa j b hj
          obtain ⟨b', fe, hO, hfa⟩ := O.fns j J hJ hJl
          have hj : T.fa j = some b := hj
          rw [hfa] at hj
          cases hj
          exact ⟨⟨fe, J.ps, 2 * k + 1, by show 2 * k + 1 + 1 ≤ 2 * k + 2; omega, hO.F.kp, hO.b, fn_hot O k j J b fe hf hJ hJl hO⟩⟩
        · have hj : (Is.map FI.gn)[j]? = some (some x) := hj
          rw [List.getElem?_map, Option.map_eq_some_iff] at hj
          obtain ⟨J, hJ, e⟩ := hj
          obtain ⟨b, fe, hO, hfa⟩ := O.fns j J hJ (O.nl hJ (.inl (by rw [e]; simp)))
          exact ⟨b, hO.m x e, hfa⟩
        · exact O.cls c x hx
        · exact O.atr c ns hx
        · have hj : (Is.map FI.mt)[j]? = some (some (c, n)) := hj
          rw [List.getElem?_map, Option.map_eq_some_iff] at hj
          obtain ⟨J, hJ, e⟩ := hj
          exact O.nom J (List.mem_of_getElem? hJ) c n e
        · obtain ⟨Ca, fI, fd', ps', q1, q2, q3, q4, q5, q6, q7⟩ := O.xcs c x ks hx
          exact ⟨Ca, fI, fd', ps', 1, by show 1 + 1 ≤ 2 * k + 2; omega, q1, q2, q3, q4, q5, q6 base, q7⟩
        · have hp : p ∈ T.xs := hp
          rw [O.xs] at hp
          cases hp
      refine ⟨_, sss_all I.fn.body x0 _ hb, w0, _, mu, rfl, frel_start (np := I.fn.np) (ns := I.fn.ns) ok cr rp hl hns, ?_⟩
      generalize hr' : xss G (callN G (Is.map FI.fn) k) I.fn.body (ps.map .va ++ List.replicate (I.fn.ns - I.fn.np) .un) mu = r at hm
      cases r with
      | stk => exact hm.elim
      | exc e sl m => exact fun cls d σ w' ex F rx => hm cls d w' ex F.wok F.cel rx
      | ok fl sl m =>
        intro σ w' ex F
        cases fl with
        | nx => exact hm .non w' ex F.wok F.cel (by simp only [RepV])
        | bk => exact hm.elim
        | ct => exact hm.elim
        | rt p => exact fun v rv => hm v w' ex F.wok F.cel rv
/-- the context of a body, at the level k -/
theorem xs_fn (O : PgOk P w K mg T Cl G Is tx) {k : Nat} (hfn : ∀ (j : Nat) J b fe, Is[j]? = some J → J.lam = false → FOk K mg b fe J → T.fa j = some b → FnS P w K mg base (L2N.CX P w) (2 * k + 1) b fe J.ps (spF ⟨T, Cl, G, callN G (Is.map FI.fn) k, 2 * k + 2⟩ j))
    (hhot : ∀ (j : Nat) J b fe, tx.hf.contains j = true → Is[j]? = some J → J.lam = false → FOk K mg b fe J → L2H.FnH P w K mg base (L2N.CX P w) (2 * k + 1) b fe J.ps (spF ⟨T, Cl, G, callN G (Is.map FI.fn) k, 2 * k + 2⟩ j))
    (hlm : ∀ (j : Nat) J ld, Is[j]? = some J → lamC tx Is j ld.params ld.body ld.scope = true → LamFn P w K mg base (L2N.CX P w) (2 * k + 1) ld J.ps (spF ⟨T, Cl, G, callN G (Is.map FI.fn) k, 2 * k + 2⟩ j))
    {N ps : List Str} {qual : Str} {scope : Scope} {a : Addr} {cdv : Value} {A : Around} {outer : List Env} {s : Shared} {H : Hp} {E : XK} {lam : Option (Nat × (Nat → Arguments → Expr → Scope → Bool))} (hS : FnScope N ps scope) (gd : Gd A) (hr : Room (2 * k + 2) (A.deeper (PyProof.Rows.envOfC qual scope s.heap.objs.size a cdv)))
    (hmade : ∀ (k : Nat) chk, lam = some (k, chk) → ∃ c P0 q, T.tbs[k]? = some (c, P0, q) ∧ cdv = .ref c ∧ (qual ++ ".<locals>.") ++ "<lambda>" = q ∧ LamX.TabB base mg c P0 ∧
      ∀ f params body scope, chk f params body scope = true → T.lm f ⟨q, params, body, scope⟩ ∧ (∀ env, defaultsOf params env = ([], [])) ∧ ∀ y ∈ scope.names, y.2 ≠ .free) :
    XS ⟨T, Cl, G, callN G (Is.map FI.fn) k, 2 * k + 2⟩ { tx.ck Is N with lam := lam } scope (fun _ => true) (fun cls d _ H => E cls d H) (cxOf (L2N.CX P w) P w K mg base N qual scope a cdv A outer s H E) := by
  refine ⟨⟨O.hK, O.pr, O.wl, rfl, rfl, rfl, hS.nd, fun _ => rfl, (fun h => Bool.noConfusion h), (fun _ => gd), L2H.roomH_of hr, fun j b hf hj => ?_, fun _ => hr, by have := hr.un; show (A.deeper (PyProof.Rows.envOfC qual scope s.heap.objs.size a cdv)).units + 66 < cLine; omega, O.glob, fun j x hj => ?_, fun _ j b hj => ?_, fun _ j c n hj => ?_, fun c x hx => ?_, fun c ns hx => ?_, fun j c n hj => ?_, fun c x ks hx => ?_, O.exm, O.xfl, O.nx, O.icl, fun _ => O.xs, fun p hp => ?_, O.blt, fun _ => ⟨hmade, fun f ld hld => ?_, fun j c n hj hb => ?_, O.bf, fun j b ds hd hd0 hj => ?_⟩⟩, L2N.takes_of rfl rfl rfl rfl, passes_of rfl, hS.kind, fun _ => rfl, rfl⟩
  · obtain ⟨J, hJ, hJl⟩ := O.fa j b hj
    obtain ⟨b', fe, hO, hfa⟩ := O.fns j J hJ hJl
    have hj : T.fa j = some b := hj
    rw [hfa] at hj
    cases hj
    exact ⟨⟨fe, J.ps, 2 * k + 1, by show 2 * k + 1 + 1 ≤ 2 * k + 2; omega, hO.F.kp, hO.b, hhot j J b fe hf hJ hJl hO⟩⟩
  · have hj : (Is.map FI.gn)[j]? = some (some x) := hj
    rw [List.getElem?_map, Option.map_eq_some_iff] at hj
    obtain ⟨J, hJ, e⟩ := hj
    obtain ⟨b, fe, hO, hfa⟩ := O.fns j J hJ (O.nl hJ (.inl (by rw [e]; simp)))
    exact ⟨b, hO.m x e, hfa⟩
  · obtain ⟨J, hJ, hJl⟩ := O.fa j b hj
    obtain ⟨b', fe, hO, hfa⟩ := O.fns j J hJ hJl
    have hj : T.fa j = some b := hj
    rw [hfa] at hj
    cases hj
    exact ⟨gd, fe, J.ps, 2 * k + 1, by show 2 * k + 1 + 1 ≤ 2 * k + 2; omega, hO.F.kp, hO.b, hfn j J _ fe hJ hJl hO hfa⟩
  · have hj : (Is.map FI.mt)[j]? = some (some (c, n)) := hj
    rw [List.getElem?_map, Option.map_eq_some_iff] at hj
    obtain ⟨J, hJ, e⟩ := hj
    have hJl := O.nl hJ (.inr (by rw [e]; simp))
    obtain ⟨b, h1, h2, h3, h4⟩ := O.mts j J c n hJ e
    obtain ⟨b', fe, hO, hfa⟩ := O.fns j J hJ hJl
    have h1' := h1
    rw [hfa] at h1'
    cases h1'
    exact ⟨_, h2, h3, ⟨gd, fe, J.ps, 2 * k + 1, by show 2 * k + 1 + 1 ≤ 2 * k + 2; omega, hO.F.kp, hO.b, hfn j J _ fe hJ hJl hO hfa⟩, h4⟩
  · exact O.cls c x hx
  · exact O.atr c ns hx
  · have hj : (Is.map FI.mt)[j]? = some (some (c, n)) := hj
    rw [List.getElem?_map, Option.map_eq_some_iff] at hj
    obtain ⟨J, hJ, e⟩ := hj
    exact O.nom J (List.mem_of_getElem? hJ) c n e
  · obtain ⟨Ca, fI, fd', ps', q1, q2, q3, q4, q5, q6, q7⟩ := O.xcs c x ks hx
    exact ⟨Ca, fI, fd', ps', 1, by show 1 + 1 ≤ 2 * k + 2; omega, q1, q2, q3, q4, q5, q6 base, q7⟩
  · have hp : p ∈ T.xs := hp
    rw [O.xs] at hp
    cases hp
  · have hc := (O.lm f ld).mp hld
    have hI : ∃ J, Is[f]? = some J := by
      unfold lamC at hc
      split at hc
      · exact ⟨_, by assumption⟩
      · cases hc
    obtain ⟨J, hJ⟩ := hI
    exact ⟨gd, J.ps, 2 * k + 1, by show 2 * k + 1 + 1 ≤ 2 * k + 2; omega, hlm f J ld hJ hc⟩
  · have hj : (Is.map FI.mt)[j]? = some (some (c, n)) := hj
    rw [List.getElem?_map, Option.map_eq_some_iff] at hj
    obtain ⟨J, hJ, e⟩ := hj
    exact O.bms j J c n hJ e hb
  · obtain ⟨J, hJ, hJl⟩ := O.fa j b hj
    obtain ⟨b', fe, hO, hfa⟩ := O.fns j J hJ hJl
    have hj : T.fa j = some b := hj
    rw [hfa] at hj
    cases hj
    have hd : (Is.map FI.dfl)[j]? = some ds := hd
    rw [List.getElem?_map, hJ] at hd
    have e : J.dfl = ds := Option.some.inj hd
    subst e
    obtain ⟨us, k1, k2⟩ := hO.d hd0
    exact ⟨gd, fe, J.ps, 2 * k + 1, us, by show 2 * k + 1 + 1 ≤ 2 * k + 2; omega, hO.F.kp, k1, k2, hfn j J b fe hJ hJl hO hfa⟩
theorem xss_ret {cf : Nat → List PV → List PV → CR} {e : Ex} {s : List Sl} {m : List PV} : xss G cf (.cons (.ret e) .nil) s m = (ev G cf e s m).bnd fun x s m => .ok (.rt x) s m := by
  show ((ev G cf e s m).bnd _).bnd _ = _
  cases ev G cf e s m <;> rfl
theorem no_sp {f : Nat} : ∀ vs H Q E, ¬ spF ⟨T, Cl, G, callN G (Is.map FI.fn) 0, 2⟩ f vs H Q E := fun vs H Q E h => by
  obtain ⟨w, ps, mu, _, _, _, _, _, h⟩ := h
  exact h
theorem lam_bind {ps : List Str} {params : Arguments} (h : lamP ps params = true) (qual : Str) (body : Expr) (scope : Scope) (pm ctv : Value) (c' : Addr) (us : List Value) (hl : us.length = ps.length) :
    bindArgs (PySem.W.kla_fn "<lambda>" qual params body scope [] pm (.ref c') ctv) ⟨us, []⟩ = pure (ps.zip us) := by
  unfold lamP at h
  split at h
  · rename_i a
    simp only [Bool.and_eq_true, decide_eq_true_eq] at h
    obtain ⟨h1, rfl⟩ := h
    obtain ⟨n, an, p⟩ := a
    subst h1
    match us, hl with
    | [u], _ => rfl
  · cases h
theorem opened {k f : Nat} {I : FI} (hI : Is[f]? = some I) {ps mu : List PV} : callN G (Is.map FI.fn) (k + 1) f ps mu = if ps.length == I.fn.np then (match xss G (callN G (Is.map FI.fn) k) I.fn.body (ps.map .va ++ List.replicate (I.fn.ns - I.fn.np) .un) mu with
      | .ok (.rt p) _ m => .ok p m
      | .ok .nx _ m => .ok .non m
      | .exc e _ m => .exc e m
      | _ => .stk) else .stk := by
  have hfn : (Is.map FI.fn)[f]? = some I.fn := by rw [List.getElem?_map, hI]; rfl
  show (match (Is.map FI.fn)[f]? with | none => CR.stk | some fn => _) = _
  rw [hfn]
  all_goals rfl
mutual
theorem fn_all (O : PgOk P w K mg T Cl G Is tx) (hB : ∀ (k : Nat) c P0 q, T.tbs[k]? = some (c, P0, q) → LamX.TabB base mg c P0) : ∀ (k f : Nat) (I : FI) (a : Addr) (fd : FuncData), Is[f]? = some I → I.lam = false → FOk K mg a fd I → T.fa f = some a → FnS P w K mg base (L2N.CX P w) (2 * k + 1) a fd I.ps (spF ⟨T, Cl, G, callN G (Is.map FI.fn) k, 2 * k + 2⟩ f)
  | 0, f, I, a, fd, hI, hIl, hF, hfa => by
    refine ⟨?_, ?_⟩
    · intro vs H Q E h
      exact absurd h (no_sp _ _ _ _)
    · intros
      rename_i h
      exact absurd h (no_sp _ _ _ _)
  | k + 1, f, I, a, fd, hI, hIl, hF, hfa => by
    have hmem : I ∈ Is := List.mem_of_getElem? hI
    have hc := List.all_eq_true.mp O.chk I hmem
    unfold FI.chk at hc
    simp only [Bool.and_eq_true] at hc
    obtain ⟨⟨⟨⟨hb, hnp⟩, hns⟩, hkd⟩, _⟩ := hc
    have hb : ckSs (defScope I.st) (fun _ => true) I.fn.body (tx.ckf Is I) (defBody I.st) = true := by rw [hIl] at hb; exact hb
    have hnp := Nat.eq_of_beq_eq_true hnp
    have hns := Nat.eq_of_beq_eq_true hns
    have hS := O.sc I hmem hIl
    refine okSc (k := 2 * k + 2) hF.F hS (fun vs H Q E h => ?_) fun cdv A outer s H vs Q E hcdv gd hr h => ?_
    · obtain ⟨w0, ps, mu, _, _, _, _, rp, hm⟩ := h
      have hm : (match callN G (Is.map FI.fn) (k + 1) f ps mu with | .stk => False | .ok p mu' => _ | .exc e mu' => _) := hm
      rw [opened hI] at hm
      by_cases hl : (ps.length == I.fn.np) = true
      · rw [← rp.len]
        have := eq_of_beq hl
        omega
      · rw [if_neg hl] at hm
        exact hm.elim
    · obtain ⟨w0, ps, mu, rfl, ok, cr, hwr, rp, hm⟩ := h
      have hm : (match callN G (Is.map FI.fn) (k + 1) f ps mu with
        | .stk => False
        | .ok p mu' => ∀ v w', Ext w0 w' → WOk w' → CRel T w' mu' → RepV T w' p v → Q v w'.H
        | .exc e mu' => ∀ cls d w', Ext w0 w' → WOk w' → CRel T w' mu' → RepX T Cl w' e cls d → E cls d w'.H) := hm
      rw [opened hI] at hm
      by_cases hl : (ps.length == I.fn.np) = true
      case neg => rw [if_neg hl] at hm; exact hm.elim
      rw [if_pos hl] at hm
      have hl := eq_of_beq hl
      have x0 : XS ⟨T, Cl, G, callN G (Is.map FI.fn) k, 2 * k + 2⟩ (tx.ckf Is I) (defScope I.st) (fun _ => true) (fun cls d _ H => E cls d H) (cxOf (L2N.CX P w) P w K mg base I.N I.name (defScope I.st) a cdv A outer s w0.H E) :=
        xs_fn O (fun j J b fe => fn_all O hB k j J b fe) (fun j J b fe h1 h2 h3 h4 => fn_hot O k j J b fe h1 h2 h3 h4) (fun j J ld => lam_all O hB k j J ld) hS gd hr (fun k0 chk hlam => by
          rw [Option.map_eq_some_iff] at hlam
          obtain ⟨k1, hk, e⟩ := hlam
          cases e
          obtain ⟨c, P0, t1, t2⟩ := O.tbs f I a fd _ hI hF hfa hk
          refine ⟨c, P0, _, t1, by rw [← hcdv]; exact t2, rfl, hB _ _ _ _ t1, fun f params body scope hch => ⟨(O.lm f _).mpr hch, ?_⟩⟩
          unfold lamC at hch
          split at hch
          · simp only [Bool.and_eq_true] at hch
            obtain ⟨⟨⟨⟨⟨_, h2⟩, h3⟩, _⟩, _⟩, _⟩ := hch
            refine ⟨fun env => ?_, (C8.fnScope_by h3).nofree⟩
            unfold lamP at h2
            split at h2
            · rfl
            · cases h2
          · cases hch)
      refine ⟨_, sss_all I.fn.body x0 _ hb, w0, _, mu, rfl, frel_start (np := I.fn.np) (ns := I.fn.ns) ok cr rp hl hns, ?_⟩
      generalize hr' : xss G (callN G (Is.map FI.fn) k) I.fn.body (ps.map .va ++ List.replicate (I.fn.ns - I.fn.np) .un) mu = r at hm
      cases r with
      | stk => exact hm.elim
      | exc e sl m => exact fun cls d σ w' ex F rx => hm cls d w' ex F.wok F.cel rx
      | ok fl sl m =>
        intro σ w' ex F
        cases fl with
        | nx => exact hm .non w' ex F.wok F.cel (by simp only [RepV])
        | bk => exact hm.elim
        | ct => exact hm.elim
        | rt p => exact fun v rv => hm v w' ex F.wok F.cel rv
theorem lam_all (O : PgOk P w K mg T Cl G Is tx) (hB : ∀ (k : Nat) c P0 q, T.tbs[k]? = some (c, P0, q) → LamX.TabB base mg c P0) : ∀ (k f : Nat) (I : FI) (ld : LamD), Is[f]? = some I → lamC tx Is f ld.params ld.body ld.scope = true → LamFn P w K mg base (L2N.CX P w) (2 * k + 1) ld I.ps (spF ⟨T, Cl, G, callN G (Is.map FI.fn) k, 2 * k + 2⟩ f)
  | 0, f, I, ld, hI, hc => by
    refine ⟨?_, ?_⟩
    · intro vs H Q E h
      exact absurd h (no_sp _ _ _ _)
    · intros
      rename_i h
      exact absurd h (no_sp _ _ _ _)
  | k + 1, f, I, ld, hI, hc => by
    unfold lamC at hc
    rw [hI] at hc
    simp only [Bool.and_eq_true] at hc
    obtain ⟨⟨⟨⟨⟨_, hP⟩, hS⟩, hnp⟩, hns⟩, hb⟩ := hc
    have hnp := Nat.eq_of_beq_eq_true hnp
    have hns := Nat.eq_of_beq_eq_true hns
    have hS := C8.fnScope_by hS
    split at hb
    case h_2 => cases hb
    rename_i e he
    refine okL (k := 2 * k + 2) hS (fun vs H Q E h => ?_) (fun pm ctv c' us hl => lam_bind hP _ _ _ pm ctv c' us hl) fun a c' A outer s H vs Q E gd hr h => ?_
    · obtain ⟨w0, ps, mu, _, _, _, _, rp, hm⟩ := h
      have hm : (match callN G (Is.map FI.fn) (k + 1) f ps mu with | .stk => False | .ok p mu' => _ | .exc e mu' => _) := hm
      rw [opened hI] at hm
      by_cases hl : (ps.length == I.fn.np) = true
      · rw [← rp.len]
        have := eq_of_beq hl
        omega
      · rw [if_neg hl] at hm
        exact hm.elim
    · obtain ⟨w0, ps, mu, rfl, ok, cr, hwr, rp, hm⟩ := h
      have hm : (match callN G (Is.map FI.fn) (k + 1) f ps mu with
        | .stk => False
        | .ok p mu' => ∀ v w', Ext w0 w' → WOk w' → CRel T w' mu' → RepV T w' p v → Q v w'.H
        | .exc e mu' => ∀ cls d w', Ext w0 w' → WOk w' → CRel T w' mu' → RepX T Cl w' e cls d → E cls d w'.H) := hm
      rw [opened hI] at hm
      by_cases hl : (ps.length == I.fn.np) = true
      case neg => rw [if_neg hl] at hm; exact hm.elim
      rw [if_pos hl] at hm
      have hl := eq_of_beq hl
      have x0 : XS ⟨T, Cl, G, callN G (Is.map FI.fn) k, 2 * k + 2⟩ { tx.ck Is I.N with lam := none } ld.scope (fun _ => true) (fun cls d _ H => E cls d H) (cxOf (L2N.CX P w) P w K mg base I.N ld.qual ld.scope a (.ref c') A outer s w0.H E) :=
        xs_fn O (fun j J b fe => fn_all O hB k j J b fe) (fun j J b fe h1 h2 h3 h4 => fn_hot O k j J b fe h1 h2 h3 h4) (fun j J ld => lam_all O hB k j J ld) hS gd hr (fun k0 chk hlam => by cases hlam)
      have hbe : ckE { tx.ck Is I.N with lam := none } ld.scope (fun _ => true) e ld.body = true := hb
      refine ⟨_, s_ex e x0.ok x0.tk _ hbe, w0, _, mu, rfl, frel_start (np := I.fn.np) (ns := I.fn.ns) ok cr rp hl hns, ?_⟩
      rw [he, xss_ret] at hm
      generalize hr' : ev G (callN G (Is.map FI.fn) k) e (ps.map .va ++ List.replicate (I.fn.ns - I.fn.np) .un) mu = r at hm
      show Pst T Cl _ _ w0 (ev G (callN G (Is.map FI.fn) k) e (ps.map .va ++ List.replicate (I.fn.ns - I.fn.np) .un) mu) (QE T Q)
      rw [hr']
      cases r with
      | stk => exact hm.elim
      | exc e sl m => exact fun cls d w' ex F rx => hm cls d w' ex F.wok F.cel rx
      | ok p sl m => exact fun w' ex F v rv => hm v w' ex F.wok F.cel rv
end
/-- the law's promise from the interpreter's answer -/
theorem law_sp {S : Gs} {f n : Nat} (h : ∀ ns : List Int, ns.length ≤ n → ∃ m, S.cf f [.fro ns] [] = .ok (.bl true) m) {H : Hp} {a : Addr} {ns : List Int} (hl : ns.length ≤ n) (hq : SqL S.T.K H a (ns.map V.int)) : spF S f [.ref a] H (fun v _ => v = .bl true) fun _ _ _ => False := by
  obtain ⟨m, hm⟩ := h ns hl
  refine ⟨⟨H, [], fun _ => False, fun _ => False, []⟩, [.fro ns], [], rfl, ⟨fun _ h => h, fun _ h => h.elim⟩, ⟨rfl, fun n c a h => by simp at h, fun n n' a h => by simp at h⟩, fun _ h => h.elim, ?_, ?_⟩
  · simp only [Reps, RepV]
    refine ⟨_, _, rfl, ⟨a, rfl, ?_⟩, rfl⟩
    rcases hq with hq | hq
    · exact .inl ⟨hq, fun z => z⟩
    · exact .inr hq
  · rw [hm]
    intro v w' _ _ _ rv
    simpa only [RepV] using rv
theorem cx_none {P : Program} {w : World} {H : Hp} {s : Shared} {e : Value} {s' : Shared} (h : L2N.CX P w [] H s (fun _ _ _ => False) e s') : False := by
  obtain ⟨_, _, _, _, _, _, _, _, _, _, _, _, h⟩ := h
  exact h
end
end RA

set_option maxHeartbeats 4000000
/-! An own exception class below ValueError whose initializer begins with super().__init__(..): its def keeps its promise. -/
namespace RA
open PySem PySem.Spec PyProof.Rows L2
/-- the names of such a def -/
structure SupScope (N P : List Str) (sc : Scope) : Prop where
  kind : sc.kind = .function
  co : sc.isCoroutine = false
  gen : sc.isGenerator = false
  nd : N.Nodup
  pre : N.take P.length = P
  par : ∀ x ∈ P, sc.names.lookup x = some .local
  fre : ∀ y ∈ sc.names, y.2 = .free → y.1 = ("__class__" : Str)
  noc : ∀ y ∈ sc.names, y.2 ≠ .cell
  sup : sc.names.lookup ("super" : Str) = some .globalImplicit
  cls : sc.names.lookup ("__class__" : Str) = some .free
/-- what is known of the def and its class D -/
structure SupK (P : Program) (K : PySem.W.Frag) (mg : Str → Option Value) (cdv : Value) (cc D : Addr) : Prop where
  code : ∃ (cda : Addr) (ccl : Value) (cdd : Option Addr) (vs : Array Value) (ccs : Array (Option Value)) (file : Str) (tf : Tok), cdv = .ref cda ∧ K.lookup cda = some ⟨ccl, cdd, .fields vs, ccs⟩ ∧ vs[2]? = some (.str file tf) ∧ ((P.main.file : Str) == file) = true
  cell : ∃ (cl : Value) (cld : Option Addr) (csl : Array (Option Value)), K.lookup cc = some ⟨cl, cld, .cell (some (.ref D)), csl⟩
  hD : ∃ cdD, PySem.W.clsIn K D = some cdD
  mgs : mg "super" = none
  top : (P.main.scope.names.lookup ("super" : Str)).isSome = false
  noth : PySem.W.nsIn K cStatics "thirdparty.any" = some none
/-- what is known of the object's class C -/
structure SupC (K : PySem.W.Frag) (D C : Addr) : Prop where
  T : OexC K C
  sub : PySem.W.mroIn K C (.ref D) = some true
  sup : PySem.W.ks_superIn K C D "__init__" = some (some (.builtin "ValueError.__init__"))
  ve : PySem.W.subIn K (.ref C) (.type "ValueError") = some true
theorem lookup_one {a x : Str} {b c : Addr} (h : ([(a, b)] : List (Str × Addr)).lookup x = some c) : x = a ∧ c = b := by
  by_cases e : x = a
  · subst e
    simp [List.lookup] at h
    exact ⟨rfl, h.symm⟩
  · have e' : (x == a) = false := by simpa using e
    simp [List.lookup, e'] at h
theorem lookup_app {α : Type} {x : Str} : ∀ (l r : List (Str × α)), (l ++ r).lookup x = match l.lookup x with | some v => some v | none => r.lookup x
  | [], r => rfl
  | (k, v) :: l, r => by
    show (match x == k with | true => some v | false => (l ++ r).lookup x) = match (match x == k with | true => some v | false => l.lookup x) with | some v => some v | none => r.lookup x
    cases x == k
    · exact lookup_app l r
    · rfl
theorem lookup_out {α : Type} {x : Str} : ∀ (l : List (Str × α)), (∀ p ∈ l, p.1 ≠ x) → l.lookup x = none
  | [], _ => rfl
  | (k, v) :: l, h => by
    have hk : (x == k) = false := by
      have := h (k, v) (List.mem_cons_self ..)
      simpa using fun e => this e.symm
    show (match x == k with | true => some v | false => l.lookup x) = none
    rw [hk]
    exact lookup_out l fun p hp => h p (List.mem_cons_of_mem _ hp)
theorem rev_lookup : ∀ {ps : List Str} {us : List Value} {i : Nat} {x : Str} {u : Value}, ps.Nodup → ps[i]? = some x → us[i]? = some u → (ps.zip us).reverse.lookup x = some u
  | [], _, i, _, _, _, h, _ => by simp at h
  | p :: ps, [], i, _, _, _, _, h => by simp at h
  | p :: ps, w :: us, 0, x, u, nd, h1, h2 => by
    simp at h1 h2
    subst h1 h2
    rw [List.zip_cons_cons, List.reverse_cons, lookup_app, lookup_out _ fun q hq => ?_]
    · simp [List.lookup]
    · intro e
      have hm := List.mem_reverse.mp hq
      obtain ⟨a, b⟩ := q
      have h3 := (List.of_mem_zip hm).1
      simp only at e
      rw [e] at h3
      exact (List.nodup_cons.mp nd).1 h3
  | p :: ps, w :: us, i + 1, x, u, nd, h1, h2 => by
    rw [List.zip_cons_cons, List.reverse_cons, lookup_app, rev_lookup (i := i) (List.nodup_cons.mp nd).2 (by simpa using h1) (by simpa using h2)]
/-- the context of such a def's body -/
def cxS (CX : CXT) (P : Program) (w : World) (K : PySem.W.Frag) (mg : Str → Option Value) (base : Heap) (N : List Str) (qual : Str) (scope : Scope) (f : Addr) (cd : Value) (cc : Addr) (A : Around) (outer : List Env) (s : Shared) (H : Hp) (E : XK) : Cx where
  prog := P
  w := w
  K := K
  mg := mg
  base := base
  A := A.deeper (PySem.W.ksEnv qual scope s.heap.objs.size f cd cc)
  N := N
  s_0 := s
  H_0 := H
  env := PySem.W.ksEnv qual scope s.heap.objs.size f cd cc
  outer := outer
  stack := PySem.W.ksEnv qual scope s.heap.objs.size f cd cc :: outer
  ex := []
  calm := true
  fn := fun _ => false
  pn := []
  xe := fun e s' => wpAny (model P w) (A.deeper (PySem.W.ksEnv qual scope s.heap.objs.size f cd cc)) (leaving (PySem.W.ksEnv qual scope s.heap.objs.size f cd cc) e) (fun _ s'' => CX outer H s E e s'') (fun e' s'' => CX outer H s E e' s'') s'
theorem inv_sup {CX : CXT} {P : Program} {w : World} {K : PySem.W.Frag} {mg : Str → Option Value} {base : Heap} {N ps : List Str} {qual : Str} {scope : Scope} {f cc D : Addr} {cd : Value} {A : Around} {outer : List Env} {s : Shared} {H : Hp} {E : XK} {us : List Value} {vs : List V} {h1 : Heap} {tk : Tok}
    (S : SupScope N ps scope) (SK : SupK P K mg cd cc D) (hd : A.handled = none) (e0 : Env0 P w K mg base A outer s H) (hl : vs.length = ps.length) (r : Vals vs us)
    (hns : h1.Ns s.heap.objs.size (fun x => (ps.zip us).reverse.lookup x)) (hk : ∀ b o, s.heap.get? b = some o → h1.get? b = some o) :
    Inv (cxS CX P w K mg base N qual scope f cd cc A outer s H E) [] (L2.start N vs) H { s with heap := h1, toks := tk } := by
  have hpl : ps.length ≤ N.length := by have := congrArg List.length S.pre; rw [List.length_take] at this; omega
  obtain ⟨cl, cld, csl, hcell⟩ := SK.cell
  have hbase := e0.mod.kin _ _ hcell
  have noA : ∀ b : Addr, b ∉ (cxS CX P w K mg base N qual scope f cd cc A outer s H E).ex := fun b z => absurd (show b ∈ ([] : List Addr) from z) (by simp)
  refine ⟨⟨e0.mod, S.kind, rfl, rfl, Nat.le_refl _, fun y z c h1 h2 => ?_, fun y hy => ?_, fun y c z _ => Bool.noConfusion (show false = true from z), fun _ => hd, Around.frames_deeper e0.frames, .inr ⟨rfl, rfl⟩, fun b z => absurd z (noA b), e0.bs, e0.bsz, fun b _ _ => noA b, fun b z => absurd z (noA b), e0.funs, e0.frf⟩,
    rfl, e0.bare, Un.kept hk, ⟨_, hns, fun i y v h1 h2 h3 => ?_⟩, fun y c h => ?_, e0.hok.fresh (Nat.le_refl _), fun y c h => ?_, fun p hp => absurd (show p ∈ ([] : List (Addr × Obj)) from hp) (by simp), e0.hok.kept hk, ?_⟩
  · exact (lookup_one h1).1.trans (lookup_one h2).1.symm
  · have hy : scope.names.lookup y = some .cell ∨ scope.names.lookup y = some .free := hy
    rcases hy with hy | hy
    · exact absurd rfl (S.noc _ (PySem.mem_of_lookup hy))
    · have e := S.fre _ (PySem.mem_of_lookup hy) rfl
      simp only at e
      subst e
      exact ⟨cc, rfl⟩
  · have hi : i < vs.length := by
      unfold L2.start at h2
      by_cases hi : i < vs.length
      · exact hi
      · rw [List.getElem?_append_right (by simpa using hi)] at h2
        rw [List.getElem?_replicate] at h2
        split at h2 <;> cases h2
    have ha : vs[i]? = some v := by
      unfold L2.start at h2
      rw [List.getElem?_append_left (by simpa using hi), List.getElem?_map] at h2
      cases e : vs[i]? with
      | none => rw [e] at h2; cases h2
      | some a => rw [e] at h2; cases h2; rfl
    obtain ⟨u, hu, rv⟩ := r.get ha
    have hp : ps[i]? = some y := by
      rw [← S.pre, List.getElem?_take_of_lt (by omega)]; exact h1
    have ndP : ps.Nodup := by rw [← S.pre]; exact S.nd.sublist (List.take_sublist _ _)
    exact ⟨u, rv, .inl ⟨S.par y (List.mem_of_getElem? hp), rev_lookup ndP hp hu⟩⟩
  · obtain ⟨rfl, rfl⟩ := lookup_one h
    exact ⟨_, ⟨_, hk _ _ (e0.bs _ _ hbase).1, rfl⟩⟩
  · obtain ⟨rfl, rfl⟩ := lookup_one h
    exact (e0.bs _ _ hbase).2
  · unfold L2.start
    show _ = N.length
    rw [List.length_append, List.length_map, List.length_replicate]
    omega
/-- THE RULE: the def of such an initializer -/
theorem super_fn {CX : CXT} {P : Program} {w : World} {K : PySem.W.Frag} {mg : Str → Option Value} {base : Heap} {k : Nat} {f cc D : Addr} {name qual : Str} {params : Arguments} {e : Expr} {es : List Expr} {rest : List Stmt} {p0 p1 p2 p3 p4 : Pos} {scope : Scope} {dV kV doc pm cdv ct oc : Value} {an od : Option Addr}
    {osl : Array (Option Value)} {N ps : List Str} {sp : Sp} {ar : Arg}
    (lk : K.lookup f = some ⟨oc, od, .func (PySem.W.ksFn name qual params (.Expr (.Call (.Attribute (.Call (.Name "super" p0) [] [] p1) "__init__" p2) (e :: es) [] p3) p4 :: rest) scope dV kV doc pm an cdv ct cc), osl⟩)
    (hcd : PySem.W.codeIn K cdv qual = true) (S : SupScope N ps scope) (hp : (params.posonlyargs ++ params.args).head? = some ar) (har : ps.head? = some ar.arg) (SK : SupK P K mg cdv cc D)
    (len : ∀ vs H Q E, sp vs H Q E → vs.length = ps.length)
    (hbody : ∀ (A : Around) (outer : List Env) (s : Shared) (H : Hp) (vs : List V) (Q : VK) (E : XK), Room k (A.deeper (PySem.W.ksEnv qual scope s.heap.objs.size f cdv cc)) → sp vs H Q E →
      ∃ (ta : TA) (t : TS) (a C : Addr), PA (cxS CX P w K mg base N qual scope f cdv cc A outer s H E) (e :: es) ta ∧ PSs (cxS CX P w K mg base N qual scope f cdv cc A outer s H E) rest t ∧ vs.head? = some (.ref a) ∧ SupC K D C ∧ H a = some (exo a C none) ∧
        ta (L2.start N vs) H fun ws H1 => ws.length ≤ 1000 ∧ H1 a = some (exo a C none) ∧ t { nx := fun _ H' => Q .non H', rt := Q } (L2.start N vs) H1)
    (hse : ∀ env, starEach (e :: es) env = (false, eval e env) :: starEach es env) (hpl : ∀ (pos : Pos) (env : Env), (backTo pos (starEach es env)).any (·.1) = false)
    (pl : Env → Sem Bool) (hev : ∀ env, eval (.Call (.Attribute (.Call (.Name "super" p0) [] [] p1) "__init__" p2) (e :: es) [] p3) env = (do
      let ov ← attributeBase (.Call (.Name "super" p0) [] [] p1) "__init__" env (eval (.Call (.Name "super" p0) [] [] p1) env)
      standAt p2.atName
      let (f, first) ← holding [ov] (getMethod ov "__init__" (pl env))
      callWith p3 f first (backTo p3 (starEach (e :: es) env)) []))
    (hsw : ∀ (l : Nat) (env : Env), swapsWith (.Call (.Attribute (.Call (.Name "super" p0) [] [] p1) "__init__" p2) (e :: es) [] p3) none l env = pure false := by intros; rfl) :
    FnOk P w K mg base CX (k + 1) f (PySem.W.ksFn name qual params (.Expr (.Call (.Attribute (.Call (.Name "super" p0) [] [] p1) "__init__" p2) (e :: es) [] p3) p4 :: rest) scope dV kV doc pm an cdv ct cc) ps sp := by
  refine ⟨len, fun A outer s H args us vs Q E hr e0 hb r hsp => ?_⟩
  have hl := len _ _ _ _ hsp
  have KX : K.In s.heap := e0.mod.kin.keeps fun b o e => (e0.bs b o e).1
  have lim : s.heap.NoLimit := e0.mod.nolimit.keeps fun b o e => (e0.bs b o e).1
  obtain ⟨ta, t, a, C, hpa, hps, hva, SC, hea, hq⟩ := hbody A outer s H vs Q E (hr.deeper _) hsp
  have hul : us.length = ps.length := by rw [← hl]; exact r.length.symm
  refine PySem.ks_codeAny_call_defAt (R := L2.CR CX outer P w H s Q E) hr.depth (KX _ _ lk) rfl lim (PySem.W.codeRec_of KX hcd) rfl hb S.noc (fun y hy => S.par y.1 (List.of_mem_zip (show (y.1, y.2) ∈ ps.zip us from hy)).1) (fun h1 hns hk1 => ?_) S.co S.gen S.kind
  have I : Inv (cxS CX P w K mg base N qual scope f cdv cc A outer s H E) [] (L2.start N vs) H { s with heap := h1, toks := s.toks + (ps.zip us).length } := inv_sup S SK hr.hd e0 hl r hns hk1
  refine PySem.ks_wpAt_execs_cons (PySem.ks_wpAt_Expr_any (PySem.ks_wpAt_MethodCall ?_ (hev _)) I.quiet (hsw _ _))
  obtain ⟨cda, ccl, cdd, cvs, ccs, file, tf, rfl, hcode, hvs, hfile⟩ := SK.code
  obtain ⟨cl, cld, csl, hcell⟩ := SK.cell
  obtain ⟨cdD, hD⟩ := SK.hD
  obtain ⟨oD, hDl, hDd⟩ : ∃ oD, K.lookup D = some oD ∧ oD.data = .cls cdD := by
    unfold PySem.W.clsIn at hD
    split at hD
    · rename_i c d cd' sl ho
      cases hD
      exact ⟨_, ho, rfl⟩
    · cases hD
  have K1 : K.In h1 := I.kIn
  obtain ⟨mb, hb1, hb2⟩ := I.mod.blt
  obtain ⟨m, hn, hloc⟩ := I.loc
  obtain ⟨t1, ho⟩ := exo_at I.hok hea
  refine PySem.ks_wpAt_super_base S.sup S.cls (by decide) rfl (K1 _ _ lk) rfl hp rfl (K1 _ _ hcode) rfl hvs hfile SK.top ?_
  refine PySem.W.ks_loadName_global S.kind S.sup (Calls.loadGlobal_builtin (I.mod.glob.keeps I.bk) SK.mgs (hb1.keeps I.bk) ((hb2 _ (by decide)).trans (show bootBuiltins "super" = some (.type "super") by decide +kernel)) ⟨rfl, ?_⟩)
  refine wpAny_loadName_free S.kind S.cls rfl ⟨_, K1 _ _ hcell, rfl⟩ ?_
  have har0 : ps[0]? = some ar.arg := by rw [← List.head?_eq_getElem?]; exact har
  have hvs0 : vs[0]? = some (.ref a) := by rw [← List.head?_eq_getElem?]; exact hva
  have hN0 : N[0]? = some ar.arg := by
    have h0 : 0 < ps.length := (List.getElem?_eq_some_iff.mp har0).1
    rw [← S.pre, List.getElem?_take_of_lt h0] at har0
    exact har0
  have hs0 : (L2.start N vs)[0]? = some (some (.ref a)) := by
    have h0 : 0 < (vs.map some).length := by rw [List.length_map]; exact (List.getElem?_eq_some_iff.mp hvs0).1
    unfold L2.start
    rw [List.getElem?_append_left h0, List.getElem?_map, hvs0]
    rfl
  have hlar : scope.names.lookup ar.arg = some .local := S.par _ (List.mem_of_getElem? har0)
  obtain ⟨u0, hu0, hl0⟩ := hloc 0 ar.arg (.ref a) hN0 hs0 (.inl hlar)
  have hm0 : m ar.arg = some u0 := by
    rcases hl0 with ⟨_, z⟩ | ⟨z, _⟩
    · exact z
    · have z : scope.names.lookup ar.arg = some .cell ∨ scope.names.lookup ar.arg = some .free := z
      rw [hlar] at z
      rcases z with z | z <;> cases z
  obtain rfl : u0 = Value.ref a := hu0
  refine wpAny_loadName_local S.kind hlar hn hm0 ?_
  refine PySem.ks_wpAny_isType_cls (K1 _ _ hDl) hDd ⟨rfl, ?_⟩
  have II : PySem.W.InstAt h1 a { cls := .ref C, dict := none, data := .fields #[.ref t1, .none, .none, .none, .bool false, .none] } C none := ⟨ho, rfl, rfl, trivial⟩
  refine PySem.ks_wpAny_call_super (K1 _ _ hDl) hDd ho rfl (fun c z => by cases z) (PySem.W.looks_mroIn K1 SC.sub) (fun h2 e2 k2 => ?_)
  -- the super object stands
  have I1 : Inv (cxS CX P w K mg base N qual scope f (.ref cda) cc A outer s H E) [] (L2.start N vs) H { s with heap := h2, toks := s.toks + (ps.zip us).length } := I.kept (h' := h2) (t' := s.toks + (ps.zip us).length) k2
  have K2 : K.In h2 := I1.kIn
  obtain ⟨cd, hcd2⟩ : ∃ cd, PySem.W.clsIn K C = some cd := by
    have z := SC.sup
    unfold PySem.W.ks_superIn at z
    cases y : PySem.W.clsIn K C with
    | none => rw [y] at z; cases z
    | some cd => exact ⟨cd, rfl⟩
  have hsup := SC.sup
  unfold PySem.W.ks_superIn at hsup
  rw [hcd2] at hsup
  have I2i : PySem.W.InstAt h2 a { cls := .ref C, dict := none, data := .fields #[.ref t1, .none, .none, .none, .bool false, .none] } C none := ⟨k2 _ _ ho, rfl, rfl, trivial⟩
  refine PySem.W.kxs_getMethod PySem.W.kxs_ValueError e2 (PySem.W.looks_opaque K2 SK.noth) (l₀ := cd.mro) (fun A Q E s k q => wpAny_bind ((PySem.W.looks_clsIn K2 hcd2) A _ E s k (wpAny_pure q))) rfl K2 hsup (I2i.type.andThen (PySem.W.looks_subIn K2 SC.ve)) (PySem.W.ks_ne K2 I2i hcd2) (by decide) ?_
  -- the bound initializer stands
  have k3 : ∀ b o, h2.get? b = some o → (h2.push (PySem.W.kxs_mw "ValueError.__init__" a)).get? b = some o := fun b o e => Heap.get?_push_of_some _ e
  have I2 : Inv (cxS CX P w K mg base N qual scope f (.ref cda) cc A outer s H E) [] (L2.start N vs) H { s with heap := h2.push (PySem.W.kxs_mw "ValueError.__init__" a), toks := s.toks + (ps.zip us).length + 1 } := I1.kept k3
  have I3 : Inv (cxS CX P w K mg base N qual scope f (.ref cda) cc A outer s H E) [(h2.objs.size, PySem.W.kxs_mw "ValueError.__init__" a)] (L2.start N vs) H { s with heap := h2.push (PySem.W.kxs_mw "ValueError.__init__" a), toks := s.toks + (ps.zip us).length + 1 } := I2.pins_of fun p hp => by
    have hp : p = (h2.objs.size, PySem.W.kxs_mw "ValueError.__init__" a) := by simpa using hp
    subst hp
    exact ⟨Heap.get?_push_at rfl rfl, I1.hok.fresh (Nat.le_refl _), Nat.ne_of_gt I1.lt, I1.nofs (Nat.le_refl _), fun v q => by cases q⟩
  rw [hse]
  refine PySem.W.kxs_callWith (i := "ValueError.__init__") (x := a) (by show (false || (backTo p3 (starEach es _)).any (·.1)) = false; rw [hpl]; rfl) ?_
  have hrun := hpa.run p3 _ _ _ _ _ I3 hq
  rw [hse] at hrun
  refine Calls.evalArgs_plain (wpAny_mono hrun (fun us2 s1 hs1 => ?_) fun _ _ z => z)
  obtain ⟨ws, H1, J1, r1, hz, he1, hq1⟩ := hs1
  have hpin := (J1.pin (h2.objs.size, PySem.W.kxs_mw "ValueError.__init__" a) (by simp)).1
  refine ⟨hpin, ?_⟩
  -- the initializer of ValueError, called
  obtain ⟨nm, q, N', bs, bm, sn, sub, ab, col, dd, k0, k1, k2', k3', k5, hC, hbm⟩ := SC.T.cls
  obtain ⟨t2, ho2⟩ := exo_at J1.hok he1
  have KJ : K.In s1.heap := J1.kIn
  have hlen : us2.length ≤ sizeLine := by rw [← Paired.length r1, sizeLine_eq]; omega
  obtain ⟨hp3, g3, d3, tk3, os3⟩ := s1
  refine wpAny_call (codeAny_of_tree ?_)
  show wpAny _ (A.deeper _).in1 (callAny (.ref h2.objs.size) ⟨us2, []⟩) _ _ _
  simp only [callAny]
  refine wpAny_bind (wpAny_load hpin ?_)
  simp only [PySem.W.kxs_mw, show (Value.type "method-wrapper" == Value.type "method" || Value.type "method-wrapper" == Value.type "builtin_function_or_method" || Value.type "method-wrapper" == Value.type "method-wrapper") = true by decide, if_true]
  refine PySem.W.KFB.if_so (by decide) ?_
  refine wpAny_bind (PySem.W.check_bound_init F.excBase_ValueError.toExcCallFacts (KJ _ _ hC) ho2 rfl ?_)
  refine wpAny_bind (wpAny_pure (wpAny_pure ?_))
  refine ⟨plainId_quiet F.excBase_ValueError.init.plain _, codeAny_builtin F.excBase_ValueError.initEntry ?_⟩
  refine PySem.W.exc_init_tree (cls := .ref C) (t0 := t2) (dv := none) (c2 := .none) (c3 := .none) (b4 := .bool false) ho2 hlen (fun h4 k4 e4 _ => ?_)
  have J2 := J1.write (h' := h4) (t' := tk3) (x := a) (e := a) (o := exo a C none) (by rw [he1]; exact True.intro) (.inl rfl) k4 ⟨_, e4⟩ (exo_ok e4)
  have eu : upd H1 a (exo a C none) = H1 := by
    funext b
    by_cases hb : b = a
    · rw [hb, upd_same, he1]
    · rw [upd_ne hb]
  rw [eu] at J2
  refine wpAt_of_wpAny (wpAny_mono (hps.run _ _ _ _ _ J2 hq1) (fun fl s' hs => ?_) fun e s' hs => hs)
  have fin : ∀ {σ' : L2.St} {H' : Hp} {v : V} {u : Value}, Inv (cxS CX P w K mg base N qual scope f (.ref cda) cc A outer s H E) [(h2.objs.size, PySem.W.kxs_mw "ValueError.__init__" a)] σ' H' s' → RelV v u → Q v H' → CE outer P w H s Q u s' :=
    fun {σ' H' v u} J rv q => ⟨v, H', J.os, J.bare, J.base, J.hok, rv, q⟩
  cases fl with
  | ret u =>
    obtain ⟨v, σ', H', J, rv, q⟩ := hs
    exact fin J rv q
  | next =>
    obtain ⟨σ', H', J, q⟩ := hs
    exact fin (v := V.non) (u := Value.none) J rfl q
  | brk =>
    obtain ⟨_, _, _, q⟩ := hs
    exact False.elim q
  | cont =>
    obtain ⟨_, _, _, q⟩ := hs
    exact False.elim q
end RA

set_option maxHeartbeats 4000000
/-! The initializers of own exceptions: super().__init__(..), then the fields by the parameters. -/
namespace RA
open PySem PySem.Spec PyProof.Rows L2

theorem zip_rev {α β : Type} : ∀ {l : List α} {r : List β}, l.length = r.length → (l.zip r).reverse = l.reverse.zip r.reverse
  | [], [], _ => rfl
  | [], _ :: _, h => by simp at h
  | _ :: _, [], h => by simp at h
  | a :: l, b :: r, h => by
    have h' : l.length = r.length := by simpa using h
    rw [List.zip_cons_cons, List.reverse_cons, List.reverse_cons, List.reverse_cons, zip_rev h', List.zip_append (by simp [h'])]
    rfl
/-- self.f = p, p at slot j -/
def IsSt (X : Cx) (q : Str × Nat) (st : Stmt) : Prop := ∃ (p : Str) (p1 p2 p3 p4 : Pos), st = .Assign [.Attribute (.Name "self" p1) q.1 p2] (.Name p p3) p4 ∧ X.N[q.2]? = some p ∧ Vis X.env.scope p ∧ (p == ("__debug__" : Str)) = false ∧ (p == ("__classdict__" : Str)) = false
def IsSts (X : Cx) : List (Str × Nat) → List Stmt → Prop
  | [], sts => sts = []
  | q :: L, sts => ∃ st r, sts = st :: r ∧ IsSt X q st ∧ IsSts X L r
/-- the values at their slots -/
def AtSl (σ : L2.St) : List (Str × Nat) → List V → Prop
  | [], ys => ys = []
  | q :: L, ys => ∃ y r, ys = y :: r ∧ σ[q.2]? = some (some y) ∧ AtSl σ L r
section
variable {X : Cx} {C : Addr}
theorem ps_one {q : Str × Nat} {st : Stmt} (h : IsSt X q st) (hN : X.N[0]? = some ("self" : Str)) (hv : Vis X.env.scope "self") : ∃ te to : TE, PS X st (tOst X.K q.1 to te) ∧ (∀ σ H Q y, σ[q.2]? = some (some y) → Q y H → te σ H Q) ∧ ∀ σ H Q y, σ[0]? = some (some y) → Q y H → to σ H Q := by
  obtain ⟨p, p1, p2, p3, p4, rfl, h1, h2, h3, h4⟩ := h
  exact ⟨_, _, ps_ost (pe_var (pos := p1) hN hv (by decide) (by decide)) (pe_var (pos := p3) h1 h2 h3 h4), fun σ H Q y a b => ⟨y, a, b⟩, fun σ H Q y a b => ⟨y, a, b⟩⟩
theorem ps_sts (T : OexC X.K C) (hN : X.N[0]? = some ("self" : Str)) (hv : Vis X.env.scope "self") : ∀ (L : List (Str × Nat)) (sts : List Stmt), IsSts X L sts → (∀ q ∈ L, PySem.W.findIn X.K (.ref C) q.1 = some none) →
    ∃ t, PSs X sts t ∧ ∀ (D : Ends) (σ : L2.St) (a dx : Addr) (fs : List (Str × V)) (ys : List V) (H : Hp), σ[0]? = some (some (.ref a)) → AtSl σ L ys → fs.length + L.length ≤ 900 → a ≠ dx → H a = some (exo a C (some dx)) → H dx = some (exd dx fs) →
      (∀ H', H' a = some (exo a C (some dx)) → H' dx = some (exd dx (((L.map (·.1)).zip ys).reverse ++ fs)) → (∀ b, b ≠ dx → H' b = H b) → D.nx σ H') → t D σ H
  | [], sts, h, hf => by
    rw [show sts = [] from h]
    exact ⟨_, pss_nil, fun D σ a dx fs ys H h0 hy hl hn ha hd k => k H ha (by rw [show ys = [] from hy]; exact hd) fun _ _ => rfl⟩
  | q :: L, sts, h, hf => by
    obtain ⟨st, r, rfl, h1, h2⟩ := h
    obtain ⟨t, ht, kt⟩ := ps_sts T hN hv L r h2 fun q hq => hf q (List.mem_cons_of_mem _ hq)
    obtain ⟨te, to, hs, ke, ko⟩ := ps_one h1 hN hv
    refine ⟨_, pss_cons hs ht, fun D σ a dx fs ys H h0 hy hl hn ha hd k => ?_⟩
    obtain ⟨y, rr, rfl, hy1, hy2⟩ := hy
    refine ke σ H _ y hy1 (ko σ H _ _ h0 ⟨a, C, rfl, T, hf q List.mem_cons_self, .inr ⟨dx, fs, ha, hd, by simp only [List.length_cons] at hl; omega, ?_⟩⟩)
    refine kt D σ a dx ((q.1, y) :: fs) rr _ h0 hy2 (by simp only [List.length_cons] at hl ⊢; omega) hn (by rw [upd_ne hn]; exact ha) upd_same fun H' g1 g2 g3 => k H' g1 ?_ fun b hb => by rw [g3 b hb, upd_ne hb]
    rw [g2, List.map_cons, List.zip_cons_cons, List.reverse_cons, List.append_assoc]
    rfl
/-- all the stores, from an exception without a dict -/
theorem ps_all (T : OexC X.K C) (hN : X.N[0]? = some ("self" : Str)) (hv : Vis X.env.scope "self") (L : List (Str × Nat)) (sts : List Stmt) (h : IsSts X L sts) (h0 : L ≠ []) (hf : ∀ q ∈ L, PySem.W.findIn X.K (.ref C) q.1 = some none) (hl : L.length ≤ 900) :
    ∃ t, PSs X sts t ∧ ∀ (D : Ends) (σ : L2.St) (a : Addr) (ys : List V) (H : Hp), σ[0]? = some (some (.ref a)) → AtSl σ L ys → H a = some (exo a C none) →
      (∀ d H', H d = none → d ≠ a → H' a = some (exo a C (some d)) → H' d = some (exd d ((L.map (·.1)).zip ys).reverse) → (∀ b o, b ≠ a → H b = some o → H' b = some o) → D.nx σ H') → t D σ H := by
  match L, h, h0, hf, hl with
  | q :: L, h, _, hf, hl =>
    obtain ⟨st, r, rfl, h1, h2⟩ := h
    obtain ⟨t, ht, kt⟩ := ps_sts T hN hv L r h2 fun q hq => hf q (List.mem_cons_of_mem _ hq)
    obtain ⟨te, to, hs, ke, ko⟩ := ps_one h1 hN hv
    refine ⟨_, pss_cons hs ht, fun D σ a ys H s0 hy ha k => ?_⟩
    obtain ⟨y, rr, rfl, hy1, hy2⟩ := hy
    refine ke σ H _ y hy1 (ko σ H _ _ s0 ⟨a, C, rfl, T, hf q List.mem_cons_self, .inl ⟨ha, fun dx hd hne => ?_⟩⟩)
    refine kt D σ a dx [(q.1, y)] rr _ s0 hy2 (by simp only [List.length_cons, List.length_nil] at hl ⊢; omega) (Ne.symm hne) upd_same (by rw [upd_ne hne, upd_same]) fun H' g1 g2 g3 => k dx H' hd hne g1 ?_ fun b o hb hbo => ?_
    · rw [g2, List.map_cons, List.zip_cons_cons, List.reverse_cons]
    · have hbd : b ≠ dx := ne_of_none hbo hd
      rw [g3 b hbd, upd_ne hb, upd_ne hbd]
      exact hbo
end

/-- slots for the arguments of super().__init__: numbers alone are read -/
def slK : List Bool → List V → List Sl
  | [], _ => []
  | b :: ks, us => (match us with
    | u :: r => (if b then (match u with | .int i => .va (.int i) | _ => .un) else .un) :: slK ks r
    | [] => .un :: slK ks [])
theorem slK_len : ∀ (ks : List Bool) (us : List V), (slK ks us).length = ks.length
  | [], _ => rfl
  | b :: ks, us => by cases us <;> simp [slK, slK_len]
theorem slK_at : ∀ {ks : List Bool} {us : List V} {i : Nat} {p : PV}, (slK ks us)[i]? = some (.va p) → ∃ j : Int, p = .int j ∧ us[i]? = some (.int j)
  | [], _, _, _, h => by simp [slK] at h
  | b :: ks, [], 0, p, h => by simp [slK] at h
  | b :: ks, [], i + 1, p, h => by
    obtain ⟨j, _, z⟩ := slK_at (ks := ks) (us := []) (i := i) (by simpa [slK] using h)
    simp at z
  | b :: ks, u :: us, 0, p, h => by
    simp only [slK, List.getElem?_cons_zero, Option.some.injEq] at h
    split at h
    · split at h
      · cases h; exact ⟨_, rfl, rfl⟩
      · cases h
    · cases h
  | b :: ks, u :: us, i + 1, p, h => by
    obtain ⟨j, e, z⟩ := slK_at (ks := ks) (us := us) (i := i) (by simpa [slK] using h)
    exact ⟨j, e, by simpa using z⟩
theorem slK_no : ∀ {ks : List Bool} {us : List V} {i : Nat} {s : Sl}, (slK ks us)[i]? = some s → (∃ p, s = .va p) ∨ s = .un
  | [], _, _, _, h => by simp [slK] at h
  | b :: ks, [], 0, s, h => by simp [slK] at h; exact .inr h.symm
  | b :: ks, [], i + 1, s, h => slK_no (ks := ks) (us := []) (i := i) (by simpa [slK] using h)
  | b :: ks, u :: us, 0, s, h => by
    simp only [slK, List.getElem?_cons_zero, Option.some.injEq] at h
    split at h
    · split at h
      · exact .inl ⟨_, h.symm⟩
      · exact .inr h.symm
    · exact .inr h.symm
  | b :: ks, u :: us, i + 1, s, h => slK_no (ks := ks) (us := us) (i := i) (by simpa [slK] using h)

/-- THE RULE: the initializer of an own exception -/
theorem xi_fn {P : Program} {w : World} {K : PySem.W.Frag} {mg : Str → Option Value} {base : Heap} {T : Tb} {c : Nat} {C f cc D : Addr} {name qual : Str} {params : Arguments} {e : Expr} {es : List Expr} {rest : List Stmt} {p0 p1 p2 p3 p4 : Pos} {scope : Scope} {dV kV doc pm cdv ct oc : Value} {an od : Option Addr}
    {osl : Array (Option Value)} {N ps : List Str} {ar : Arg} {ks : List Bool} {sup : Exs} {L : List (Str × Nat)}
    (lk : K.lookup f = some ⟨oc, od, .func (PySem.W.ksFn name qual params (.Expr (.Call (.Attribute (.Call (.Name "super" p0) [] [] p1) "__init__" p2) (e :: es) [] p3) p4 :: rest) scope dV kV doc pm an cdv ct cc), osl⟩)
    (hcd : PySem.W.codeIn K cdv qual = true) (S : SupScope N ps scope) (hp : (params.posonlyargs ++ params.args).head? = some ar) (har : ps.head? = some ar.arg) (SK : SupK P K mg cdv cc D) (SC : SupC K D C)
    (hT : T.K = K) (hblt : ∀ x ∈ bNames, mg x = none)
    (hself : ps[0]? = some ("self" : Str)) (hps : ps.length = ks.length + 1) (hNs : N.length = ps.length)
    (hL : L.map (·.2) = (List.range ks.length).map (· + 1)) (hfl : T.fld c = (L.map (·.1)).reverse) (h0 : L ≠ []) (hl9 : L.length ≤ 900) (hf : ∀ q ∈ L, PySem.W.findIn K (.ref C) q.1 = some none)
    (hst : ∀ A outer s H E, IsSts (cxS (L2N.CX P w) P w K mg base N qual scope f cdv cc A outer s H E) L rest)
    (hck : ckEs ({ N := N, gn := [], fnm := [] } : Ck) scope (fun _ => false) sup (e :: es) = true)
    (hev : ∀ us : List V, okV ks us → ∃ ws, evs [] (fun _ _ _ => .stk) sup (.un :: slK ks us) [] = .ok ws (.un :: slK ks us) [] ∧ ws.length ≤ 1000)
    (hse : ∀ env, starEach (e :: es) env = (false, eval e env) :: starEach es env) (hpl : ∀ (pos : Pos) (env : Env), (backTo pos (starEach es env)).any (·.1) = false)
    (pl : Env → Sem Bool) (hevl : ∀ env, eval (.Call (.Attribute (.Call (.Name "super" p0) [] [] p1) "__init__" p2) (e :: es) [] p3) env = (do
      let ov ← attributeBase (.Call (.Name "super" p0) [] [] p1) "__init__" env (eval (.Call (.Name "super" p0) [] [] p1) env)
      standAt p2.atName
      let (f, first) ← holding [ov] (getMethod ov "__init__" (pl env))
      callWith p3 f first (backTo p3 (starEach (e :: es) env)) [])) :
    FnOk P w K mg base (L2N.CX P w) 1 f (PySem.W.ksFn name qual params (.Expr (.Call (.Attribute (.Call (.Name "super" p0) [] [] p1) "__init__" p2) (e :: es) [] p3) p4 :: rest) scope dV kV doc pm an cdv ct cc) ps (spX T c C (okV ks)) := by
  have hLl : L.length = ks.length := by
    have := congrArg List.length hL
    simpa using this
  refine super_fn lk hcd S hp har SK (fun vs H Q E h => ?_) (fun A outer s H vs Q E hr h => ?_) hse hpl pl hevl
  · obtain ⟨a, us, rfl, h1, h2, _⟩ := h
    rw [List.length_cons, okV_len h2, hps]
  · obtain ⟨a, us, rfl, h1, h2, h3, h4⟩ := h
    let S0 : Gs := ⟨{ T with xs := [], nx := 0, fa := fun _ => none, pr := P, wl := w, lm := fun _ _ => False, bm := fun _ => false, tbs := [] }, fun _ => .none, [], fun _ _ _ => .stk, 0⟩
    have hNn : N = ps := by rw [← S.pre, ← hNs, List.take_length]
    have x0 : XOk S0 { N := N, gn := [], fnm := [] } scope (fun _ => false) (cxS (L2N.CX P w) P w K mg base N qual scope f cdv cc A outer s H E) := by
      refine ⟨hT, rfl, rfl, rfl, rfl, rfl, S.nd, fun _ => rfl, (fun h => Bool.noConfusion h), (fun h => Bool.noConfusion h), L2H.roomH_of hr, (fun _ _ h => by simp at h), fun _ => hr, by have := hr.un; show (A.deeper (PySem.W.ksEnv qual scope s.heap.objs.size f cdv cc)).units + 66 < cLine; omega, fun g x h => by simp at h, fun g x h => by simp at h, fun _ j b h => ?_, fun _ j c n h => by simp at h,
        fun c x h => by simp at h, fun c x h => by simp at h, fun j c n h => by simp at h, fun c x ks h => by simp at h, fun c c' h => by simp at h, fun c ns h => by simp at h, rfl, fun k y tb h => by simp at h, fun _ => rfl, (fun p h => by cases h), hblt, fun _ => ⟨fun k chk h => (by cases h), fun f ld h => h.elim, fun f c n h => by simp at h, fun f a h => Bool.noConfusion h, fun f a ds h => by simp at h⟩⟩
      cases h
    obtain ⟨ws, he, hw⟩ := hev us h2
    have len : (L2.start N (.ref a :: us)).length = ks.length + 1 := by
      unfold L2.start
      simp only [List.length_append, List.length_map, List.length_cons, List.length_replicate]
      rw [okV_len h2]
      omega
    have slot : ∀ i, i < us.length + 1 → (L2.start N (.ref a :: us))[i]? = ((V.ref a :: us)[i]?).map some := fun i hi => by
      unfold L2.start
      rw [List.getElem?_append_left (by simpa using hi), List.getElem?_map]
    have ul := okV_len h2
    let w0 : Wd := ⟨H, [], fun _ => False, fun _ => False, []⟩
    have ok0 : WOk w0 := ⟨fun _ h => h, fun _ h => h.elim⟩
    have F0 : FRel S0.T w0 (L2.start N (.ref a :: us)) (.un :: slK ks us) [] := by
      refine ⟨ok0, by rw [List.length_cons, slK_len, len], fun i p hi => ?_, fun i p hi => ?_, fun i j p q a hi => ?_, ⟨rfl, (fun n c a h => by simp at h), (fun n n' a h => by have h : ([] : List Addr)[n]? = some a := h; simp at h)⟩, fun i c fs hi => ?_⟩
      · cases i with
        | zero => simp at hi
        | succ i =>
          obtain ⟨j, rfl, hj⟩ := slK_at (by simpa using hi)
          refine ⟨.int j, ?_, by simp only [RepV]⟩
          have hlt := (List.getElem?_eq_some_iff.mp hj).1
          rw [slot (i + 1) (by omega), List.getElem?_cons_succ, hj]
          rfl
      · cases i with
        | zero => simp at hi
        | succ i => rcases slK_no (by simpa using hi) with ⟨_, e⟩ | e <;> cases e
      · cases i with
        | zero => simp at hi
        | succ i => rcases slK_no (by simpa using hi) with ⟨_, e⟩ | e <;> cases e
      · cases i with
        | zero => simp at hi
        | succ i => rcases slK_no (by simpa using hi) with ⟨_, e⟩ | e <;> cases e
    have hv : Vis scope "self" := .inl (S.par _ (List.mem_of_getElem? hself))
    obtain ⟨t, ht, kt⟩ := ps_all (X := cxS (L2N.CX P w) P w K mg base N qual scope f cdv cc A outer s H E) SC.T (by show N[0]? = _; rw [hNn]; exact hself) hv L rest (hst A outer s H E) h0 hf hl9
    refine ⟨_, t, a, C, s_exs sup x0 takesW0 (e :: es) hck, ht, rfl, SC, h3, w0, _, [], rfl, F0, ?_⟩
    show Pst S0.T S0.C W0 (L2.start N (.ref a :: us)) w0 (evs [] (fun _ _ _ => .stk) sup (.un :: slK ks us) []) _
    rw [he]
    intro w' ex F' vs' rv
    have hH : ∀ b o, H b = some o → w'.H b = some o := fun b o hb => ex.keep b o hb fun z => z
    refine ⟨by rw [← rv.len]; exact hw, hH _ _ h3, kt _ _ a us w'.H ?_ ?_ (hH _ _ h3) fun d H' hd hne g1 g2 g3 => h4 d H' ?_ hne g1 ?_ fun b o hb hbo => g3 b o hb (hH b o hbo)⟩
    · rw [slot 0 (by omega)]; rfl
    · have : ∀ (L : List (Str × Nat)) (n : Nat) (us' : List V), L.map (·.2) = (List.range' n L.length) → us'.length = L.length → (∀ i, i < us'.length → (L2.start N (.ref a :: us))[n + i]? = (us'[i]?).map some) → AtSl (L2.start N (.ref a :: us)) L us' := by
        intro L
        induction L with
        | nil => intro n us' _ hl _; exact List.length_eq_zero_iff.mp (by simpa using hl)
        | cons q L ih =>
          intro n us' hm hl hs
          cases us' with
          | nil => simp at hl
          | cons u us' =>
            rw [List.length_cons, List.range'_succ, List.map_cons, List.cons.injEq] at hm
            refine ⟨u, us', rfl, ?_, ih (n + 1) us' hm.2 (by simpa using hl) fun i hi => ?_⟩
            · have := hs 0 (by simp)
              rw [hm.1]
              simpa using this
            · have := hs (i + 1) (by simpa using hi)
              rw [show n + 1 + i = n + (i + 1) by omega]
              simpa using this
      refine this L 1 us (by rw [hL, hLl]; apply List.ext_getElem <;> simp; intro n h1; omega) (by rw [ul, hLl]) fun i hi => ?_
      rw [slot (1 + i) (by omega), show 1 + i = i + 1 by omega, List.getElem?_cons_succ]
    · cases e : H d with
      | none => rfl
      | some o => rw [hH d o e] at hd; cases hd
    · rw [hfl, ← zip_rev (by rw [List.length_map, hLl, ul])]
      exact g2
end RA

/-! What a head must show, piece by piece. -/
namespace RA
open PySem L2
def nsA (K : PySem.W.Frag) (x : Str) : Option Addr := match PySem.W.nsIn K mainGlobals x with | some (some (.ref a)) => some a | _ => none
theorem nsA_of {K : PySem.W.Frag} {x : Str} {a : Addr} (h : PySem.W.nsIn K mainGlobals x = some (some (.ref a))) : nsA K x = some a := by unfold nsA; rw [h]
/-- a class's method -/
def mtA (K : PySem.W.Frag) (C : Addr) (n : Str) : Option Addr := match PySem.W.findIn K (.ref C) n with | some (some (.ref f)) => some f | _ => none
theorem mtA_of {K : PySem.W.Frag} {C f : Addr} {n : Str} (h : PySem.W.findIn K (.ref C) n = some (some (.ref f))) : mtA K C n = some f := by unfold mtA; rw [h]
def clA (tx : Tx) (K : PySem.W.Frag) (c : Nat) : Addr := match tx.cln[c]? with | some x => (nsA K x).getD 0 | none => 0
theorem clA_of {tx : Tx} {K : PySem.W.Frag} {c : Nat} {x : Str} {C : Addr} (h : tx.cln[c]? = some x) (a : PySem.W.nsIn K mainGlobals x = some (some (.ref C))) : clA tx K c = C := by unfold clA; rw [h]; show (nsA K x).getD 0 = C; rw [nsA_of a]; rfl
/-- where a def stands -/
def faI (tx : Tx) (K : PySem.W.Frag) (I : FI) : Option Addr := match I.mt with
  | some (c, n) => mtA K (clA tx K c) n
  | none => I.gn.bind (nsA K)
/-- the code object of the function there; its table -/
def cdA (K : PySem.W.Frag) (a : Addr) : Addr := match K.lookup a with
  | some ⟨_, _, .func fd, _⟩ => (match fd.code with
    | .ref c => c
    | _ => 0)
  | _ => 0
def tbP (K : PySem.W.Frag) (c : Addr) : Addr := match K.lookup c with
  | some ⟨_, _, .fields vs, _⟩ => (match (vs[11]? : Option Value) with
    | some (.ref P) => P
    | _ => 0)
  | _ => 0
def lkL (Is : List FI) : List FI := Is.filter fun I => I.lk.isSome
def tbI (tx : Tx) (K : PySem.W.Frag) (I : FI) : Addr × Addr × Str := (cdA K ((faI tx K I).getD 0), tbP K (cdA K ((faI tx K I).getD 0)), (I.name ++ ".<locals>.") ++ "<lambda>")
/-- the tables of a text, from its written part -/
def ctb (P : Program) (wl : World) (Is : List FI) (tx : Tx) (K : PySem.W.Frag) : Tb where
  K := K
  fld := fun c => (tx.xfl[c]?).getD []
  fa := fun f => (Is[f]?).bind (faI tx K)
  cla := clA tx K
  atn := fun c => (tx.atn[c]?).getD []
  xs := []
  nx := tx.xcn.length
  xca := fun c => match tx.xcn[c]? with | some q => (nsA K q.1).getD 0 | none => 0
  pr := P
  wl := wl
  lm := fun f ld => lamC tx Is f ld.params ld.body ld.scope = true
  bm := fun f => tx.bmn.contains f
  tbs := (lkL Is).map (tbI tx K)
def ccl (P : Program) (wl : World) (Is : List FI) (tx : Tx) (K : PySem.W.Frag) (c : Nat) : Value := .ref ((ctb P wl Is tx K).xca c)
section
variable {P : Program} {wl : World}
theorem fa_gn {K : PySem.W.Frag} {tx : Tx} {I : FI} {gx : Str} {f : Addr} (hm : I.mt = none) (hg : I.gn = some gx) (a : PySem.W.nsIn K mainGlobals gx = some (some (.ref f))) : faI tx K I = some f := by
  unfold faI
  rw [hm]
  show I.gn.bind (nsA K) = some f
  rw [hg, Option.bind_some, nsA_of a]
theorem fa_mt {K : PySem.W.Frag} {tx : Tx} {I : FI} {cj : Nat} {n : Str} {f C : Addr} (hm : I.mt = some (cj, n)) (hC : clA tx K cj = C) (a : PySem.W.findIn K (.ref C) n = some (some (.ref f))) : faI tx K I = some f := by
  unfold faI
  rw [hm]
  show mtA K (clA tx K cj) n = some f
  rw [hC, mtA_of a]
theorem fok_at {K : PySem.W.Frag} {mg : Str → Option Value} {Is : List FI} {tx : Tx} {I : FI} {j : Nat} {f : Addr} {fd : FuncData} (hj : Is[j]? = some I) (hfa : faI tx K I = some f) (hm : ∀ x, I.gn = some x → mg x = some (.ref f)) (F : FunD K I.nm I.name I.st f fd) (b : Binds K fd I.ps [])
    (d : I.dfl ≠ [] → ∃ us : List Value, Vals (I.dfl.map V.int) us ∧ Binds K fd I.ps us) : ∃ a fd, FOk K mg a fd I ∧ (ctb P wl Is tx K).fa j = some a :=
  ⟨f, fd, ⟨F, hm, b, d⟩, by show (Is[j]?).bind (faI tx K) = some f; rw [hj]; exact hfa⟩
theorem mt_at {K : PySem.W.Frag} {Is : List FI} {tx : Tx} {I : FI} {j cj : Nat} {n : Str} {f C : Addr} (hj : Is[j]? = some I) (hm : I.mt = some (cj, n)) (hC : clA tx K cj = C)
    (a : PySem.W.findIn K (.ref C) n = some (some (.ref f))) (fn : PySem.W.isFn K (.ref f) = true) (kp : PySem.W.keepIn K (.ref f) = true) (cl : Cls K C) (mk : n = ("__init__" : Str) → Mk K C f) :
    ∃ b, (ctb P wl Is tx K).fa j = some b ∧ Cls K ((ctb P wl Is tx K).cla cj) ∧ L2.Meth K ((ctb P wl Is tx K).cla cj) n b ∧ (n = ("__init__" : Str) → Mk K ((ctb P wl Is tx K).cla cj) b) := by
  have e : (ctb P wl Is tx K).cla cj = C := hC
  rw [e]
  refine ⟨f, ?_, cl, ⟨a, fn, kp⟩, mk⟩
  show (Is[j]?).bind (faI tx K) = some f
  rw [hj]
  exact fa_mt hm hC a
theorem fa_in {K : PySem.W.Frag} {Is : List FI} {tx : Tx} (chk : Is.all (FI.chk tx Is) = true) {j : Nat} {a : Addr} (h : (ctb P wl Is tx K).fa j = some a) : ∃ I, Is[j]? = some I ∧ I.lam = false := by
  have h : (Is[j]?).bind (faI tx K) = some a := h
  cases e : Is[j]? with
  | none => rw [e] at h; cases h
  | some I =>
    refine ⟨I, rfl, ?_⟩
    rw [e, Option.bind_some] at h
    have hc := List.all_eq_true.mp chk I (List.mem_of_getElem? e)
    unfold FI.chk at hc
    simp only [Bool.and_eq_true, Bool.or_eq_true, Bool.not_eq_true'] at hc
    rcases hc.2 with z | ⟨z1, z2⟩
    · exact z
    · unfold faI at h
      rw [Option.isNone_iff_eq_none.mp z2] at h
      have h : I.gn.bind (nsA K) = some a := h
      rw [Option.isNone_iff_eq_none.mp z1] at h
      cases h
theorem gInt {K : PySem.W.Frag} {h : Heap} {mg : Str → Option Value} {T : Tb} {x : Str} {i : Int} {t : Tok} (X : K.In h) (G : h.Ns mainGlobals mg) (a : PySem.W.nsIn K mainGlobals x = some (some (.int i t))) :
    ∃ u v, mg x = some u ∧ RelV v u ∧ ∀ w, WOk w → RepV T w (.int i) v := ⟨_, .int i, PySem.W.mg_of X G a, ⟨t, rfl⟩, fun w _ => by simp only [RepV]⟩
theorem gStr {K : PySem.W.Frag} {h : Heap} {mg : Str → Option Value} {T : Tb} {x : Str} {y : List Nat} {s : Str} {t : Tok} (X : K.In h) (G : h.Ns mainGlobals mg) (a : PySem.W.nsIn K mainGlobals x = some (some (.str s t))) (e : s.cps.toList = y) (hl : y.length ≤ SZ) :
    ∃ u v, mg x = some u ∧ RelV v u ∧ ∀ w, WOk w → RepV T w (.str y) v := ⟨_, .str s, PySem.W.mg_of X G a, ⟨t, rfl⟩, fun w _ => by
      subst e
      simp only [RepV]
      exact ⟨by simp, hl⟩⟩
theorem strs_rep {T : Tb} {w : Wd} : ∀ (ys : List (List Nat)), (∀ y ∈ ys, y.length ≤ SZ) → Reps T w (ys.map PV.str) (ys.map fun y => V.str ⟨y.toArray⟩)
  | [], _ => by simp [Reps]
  | y :: ys, h => by
    simp only [List.map_cons, Reps, RepV]
    exact ⟨_, _, rfl, ⟨rfl, h y List.mem_cons_self⟩, strs_rep ys fun z hz => h z (List.mem_cons_of_mem _ hz)⟩
theorem gTup {K : PySem.W.Frag} {h : Heap} {mg : Str → Option Value} {T : Tb} {x : Str} {ys : List (List Nat)} {a : Addr} {its : Array Value} {n : Nat} {sl : Array (Option Value)} (hT : T.K = K) (X : K.In h) (G : h.Ns mainGlobals mg) (e : PySem.W.nsIn K mainGlobals x = some (some (.ref a))) (l : K.lookup a = some ⟨.type "tuple", none, .seq its n, sl⟩)
    (r : Vals (ys.map fun y => V.str ⟨y.toArray⟩) its.toList) (z : its.size ≤ sizeLine) (hl : ∀ y ∈ ys, y.length ≤ SZ) :
    ∃ u v, mg x = some u ∧ RelV v u ∧ ∀ w, WOk w → RepV T w (.tup (ys.map PV.str)) v := ⟨_, .ref a, PySem.W.mg_of X G e, rfl, fun w _ => by
      simp only [RepV]
      exact ⟨a, _, rfl, .inr ⟨_, its, n, by rw [hT]; exact l, rfl, rfl, rfl, z, r⟩, strs_rep ys hl⟩⟩
/-- flat constants -/
def flatV : PV → V
  | .int i => .int i
  | .str x => .str ⟨x.toArray⟩
  | .bl b => .bl b
  | _ => .non
def flatOk : PV → Bool
  | .int _ => true
  | .str x => Nat.ble x.length SZ
  | .bl _ => true
  | .non => true
  | _ => false
theorem mixv_rep {T : Tb} {w : Wd} : ∀ (ps : List PV), ps.all flatOk = true → Reps T w ps (ps.map flatV)
  | [], _ => by simp only [Reps, List.map_nil]
  | p :: ps, h => by
    simp only [List.all_cons, Bool.and_eq_true] at h
    simp only [List.map_cons, Reps]
    refine ⟨flatV p, _, rfl, ?_, mixv_rep ps h.2⟩
    have h1 := h.1
    cases p <;> simp only [flatOk, Bool.false_eq_true] at h1 <;> simp only [RepV, flatV]
    exact ⟨trivial, Nat.le_of_ble_eq_true h1⟩
theorem gTupM {K : PySem.W.Frag} {h : Heap} {mg : Str → Option Value} {T : Tb} {x : Str} {ps : List PV} {a : Addr} {its : Array Value} {n : Nat} {sl : Array (Option Value)} (hT : T.K = K) (X : K.In h) (G : h.Ns mainGlobals mg) (e : PySem.W.nsIn K mainGlobals x = some (some (.ref a))) (l : K.lookup a = some ⟨.type "tuple", none, .seq its n, sl⟩)
    (r : Vals (ps.map flatV) its.toList) (z : its.size ≤ sizeLine) (hl : ps.all flatOk = true) :
    ∃ u v, mg x = some u ∧ RelV v u ∧ ∀ w, WOk w → RepV T w (.tup ps) v := ⟨_, .ref a, PySem.W.mg_of X G e, rfl, fun w _ => by
      simp only [RepV]
      exact ⟨a, _, rfl, .inr ⟨_, its, n, by rw [hT]; exact l, rfl, rfl, rfl, z, r⟩, mixv_rep ps hl⟩⟩
theorem str_of {s : Str} {x : List Nat} {t : Tok} (h : s.cps.toList = x) : (.str s t : Value) = .str ⟨x.toArray⟩ t := by subst h; simp
/-- an own exception class -/
theorem xc_mk {P : Program} {w : World} {K : PySem.W.Frag} {h : Heap} {mg : Str → Option Value} {T : Tb} {Cl : Nat → Value} {c : Nat} {x qual : Str} {ks : List Bool} {C f cc cda : Addr} {st : Stmt} {e : Expr} {es : List Expr} {rest : List Stmt} {p0 p1 p2 p3 p4 : Pos} {N ps : List Str} {ar : Arg} {sup : Exs} {L : List (Str × Nat)}
    {nm qn : Str} {Nn : Addr} {bs bm : List Value} {sn : List Str} {sb : List Value} {ab : Bool} {col : Option Bool} {dd : Option Addr} {k0 k1 k2 k3 k5 : Option Value} {oc kV doc pm ct ccl' cl : Value} {od an cdd cld : Option Addr} {osl ccs csl : Array (Option Value)} {vs : Array Value} {file : Str} {tf : Tok} {cdD : ClassData}
    (X : K.In h) (G : h.Ns mainGlobals mg) (hT : T.K = K) (hblt : ∀ y ∈ bNames, mg y = none)
    (a : PySem.W.nsIn K mainGlobals x = some (some (.ref C)))
    (l : K.lookup C = some (excClassObj nm qn C Nn bs bm true sn sb ab col dd k0 k1 k2 k3 k5 "ValueError.__new__")) (rb : PySem.HandSPX.refsVE bm = true)
    (sa : PySem.W.findIn K (.ref C) "__setattr__" = some (some (.builtin "object.__setattr__"))) (ex : PySem.W.subIn K (.ref C) (.type "BaseException") = some true) (ty : PySem.W.typeIn K (.ref C) = some (.type "type")) (kp : PySem.W.keepIn K (.ref C) = true)
    (ia : PySem.W.findIn K (.ref C) "__init__" = some (some (.ref f))) (it : PySem.W.typeIn K (.ref f) = some (.type "function"))
    (il : K.lookup f = some ⟨oc, od, .func (PySem.W.ksFn "__init__" qual (defArgs st) (defBody st) (defScope st) .none kV doc pm an (.ref cda) ct cc), osl⟩) (ic : PySem.W.codeIn K (.ref cda) qual = true)
    (dl : K.lookup cda = some ⟨ccl', cdd, .fields vs, ccs⟩) (dv : vs[2]? = some (.str file tf)) (df : ((P.main.file : Str) == file) = true)
    (cel : K.lookup cc = some ⟨cl, cld, .cell (some (.ref C)), csl⟩) (hD : PySem.W.clsIn K C = some cdD) (sg : PySem.W.nsIn K mainGlobals "super" = some none) (tp : (P.main.scope.names.lookup ("super" : Str)).isSome = false) (nt : PySem.W.nsIn K cStatics "thirdparty.any" = some none)
    (sub : PySem.W.mroIn K C (.ref C) = some true) (su : PySem.W.ks_superIn K C C "__init__" = some (some (.builtin "ValueError.__init__"))) (ve : PySem.W.subIn K (.ref C) (.type "ValueError") = some true)
    (ga : PySem.W.findIn K (.ref C) "__getattribute__" = some (some (.builtin "BaseException.__getattribute__"))) (gg : PySem.W.findIn K (.ref C) "__getattr__" = some none) (hd : PySem.W.hasDictIn K C = true)
    (ca : PySem.W.findIn K (.ref C) "__class__" = some (some (.builtin "object.__class__"))) (cn : PySem.W.specialIn K (.builtin "object.__class__") "__get__" = some (some (.builtin "getset_descriptor.__get__"))) (ctk : PySem.W.takesIn K (.builtin "object.__class__") = some true) (cm : PySem.W.mroIn K C (.type "object") = some true)
    (fn : ∀ q ∈ L, PySem.W.findIn K (.ref C) q.1 = some none)
    (body : defBody st = .Expr (.Call (.Attribute (.Call (.Name "super" p0) [] [] p1) "__init__" p2) (e :: es) [] p3) p4 :: rest)
    (S : SupScope N ps (defScope st)) (hp : ((defArgs st).posonlyargs ++ (defArgs st).args).head? = some ar) (har : ps.head? = some ar.arg) (hself : ps[0]? = some ("self" : Str)) (hps : ps.length = ks.length + 1) (hNs : N.length = ps.length)
    (hL : L.map (·.2) = (List.range ks.length).map (· + 1)) (hfl : T.fld c = (L.map (·.1)).reverse) (h0 : L ≠ []) (hl9 : L.length ≤ 900) (hnd : (L.map (·.1)).reverse.Nodup)
    (hst : ∀ base A outer s H E, IsSts (cxS (L2N.CX P w) P w K mg base N qual (defScope st) f (.ref cda) cc A outer s H E) L rest)
    (hck : ckEs ({ N := N, gn := [], fnm := [] } : Ck) (defScope st) (fun _ => false) sup (e :: es) = true)
    (hev : ∀ us : List V, okV ks us → ∃ ws, evs [] (fun _ _ _ => .stk) sup (.un :: slK ks us) [] = .ok ws (.un :: slK ks us) [] ∧ ws.length ≤ 1000)
    (hse : ∀ env, starEach (e :: es) env = (false, eval e env) :: starEach es env) (hpl : ∀ (pos : Pos) (env : Env), (backTo pos (starEach es env)).any (·.1) = false)
    (pl : Env → Sem Bool) (hevl : ∀ env, eval (.Call (.Attribute (.Call (.Name "super" p0) [] [] p1) "__init__" p2) (e :: es) [] p3) env = (do
      let ov ← attributeBase (.Call (.Name "super" p0) [] [] p1) "__init__" env (eval (.Call (.Name "super" p0) [] [] p1) env)
      standAt p2.atName
      let (f, first) ← holding [ov] (getMethod ov "__init__" (pl env))
      callWith p3 f first (backTo p3 (starEach (e :: es) env)) []))
    (hbind : ∀ (kV doc pm : Value) (an : Option Addr) (cdv ct : Value) (cc : Addr) (us : List Value), us.length = ps.length → bindArgs (PySem.W.ksFn "__init__" qual (defArgs st) (defBody st) (defScope st) .none kV doc pm an cdv ct cc) ⟨us, []⟩ = pure (ps.zip us))
    (hx : T.xca c = C) (hcl : Cl c = .ref C) : XcAt P w K mg T Cl c x ks := by
  have T1 : OexC K C := ⟨⟨nm, qn, Nn, bs, bm, sn, sb, ab, col, dd, k0, k1, k2, k3, k5, l, rb⟩, sa, ex, ty, kp⟩
  have hLl : L.length = ks.length := by simpa using congrArg List.length hL
  refine ⟨C, f, _, ps, hcl, PySem.W.mg_of X G a, T1, ia, it, fun base => ?_, .all (hbind kV doc pm an (.ref cda) ct cc), ⟨ga, gg, ex, hd⟩, fun n hn => ?_, by rw [hfl]; exact hnd, by rw [hfl, List.length_reverse, List.length_map, hLl], by rw [← hLl]; exact hl9, hx, ⟨by rw [hD]; rfl, ca, cn, ctk, cm⟩⟩
  · rw [body] at il ⊢
    exact xi_fn il ic S hp har ⟨⟨_, _, _, _, _, _, _, rfl, dl, dv, df⟩, ⟨_, _, _, cel⟩, ⟨_, hD⟩, PySem.W.mg_none_of X G sg, tp, nt⟩ ⟨T1, sub, su, ve⟩ hT hblt hself hps hNs hL hfl h0 hl9 fn (hst base) hck hev hse hpl pl hevl
  · rw [hfl, List.mem_reverse, List.mem_map] at hn
    obtain ⟨q, hq, rfl⟩ := hn
    exact fn q hq
theorem decN_len : ∀ (f n : Nat), (decN f n).length ≤ f
  | 0, n => by simp [decN]
  | f + 1, n => by
    unfold decN
    split
    · simp
    · rw [List.length_append]
      have := decN_len f (n / 10)
      simp; omega
/-- the text of a place -/
theorem sup_line {A B : List Nat} (hA : A.length ≤ 100) (hB : B.length ≤ 100) {us : List V} (h : okV [true, true] us) : ∃ ws, evs [] (fun _ _ _ => .stk) (.cons (.op .add (.op .add (.op .add (.str A) (.bi .str (.cons (.loc 1) .nil))) (.str B)) (.bi .str (.cons (.loc 2) .nil))) .nil) (.un :: slK [true, true] us) [] = .ok ws (.un :: slK [true, true] us) [] ∧ ws.length ≤ 1000 := by
  obtain ⟨x, r, rfl, h1, y, r', rfl, h2, h3⟩ := h
  obtain ⟨i, rfl, i1, i2⟩ := h1 rfl
  obtain ⟨j, rfl, j1, j2⟩ := h2 rfl
  rw [show r' = [] from h3]
  have a1 := decN_len 200 i.toNat
  have a2 := decN_len 200 j.toNat
  have s1 : op2 .add (.str A) (.str (decN 200 i.toNat)) = some (.str (A ++ decN 200 i.toNat)) := by
    show (if A.length + (decN 200 i.toNat).length ≤ SZ then _ else _) = _
    rw [if_pos (by show _ ≤ 16777216; omega)]
  have s2 : op2 .add (.str (A ++ decN 200 i.toNat)) (.str B) = some (.str (A ++ decN 200 i.toNat ++ B)) := by
    show (if (A ++ decN 200 i.toNat).length + B.length ≤ SZ then _ else _) = _
    rw [if_pos (by rw [List.length_append]; show _ ≤ 16777216; omega)]
  have s3 : op2 .add (.str (A ++ decN 200 i.toNat ++ B)) (.str (decN 200 j.toNat)) = some (.str (A ++ decN 200 i.toNat ++ B ++ decN 200 j.toNat)) := by
    show (if (A ++ decN 200 i.toNat ++ B).length + (decN 200 j.toNat).length ≤ SZ then _ else _) = _
    rw [if_pos (by rw [List.length_append, List.length_append]; show _ ≤ 16777216; omega)]
  have b1 : bi .str [.int i] = some (.str (decN 200 i.toNat)) := by
    show (if 0 ≤ i ∧ i.toNat < 10 ^ 200 then _ else _) = _
    rw [if_pos ⟨i1, i2⟩]
  have b2 : bi .str [.int j] = some (.str (decN 200 j.toNat)) := by
    show (if 0 ≤ j ∧ j.toNat < 10 ^ 200 then _ else _) = _
    rw [if_pos ⟨j1, j2⟩]
  refine ⟨[.str (A ++ decN 200 i.toNat ++ B ++ decN 200 j.toNat)], ?_, by simp⟩
  simp only [evs, ev, slK, if_true, getS, List.getElem?_cons_succ, List.getElem?_cons_zero, Res.bnd, b1, b2, lift, s1, s2, s3]
end
end RA

set_option maxHeartbeats 1000000
/-! The law's start where code objects' tables are tracked. -/
namespace RA
open PySem PySem.Spec PyProof.Rows L2 LamX

/-- the tables over what the argument tracks -/
def tabH (tb : List Addr) (H : Hp) : Hp := fun b => if b ∈ tb then some (.tbl #[]) else H b
theorem tabH_in {tb : List Addr} {H : Hp} {b : Addr} (h : b ∈ tb) : tabH tb H b = some (.tbl #[]) := if_pos h
theorem tabH_out {tb : List Addr} {H : Hp} {b : Addr} (h : b ∉ tb) : tabH tb H b = H b := if_neg h
theorem law_ST {P : Program} {w : World} {K : PySem.W.Frag} {mg mb : Str → Option Value} {CX : CXT} {k : Nat} {fa a : Addr} {ts : List (Addr × Addr)} {fd : FuncData} {x : Str} {sp : Sp} {s₁ : Shared} {vs : List Value} {ns : List Int}
    (KX : K.In s₁.heap) (gN : s₁.heap.Ns mainGlobals mg) (bN : s₁.heap.Ns builtinsNs mb) (bB : ∀ x : Str, x ≠ "__name__" → mb x = bootBuiltins x) (lim : s₁.heap.NoLimit) (gens : s₁.gens = #[])
    (tO : ∀ p ∈ ts, s₁.heap.get? p.2 = some { cls := .none, data := .fields #[] }) (tK : ∀ p ∈ ts, K.lookup p.2 = none) (cO : ∀ p ∈ ts, PySem.W.CodeHd s₁.heap p.1 p.2)
    (mO : ∃ (bm : Addr) (ob : Obj), mg "__builtins__" = some (.ref bm) ∧ bm ≠ builtinsNs ∧ s₁.heap.get? bm = some ob ∧ ob.cls = .type "module" ∧ ob.dict = some builtinsNs ∧ ob.data = .plain)
    (ha : s₁.heap.get? a = some { cls := .type "list", data := .seq vs.toArray }) (hi : IntsAre vs ns) (hl : ns.length ≤ sizeLine) (room : Room k callerA)
    (F : ∀ base : Heap, K.In base → base.Ns mainGlobals mg → (∀ p ∈ ts, TabB base mg p.1 p.2) → FnS P w K mg base CX k fa fd [x] sp) (bind : ∀ (s : Shared) (u : Value), BindsTo s fd ⟨[u], []⟩ [(x, u)])
    (law : ∀ H : Hp, (∀ p ∈ ts, H p.2 = some (.tbl #[])) → a ∉ ts.map (·.2) → SqL K H a (ns.map V.int) → sp [.ref a] H (fun v _ => v = .bl true) fun _ _ _ => False)
    (noX : ∀ H e s', CX [] H s₁ (fun _ _ _ => False) e s' → False) :
    codeAny (model P w) callerA (.call (.ref fa) ⟨[.ref a], []⟩) (fun r s' => r = .ok (.ret (.bool true)) ∧ OldK s₁.heap s'.heap ∧ s'.os = s₁.os ∧ AllBare s'.gens) s₁ := by
  have ar : ∀ b ∈ [a], ArgOb s₁.heap [a] b := by
    intro b hb
    obtain rfl := List.mem_singleton.mp hb
    exact ⟨vs, Nat.le_trans (Nat.le_of_eq hi.length) hl, ints_ok hi, .inl ha⟩
  have sq : SqL K (argH K s₁.heap [a]) a (ns.map V.int) := ints_toV hi ▸ (argL KX ar (List.mem_singleton.mpr rfl) ha).2
  have ok1 : HOk P w (argH K s₁.heap [a]) s₁.heap := argH_ok ar
  have of1 : OnlyF (argH K s₁.heap [a]) := argH_only ar
  have who : ∀ b, argH K s₁.heap [a] b ≠ none → b = a ∧ K.lookup b = none := by
    intro b n
    obtain ⟨u, q⟩ := Option.ne_none_iff_exists'.mp n
    exact ⟨List.mem_singleton.mp (of_argH q).1, (of_argH q).2⟩
  generalize argH K s₁.heap [a] = H1 at sq ok1 of1 who
  let tb := ts.map (·.2)
  have inT : ∀ {b : Addr}, b ∈ tb → s₁.heap.get? b = some { cls := .none, data := .fields #[] } := by
    intro b hb
    obtain ⟨p, hp, rfl⟩ := List.mem_map.mp hb
    exact tO p hp
  have outT : ∀ {b : Addr} {o : Obj}, s₁.heap.get? b = some o → o ≠ { cls := .none, data := .fields #[] } → b ∉ tb := fun e n hb => n (Option.some.inj (e.symm.trans (inT hb)))
  have aT : a ∉ tb := outT ha (by intro z; cases z)
  -- what is not tracked is shown in the base
  have shown : ∀ {b : Addr} {o : Obj}, s₁.heap.get? b = some o → b ∉ tb → (b = a → K.lookup b = none → False) → (hidT s₁.heap (tabH tb H1)).get? b = some o := by
    intro b o e n1 n2
    refine hidT_get e ?_
    rw [tabH_out n1]
    exact Classical.byContradiction fun n => n2 (who b n).1 (who b n).2
  have isA : ∀ {o : Obj}, s₁.heap.get? a = some o → o.cls = .type "list" := fun e => by rw [ha] at e; rw [← Option.some.inj e]
  have dataA : ∀ {o : Obj}, s₁.heap.get? a = some o → o.data = .seq vs.toArray _ := fun e => by rw [ha] at e; rw [← Option.some.inj e]
  have nsS : ∀ {b : Addr} {m : Str → Option Value}, s₁.heap.Ns b m → (hidT s₁.heap (tabH tb H1)).Ns b m := by
    intro b m ⟨o, es, ep, e, d, r⟩
    refine ⟨o, es, ep, shown e (outT e fun z => by rw [z] at d; cases d) (fun z _ => ?_), d, r⟩
    subst z
    rw [dataA e] at d
    cases d
  have kS : K.In (hidT s₁.heap (tabH tb H1)) := by
    intro b o e
    refine shown (KX b o e) (fun hb => ?_) fun _ n => by rw [n] at e; cases e
    obtain ⟨p, hp, q⟩ := List.mem_map.mp hb
    rw [← q, tK p hp] at e
    cases e
  have okT : HOk P w (tabH tb H1) s₁.heap := by
    intro b u e
    by_cases hb : b ∈ tb
    · rw [tabH_in hb] at e
      cases e
      exact inT hb
    · rw [tabH_out hb] at e
      refine (ok1 b u e).stay (fun d o _ q => q) (fun d q => ?_) fun d xs q => ?_
      · rcases of1 d with z | ⟨o, u', z⟩ <;> rw [z] at q <;> cases q
      · rcases of1 d with z | ⟨o, u', z⟩ <;> rw [z] at q <;> cases q
  have tabs : ∀ p ∈ ts, TabB (hidT s₁.heap (tabH tb H1)) mg p.1 p.2 := by
    intro p hp
    obtain ⟨o, us, file, tf, flags, tg, inF, text, tt, e1, r1, r⟩ := cO p hp
    obtain ⟨bm, ob, b1, b2, b3, b4, b5, b6⟩ := mO
    have bmT : bm ∉ tb := outT b3 fun z => by rw [z] at b4; cases b4
    have bmG : bm ≠ mainGlobals := by
      rintro rfl
      obtain ⟨o', es, ep, e', d', _⟩ := gN
      rw [b3] at e'
      cases e'
      rw [b6] at d'
      cases d'
    refine ⟨⟨o, us, file, tf, flags, tg, inF, text, tt, shown e1 (outT e1 fun z => by rw [z] at r1; cases r1) (fun z _ => ?_), r1, r⟩, ⟨bm, ob, b1, b2, bmG, fun z => bmT (z ▸ List.mem_map_of_mem hp), shown b3 bmT (fun z _ => ?_), b4, b5, b6⟩, fun z => ?_⟩
    · subst z
      rw [isA e1] at r1
      exact absurd r1 (by decide)
    · subst z
      rw [isA b3] at b4
      exact absurd b4 (by decide)
    · obtain ⟨o', es, ep, e', d', _⟩ := gN
      rw [z, tO p hp] at e'
      cases e'
      cases d'
  obtain ⟨mc, l1, l2⟩ := lim
  have env : Env0 P w K mg (hidT s₁.heap (tabH tb H1)) callerA [] s₁ (tabH tb H1) :=
    { frames := rfl
      mod := ⟨kS, nsS gN, ⟨mb, nsS bN, bB⟩, ⟨mc, nsS l1, l2⟩⟩
      bs := fun b o e => of_hidT e
      bsz := Nat.le_of_eq (hidT_size _ _)
      funs := trivial
      frf := fun b hb => nomatch (show b ∈ ([] : List Addr) from hb)
      hok := okT
      bare := .of_eq gens }
  have sqT : SqL K (tabH tb H1) a (ns.map V.int) := by
    rcases sq with (z | ⟨o, z⟩) | z
    · exact .inl (.inl ((tabH_out aT).trans z))
    · exact .inl (.inr ⟨o, (tabH_out aT).trans z⟩)
    · exact .inr z
  refine codeAny_mono ((F _ kS (nsS gN) tabs).run (show Gd callerA from rfl) room (us := [.ref a]) (vs := [.ref a]) env (bind s₁ (.ref a)) (.cons (show RelV (.ref a) (.ref a) from rfl) .nil) (law _ (fun p hp => tabH_in (List.mem_map_of_mem hp)) aT sqT)) fun r s' got => ?_
  rcases cr_cases got with ⟨u, rfl, v, H', os, bare, un, ok', r', q⟩ | ⟨e, rfl, c⟩
  case inr => exact (noX _ e s' c).elim
  have q : v = .bl true := q
  subst q
  obtain rfl : u = Value.bool true := r'
  have stays : ∀ {b : Addr} {o : Obj}, b ∉ tb → s₁.heap.get? b = some o → s'.heap.get? b = some o := by
    intro b o nb e
    rcases of1 b with z | ⟨ob, u, z⟩
    · exact un.keep b o e ((tabH_out nb).trans z) (fun m => nomatch (show b ∈ ([] : List Addr) from m)) (fun m => nomatch m)
    · have z : tabH tb H1 b = some (.frz ob u) := (tabH_out nb).trans z
      have e1 := (okT b _ z).1
      have e2 := (ok' b _ (un.frzs b ob _ z)).1
      rw [e1] at e
      exact e2.trans e
  have grown : ∀ p ∈ ts, ∃ more : Array Value, s'.heap.get? p.2 = some { cls := .none, data := .fields more } := by
    intro p hp
    obtain ⟨more, z⟩ := un.tbls p.2 #[] (tabH_in (List.mem_map_of_mem hp))
    exact ⟨_, ok' p.2 _ z⟩
  refine ⟨rfl, ⟨fun b o e => ?_, fun b o e => ?_⟩, os, bare⟩
  all_goals by_cases hb : b ∈ tb
  · obtain ⟨p, hp, rfl⟩ := List.mem_map.mp hb
    obtain ⟨more, hm⟩ := grown p hp
    rw [tO p hp] at e
    cases e
    exact .inr (.inl ⟨((cO p hp).tab (tO p hp)).isCodeTable, rfl, #[], more, rfl, by rw [Array.empty_append]; exact hm⟩)
  · exact .inl (stays hb e)
  · obtain ⟨p, hp, rfl⟩ := List.mem_map.mp hb
    obtain ⟨more, hm⟩ := grown p hp
    exact ⟨_, hm⟩
  · exact ⟨o, stays hb e⟩
/-- the tables' cells -/
def tcs (k : Nat) : List PV := (List.range k).map .cl
/-- the law's promise from the interpreter's answer, tables tracked -/
theorem law_spT {S : Gs} {f n : Nat} {ts : List (Addr × Addr)} (hT : ∀ (k : Nat) p, ts[k]? = some p → ∃ q, S.T.tbs[k]? = some (p.1, p.2, q)) (nd : (ts.map (·.2)).Nodup)
    (h : ∀ ns : List Int, ns.length ≤ n → ∃ m, S.cf f [.fro ns] (tcs ts.length) = .ok (.bl true) m) {H : Hp} {a : Addr} {ns : List Int} (hl : ns.length ≤ n) (hq : SqL S.T.K H a (ns.map V.int)) (hH : ∀ p ∈ ts, H p.2 = some (.tbl #[])) (ha : a ∉ ts.map (·.2)) :
    spF S f [.ref a] H (fun v _ => v = .bl true) fun _ _ _ => False := by
  obtain ⟨m, hm⟩ := h ns hl
  refine ⟨⟨H, ts.map (·.2), (· ∈ ts.map (·.2)), (· ∈ ts.map (·.2)), []⟩, [.fro ns], tcs ts.length, rfl, ⟨fun _ h => h, fun b hb => ?_⟩, ⟨?_, fun j c b h1 h2 => ?_, fun i j b h1 h2 => ?_⟩, fun _ h => h, ?_, ?_⟩
  · obtain ⟨p, hp, rfl⟩ := List.mem_map.mp hb
    show H p.2 ≠ none
    rw [hH p hp]; simp
  · show (ts.map (·.2)).length = _
    unfold tcs
    rw [List.length_map, List.length_map, List.length_range]
  · have h2 : (ts.map (·.2))[j]? = some b := h2
    rw [List.getElem?_map, Option.map_eq_some_iff] at h2
    obtain ⟨p, hp, rfl⟩ := h2
    have hj : j < ts.length := (List.getElem?_eq_some_iff.mp hp).1
    have h1 : ((List.range ts.length).map PV.cl)[j]? = some c := h1
    rw [List.getElem?_map, List.getElem?_range hj] at h1
    cases h1
    have hpm : p ∈ ts := List.mem_of_getElem? hp
    obtain ⟨q, hq⟩ := hT j p hp
    refine ⟨⟨p.1, q, hq, #[], hH p hpm, True.intro, fun p' cv hc => ?_⟩, List.mem_map_of_mem hpm⟩
    have z : codeAmong p' [] = some cv := hc
    simp [codeAmong] at z
  · have h1 : (ts.map (·.2))[i]? = some b := h1
    have h2 : (ts.map (·.2))[j]? = some b := h2
    obtain ⟨i1, e1⟩ := List.getElem?_eq_some_iff.mp h1
    obtain ⟨j1, e2⟩ := List.getElem?_eq_some_iff.mp h2
    exact (List.getElem_inj nd).mp (e1.trans e2.symm)
  · simp only [Reps, RepV]
    refine ⟨_, _, rfl, ⟨a, rfl, ?_⟩, rfl⟩
    rcases hq with hq | hq
    · exact .inl ⟨hq, ha⟩
    · exact .inr hq
  · rw [hm]
    intro v w' _ _ _ rv
    simpa only [RepV] using rv
/-- the tables that a program's lambdas are written to -/
def tabs (T : Tb) : List (Addr × Addr) := T.tbs.map fun q => (q.1, q.2.1)
/-- the law's walk, tables tracked; the written part K comes with the state (a Hook that looks at the heap) -/
theorem law_walkT {l : PySem.W.OpenLaw} {q : Program} {loose : List Str} {XP : (Str → Option Value) → Heap → Prop} {YP : World → Heap → Prop} {d : DefRec} {Is : List FI} {tx : Tx} {gv : List PV} {n : Nat} {I : FI} (hI : Is[n]? = some I) (hIg : I.gn = some "law") (hIl : I.lam = false)
    (hn : l.most = some 63) (hdf : d.params.defaults = []) (hdn : d.name = "law")
    (F : ∀ (w : World) (mg : Str → Option Value) (fa : Addr) (h : Heap), YP w h → h.Ns mainGlobals mg → mg d.name = some (.ref fa) →
      ∃ K : PySem.W.Frag, K.In h ∧ PgOk l.prog w K mg (ctb l.prog w Is tx K) (ccl l.prog w Is tx K) gv Is tx ∧
        (∀ p ∈ tabs (ctb l.prog w Is tx K), h.get? p.2 = some { cls := .none, data := .fields #[] }) ∧ (∀ p ∈ tabs (ctb l.prog w Is tx K), K.lookup p.2 = none) ∧ (∀ p ∈ tabs (ctb l.prog w Is tx K), PySem.W.CodeHd h p.1 p.2) ∧ ((tabs (ctb l.prog w Is tx K)).map (·.2)).Nodup ∧
        ∀ (s : Shared) (v : Value) {a : Addr} (fd : FuncData), FOk K mg a fd I → BindsTo s fd ⟨[v], []⟩ [("script", v)])
    (hps : I.ps = [("script" : Str)])
    (hlaw : ∀ ns : List Int, ns.length ≤ 63 → ∃ m, callN gv (Is.map FI.fn) 60 n [.fro ns] (tcs (lkL Is).length) = .ok (.bl true) m) :
    PySem.W.WalkO q loose XP YP l.row.toRowW d [] (fun f vs => PySem.call f vs) := by
  refine Att.attach_call hn hdf fun w s₀ s₁ mg mb fa o pm cd doc a vs ns G Y ho hd hcd hmg hobj hints hlen hg => ?_
  obtain ⟨K, KX, O, tO, tK, cO, nd, hbind⟩ := F w mg fa _ Y G.T.g hmg
  obtain ⟨a', fd, hO, hfa⟩ := O.fns n I hI hIl
  have e : fa = a' := by
    have h1 := hO.m "law" hIg
    have h2 : mg "law" = some (.ref fa) := by rw [← hmg, hdn]; all_goals rfl
    rw [h2] at h1
    cases h1
    rfl
  subst e
  have tl : (tabs (ctb l.prog w Is tx K)).length = (lkL Is).length := by
    show (((lkL Is).map (tbI tx K)).map _).length = _
    rw [List.length_map, List.length_map]
  have tat : ∀ (k : Nat) c P0 q, (ctb l.prog w Is tx K).tbs[k]? = some (c, P0, q) → (c, P0) ∈ tabs (ctb l.prog w Is tx K) := fun k c P0 q hk => List.mem_map.mpr ⟨(c, P0, q), List.mem_of_getElem? hk, rfl⟩
  refine law_ST (k := 121) (CX := L2N.CX l.prog w) (fd := fd) (x := "script") (ts := tabs (ctb l.prog w Is tx K)) (sp := spF ⟨ctb l.prog w Is tx K, ccl l.prog w Is tx K, gv, callN gv (Is.map FI.fn) 60, 122⟩ n) KX G.T.g G.T.b G.T.builtins G.T.nolimit hg tO tK cO G.T.bmain hobj hints (by rw [sizeLine_eq]; omega) ⟨rfl, by decide, by decide⟩ (fun base _ _ hB => ?_) (fun s v => hbind s v fd hO) (fun H hH ha hS => ?_) fun _ _ _ z => cx_none z
  · have := fn_all (base := base) (P := l.prog) (w := w) O (fun k c P0 q hk => hB _ (tat k c P0 q hk)) 60 n I fa fd hI hIl hO hfa
    rw [hps] at this
    exact this
  · refine law_spT (S := ⟨ctb l.prog w Is tx K, ccl l.prog w Is tx K, gv, callN gv (Is.map FI.fn) 60, 122⟩) (n := 63) (ts := tabs (ctb l.prog w Is tx K)) (fun k p hp => ?_) nd (fun ns hns => by rw [tl]; exact hlaw ns hns) hlen hS hH ha
    have hp : (((lkL Is).map (tbI tx K)).map fun q => (q.1, q.2.1))[k]? = some p := hp
    rw [List.getElem?_map, Option.map_eq_some_iff] at hp
    obtain ⟨q, hq, rfl⟩ := hp
    exact ⟨q.2.2, hq⟩
end RA

/-! A head of a few bytes: what the walk asks of the module is one Bool over a part of the heap, with the functions' texts beside it; one kernel run. -/
namespace RA
open PySem L2
/-! ### the part of the heap -/
def refX (o : Obj) : List Addr := He.refV o.cls ++ match o.data with
  | .seq its _ => its.toList.flatMap He.refV
  | .dict es _ => es.toList.flatMap fun e => He.refV e.val
  | .func fd => He.refV fd.code ++ (He.refV fd.defaults ++ fd.closure.map (·.2))
  | .cls cd => cd.ns :: cd.mro.flatMap He.refV
  | .cell (some v) => He.refV v
  | _ => []
def grx (g : Addr → Option Obj) : Nat → List Addr → List Addr → List Addr
  | 0, fr, seen => seen ++ fr
  | n + 1, fr, seen => grx g n ((fr.flatMap fun a => match g a with | some o => refX o | none => []).eraseDups.filter fun a => !(seen ++ fr).contains a) (seen ++ fr)
def stx (g : Addr → Option Obj) (xs : List Str) : List Addr := xs.filterMap fun x => match PySem.W.nsIn (He.frG g [mainGlobals]) mainGlobals x with
  | some (some (.ref a)) => some a
  | _ => none
def asX (xs : List Str) (g : Addr → Option Obj) : List Addr := mainGlobals :: cStatics :: grx g 4 (stx g xs).eraseDups []
/-! ### functions -/
abbrev FnV5 : Type := Option (Str × Str × Arguments × FuncBody × Scope × Addr × List Str × Option (List Int) × Addr)
def intsO : List Value → Option (List Int)
  | [] => some []
  | .int i _ :: r => (intsO r).map (i :: ·)
  | _ => none
/-- a def's defaults: whole numbers -/
def dfB (K : PySem.W.Frag) : Value → Option (List Int)
  | .none => some []
  | .ref T => (match K.lookup T with
    | some ⟨_, _, .seq its _, _⟩ => (match its.toList with
      | [] => none
      | v :: r => intsO (v :: r))
    | _ => none)
  | _ => none
theorem intsO_vals : ∀ {vs : List Value} {ds : List Int}, intsO vs = some ds → Vals (ds.map V.int) vs
  | [], ds, h => by
    cases h
    exact .nil
  | .int i t :: r, ds, h => by
    unfold intsO at h
    rw [Option.map_eq_some_iff] at h
    obtain ⟨es, h1, rfl⟩ := h
    exact .cons ⟨t, rfl⟩ (intsO_vals h1)
  | .none :: _, _, h => by cases h
  | .bool _ :: _, _, h => by cases h
  | .str _ _ :: _, _, h => by cases h
  | .ref _ :: _, _, h => by cases h
theorem dfB_nil {K : PySem.W.Frag} {v : Value} (h : dfB K v = some []) : v = .none := by
  unfold dfB at h
  split at h
  · rfl
  · split at h
    · split at h
      · cases h
      · rename_i w r hw
        have z := (intsO_vals h).length
        simp at z
    · cases h
  · cases h
theorem dfB_cons {K : PySem.W.Frag} {v : Value} {d : Int} {ds : List Int} (h : dfB K v = some (d :: ds)) : DflV K v ((d :: ds).map V.int) := by
  unfold dfB at h
  split at h
  · cases h
  · split at h
    · rename_i T its n _ hl
      split at h
      · cases h
      · rename_i w r hw
        exact .inr ⟨by simp, _, _, w :: r, n, rfl, hl, by rw [← hw], intsO_vals h⟩
    · cases h
  · cases h
def fob (K : PySem.W.Frag) (a : Addr) : FnV5 := match K.lookup a with
  | some ⟨_, _, .func fd, _⟩ => some (fd.name, fd.qualname, fd.params, fd.body, fd.scope, fd.globals, fd.closure.map (·.1), dfB K fd.defaults, fd.builtins)
  | _ => none
def fv (n q : Str) (st : Stmt) (cl : List Str) (ds : List Int := []) : FnV5 := some (n, q, defArgs st, .stmts (defBody st), defScope st, mainGlobals, cl, some ds, builtinsNs)
def cdB (K : PySem.W.Frag) (a : Addr) (q : Str) : Bool := match K.lookup a with
  | some ⟨_, _, .func fd, _⟩ => PySem.W.codeIn K fd.code q
  | _ => false
theorem fn5 {K : PySem.W.Frag} {a : Addr} {n q : Str} {st : Stmt} {ds : List Int} (o : fob K a = fv n q st [] ds) (c : cdB K a q = true) :
    ∃ oc od sl dV kV dc pm an cd ct, K.lookup a = some ⟨oc, od, .func (PySem.W.fnOf n q (defArgs st) (defBody st) (defScope st) dV kV dc pm an cd ct), sl⟩ ∧ PySem.W.codeIn K cd q = true ∧ dfB K dV = some ds := by
  unfold fob at o
  unfold cdB at c
  cases e : K.lookup a with
  | none => rw [e] at c; cases c
  | some ob =>
    obtain ⟨oc, od, dt, sl⟩ := ob
    rw [e] at o c
    cases dt with
    | func fd =>
      obtain ⟨n1, n2, n3, n4, n5, n6, n7, n8, n9, n10, n11, n12, n13, n14, n15⟩ := fd
      have e2 : (some (n1, n2, n3, n4, n5, n6, n7.map (·.1), dfB K n8, n15) : FnV5) = fv n q st [] ds := o
      unfold fv at e2
      simp only [Option.some.injEq, Prod.mk.injEq, List.map_eq_nil_iff] at e2
      obtain ⟨h1, h2, h3, h4, h5, h6, h7, h8, h9⟩ := e2
      subst h1 h2 h3 h4 h5 h6 h7 h9
      exact ⟨oc, od, sl, n8, n9, n10, n11, n12, n13, n14, rfl, c, h8⟩
    | _ => cases c
/-- where a def stands -/
def pathI (tx : Tx) (I : FI) (K : PySem.W.Frag) : Addr := match I.mt with
  | some (c, n) => He.ma K (clA tx K c) n
  | none => match I.gn with
    | some x => He.ga K x
    | none => 0
def fiV (I : FI) : FnV5 := fv I.nm I.name I.st [] I.dfl
def fiB (tx : Tx) (I : FI) (K : PySem.W.Frag) : Bool := cdB K (pathI tx I K) I.name && (PySem.W.keepIn K (.ref (pathI tx I K)) && match I.mt with
  | some (c, n) => I.gn.isNone && (He.eqO (PySem.W.findIn K (.ref (clA tx K c)) n) (some (some (.ref (He.ma K (clA tx K c) n)))) && PySem.W.isFn K (.ref (He.ma K (clA tx K c) n)))
  | none => match I.gn with
    | some x => He.eqO (PySem.W.nsIn K mainGlobals x) (some (some (.ref (He.ga K x))))
    | none => false)
section
variable {P : Program} {wl : World}
theorem clsl {tx : Tx} {K : PySem.W.Frag} {c : Nat} : clA tx K c = clA tx K c := rfl
theorem fi_5 {K : PySem.W.Frag} {tx : Tx} {I : FI} (c : fiB tx I K = true) (o : fob K (pathI tx I K) = fiV I) {h : Heap} {mg : Str → Option Value} (X : K.In h) (G : h.Ns mainGlobals mg) :
    faI tx K I = some (pathI tx I K) ∧ (∀ x, I.gn = some x → mg x = some (.ref (pathI tx I K))) ∧ PySem.W.keepIn K (.ref (pathI tx I K)) = true ∧
      ∃ oc od sl dV kV dc pm an cd ct, K.lookup (pathI tx I K) = some ⟨oc, od, .func (PySem.W.fnOf I.nm I.name (defArgs I.st) (defBody I.st) (defScope I.st) dV kV dc pm an cd ct), sl⟩ ∧ PySem.W.codeIn K cd I.name = true ∧ dfB K dV = some I.dfl := by
  unfold fiB at c
  obtain ⟨c1, c⟩ := He.ba c
  obtain ⟨c2, c3⟩ := He.ba c
  have z := fn5 o c1
  cases hm : I.mt with
  | some q =>
    obtain ⟨cj, n⟩ := q
    rw [hm] at c3
    obtain ⟨d1, d⟩ := He.ba c3
    obtain ⟨d2, d3⟩ := He.ba d
    have hp : pathI tx I K = He.ma K (clA tx K cj) n := by unfold pathI; rw [hm]
    refine ⟨?_, fun x hx => absurd hx (by rw [Option.isNone_iff_eq_none.mp d1]; simp), c2, z⟩
    rw [hp]
    exact fa_mt hm rfl (He.eqO_ok d2)
  | none =>
    rw [hm] at c3
    cases hg : I.gn with
    | none => rw [hg] at c3; cases c3
    | some x =>
      rw [hg] at c3
      have hp : pathI tx I K = He.ga K x := by unfold pathI; rw [hm]; show (match I.gn with | some x => He.ga K x | none => 0) = _; rw [hg]
      refine ⟨?_, fun y hy => ?_, c2, z⟩
      · rw [hp]
        exact fa_gn hm hg (He.eqO_ok c3)
      · cases hy
        rw [hp]
        exact PySem.W.mg_of X G (He.eqO_ok c3)
theorem fok_5 {K : PySem.W.Frag} {h : Heap} {mg : Str → Option Value} {Is : List FI} {tx : Tx} {I : FI} {j : Nat} (X : K.In h) (G : h.Ns mainGlobals mg) (hj : Is[j]? = some I) (c : fiB tx I K = true) (o : fob K (pathI tx I K) = fiV I) (hd : I.dfl = [])
    (b : ∀ (kV doc pm : Value) (an : Option Addr) (cdv ct : Value) (us : List Value), us.length = I.ps.length → bindArgs (PySem.W.fnOf I.nm I.name (defArgs I.st) (defBody I.st) (defScope I.st) .none kV doc pm an cdv ct) ⟨us, []⟩ = pure (I.ps.zip us)) : ∃ a fd, FOk K mg a fd I ∧ (ctb P wl Is tx K).fa j = some a := by
  obtain ⟨h1, h2, h3, oc, od, sl, dV, kV, dc, pm, an, cd, ct, lk, lc, hdf⟩ := fi_5 c o X G
  rw [hd] at hdf
  obtain rfl := dfB_nil hdf
  exact fok_at hj h1 h2 ⟨⟨oc, od, .none, kV, dc, pm, an, cd, ct, sl, rfl, lk, lc⟩, h3⟩ (.all (b kV dc pm an cd ct)) fun z => absurd hd z
/-- .. with defaults -/
theorem fok_5d {K : PySem.W.Frag} {h : Heap} {mg : Str → Option Value} {Is : List FI} {tx : Tx} {I : FI} {j : Nat} (X : K.In h) (G : h.Ns mainGlobals mg) (hj : Is[j]? = some I) (c : fiB tx I K = true) (o : fob K (pathI tx I K) = fiV I) (hd : I.dfl ≠ [])
    (hn : I.ps.length - I.dfl.length + I.dfl.length = I.ps.length)
    (b : ∀ (T : Addr) (kV doc pm : Value) (an : Option Addr) (cdv ct : Value) (us its : List Value), us.length = I.ps.length → its.length = I.dfl.length →
      ∃ k, bindArgs (PySem.W.fnOf I.nm I.name (defArgs I.st) (defBody I.st) (defScope I.st) (.ref T) kV doc pm an cdv ct) ⟨us, []⟩ = seqItems? (.ref T) >>= k ∧ k (some its.toArray) = pure (I.ps.zip us))
    (b1 : ∀ (T : Addr) (kV doc pm : Value) (an : Option Addr) (cdv ct : Value) (us its : List Value), us.length = I.ps.length - I.dfl.length → its.length = I.dfl.length →
      ∃ k, bindArgs (PySem.W.fnOf I.nm I.name (defArgs I.st) (defBody I.st) (defScope I.st) (.ref T) kV doc pm an cdv ct) ⟨us, []⟩ = seqItems? (.ref T) >>= k ∧ k (some its.toArray) = pure (I.ps.zip (us ++ its))) : ∃ a fd, FOk K mg a fd I ∧ (ctb P wl Is tx K).fa j = some a := by
  obtain ⟨h1, h2, h3, oc, od, sl, dV, kV, dc, pm, an, cd, ct, lk, lc, hdf⟩ := fi_5 c o X G
  have D : DflV K dV (I.dfl.map V.int) := by
    cases e : I.dfl with
    | nil => exact absurd e hd
    | cons d ds =>
      rw [e] at hdf
      exact dfB_cons hdf
  have F : L2.FunD K I.nm I.name (defArgs I.st) (defBody I.st) (defScope I.st) (I.dfl.map V.int) [] (pathI tx I K) (PySem.W.fnOf I.nm I.name (defArgs I.st) (defBody I.st) (defScope I.st) dV kV dc pm an cd ct) := ⟨⟨oc, od, dV, kV, dc, pm, an, cd, ct, sl, rfl, lk, lc, D, .inl rfl⟩, h3⟩
  have hd' : I.dfl.map V.int ≠ [] := fun z => hd (List.map_eq_nil_iff.mp z)
  refine fok_at hj h1 h2 ⟨⟨oc, od, dV, kV, dc, pm, an, cd, ct, sl, rfl, lk, lc⟩, h3⟩ ?_ fun _ => ?_
  · obtain ⟨ds, r, bb⟩ := F.binds1 (ps := I.ps) I.ps.length I.dfl.length hd' (by simp) fun T kV doc pm an cdv ct us its l1 l2 => by
      rw [List.length_map] at l2
      obtain ⟨k, k1, k2⟩ := b T kV doc pm an cdv ct us its l1 l2
      refine ⟨k, k1, ?_⟩
      rw [← l2, List.drop_length, List.append_nil]
      exact k2
    rw [show I.dfl.length = (I.dfl.map V.int).length from (List.length_map ..).symm, List.drop_length] at r
    cases r
    exact bb
  · obtain ⟨ds, r, bb⟩ := F.binds1 (ps := I.ps) (I.ps.length - I.dfl.length) 0 hd' (by rw [List.length_map]; exact hn) fun T kV doc pm an cdv ct us its l1 l2 => by
      rw [List.length_map] at l2
      rw [List.drop_zero]
      exact b1 T kV doc pm an cdv ct us its l1 l2
    exact ⟨ds, by rw [List.drop_zero] at r; exact r, bb⟩
end
/-! ### own classes -/
def clB (tx : Tx) (K : PySem.W.Frag) (mk : Bool) (x : Str) (at_ : List Str) : Bool := He.Fa.ok K (.glo x) && (He.Fa.ok K (.cls x) && ((!mk || He.Fa.ok K (.mkr x)) && at_.all fun n => He.Fa.ok K (.noat x n)))
theorem clA_5 {tx : Tx} {K : PySem.W.Frag} {c : Nat} {x : Str} (h : tx.cln[c]? = some x) (a : He.Fa.ok K (.glo x) = true) : clA tx K c = He.ga K x := clA_of h (He.eqO_ok a)
/-! ### constants -/
def sizeB (n : Nat) : Bool := Nat.ble n 16777216
def cvB (K : PySem.W.Frag) (x : Str) (p : PV) : Bool := match PySem.W.nsIn K mainGlobals x with
  | some (some (.int i _)) => (match p with
    | .int j => decide (i = j)
    | _ => false)
  | some (some (.str s _)) => (match p with
    | .str y => decide (s.cps.toList = y) && Nat.ble y.length SZ
    | _ => false)
  | some (some (.ref a)) => (match p with
    | .tup ps => ps.all flatOk && (Nat.ble ps.length 1000 && (match K.lookup a with
      | some ⟨.type t, none, .seq its _, _⟩ => decide (t = "tuple") && He.relAll (ps.map flatV) its.toList
      | _ => false))
    | _ => false)
  | _ => false
theorem relAll_len : ∀ {vs : List V} {us : List Value}, He.relAll vs us = true → us.length = vs.length
  | [], [], _ => rfl
  | [], _ :: _, h => by cases h
  | _ :: _, [], h => by cases h
  | v :: vs, u :: us, h => by
    have := relAll_len (He.ba (show (He.relB v u && He.relAll vs us) = true from h)).2
    simp [this]
theorem cv_ok {K : PySem.W.Frag} {h : Heap} {mg : Str → Option Value} {T : Tb} {x : Str} {p : PV} (hT : T.K = K) (X : K.In h) (G : h.Ns mainGlobals mg) (c : cvB K x p = true) :
    ∃ u v, mg x = some u ∧ RelV v u ∧ ∀ w, WOk w → RepV T w p v := by
  unfold cvB at c
  cases e : PySem.W.nsIn K mainGlobals x with
  | none => rw [e] at c; cases c
  | some o =>
    rw [e] at c
    cases o with
    | none => cases c
    | some v =>
      cases v with
      | int i t =>
        cases p with
        | int j =>
          have q : i = j := of_decide_eq_true c
          subst q
          exact gInt X G e
        | _ => cases c
      | str s t =>
        cases p with
        | str y =>
          obtain ⟨c1, c2⟩ := He.ba (show (decide (s.cps.toList = y) && Nat.ble y.length SZ) = true from c)
          exact gStr X G e (of_decide_eq_true c1) (Nat.le_of_ble_eq_true c2)
        | _ => cases c
      | ref a =>
        cases p with
        | tup ps =>
          obtain ⟨c1, c⟩ := He.ba (show (ps.all flatOk && (Nat.ble ps.length 1000 && (match K.lookup a with
            | some ⟨.type t, none, .seq its _, _⟩ => decide (t = "tuple") && He.relAll (ps.map flatV) its.toList
            | _ => false))) = true from c)
          obtain ⟨c2, c3⟩ := He.ba c
          split at c3
          · rename_i t its n sl hl
            obtain ⟨c4, c5⟩ := He.ba c3
            have q : t = "tuple" := of_decide_eq_true c4
            subst q
            refine gTupM hT X G e hl (He.relAll_ok c5) ?_ c1
            have z := relAll_len c5
            rw [List.length_map] at z
            have z2 := Nat.le_of_ble_eq_true c2
            rw [sizeLine_eq]
            have z3 : its.size = its.toList.length := by simp
            omega
          · cases c3
        | _ => cases c
      | _ => cases c
def gvB (K : PySem.W.Frag) : List Str → List PV → Bool
  | [], _ => true
  | _ :: _, [] => false
  | x :: xs, p :: ps => cvB K x p && gvB K xs ps
theorem gv_ok {K : PySem.W.Frag} {h : Heap} {mg : Str → Option Value} {T : Tb} (hT : T.K = K) (X : K.In h) (G : h.Ns mainGlobals mg) : ∀ (xs : List Str) (ps : List PV), gvB K xs ps = true → ∀ (g : Nat) x, xs[g]? = some x → ∃ u v p, mg x = some u ∧ RelV v u ∧ ps[g]? = some p ∧ ∀ w, WOk w → RepV T w p v
  | [], _, _, g, x, h => by simp at h
  | _ :: _, [], c, _, _, _ => by cases c
  | x :: xs, p :: ps, c, g, y, hy => by
    obtain ⟨c1, c2⟩ := He.ba (show (cvB K x p && gvB K xs ps) = true from c)
    cases g with
    | zero =>
      simp at hy
      subst hy
      obtain ⟨u, v, h1, h2, h3⟩ := cv_ok hT X G c1
      exact ⟨u, v, p, h1, h2, rfl, h3⟩
    | succ g =>
      simp at hy
      obtain ⟨u, v, q, h1, h2, h3, h4⟩ := gv_ok hT X G xs ps c2 g y hy
      exact ⟨u, v, q, h1, h2, by simpa using h3, h4⟩
/-! ### own exceptions -/
def xoB (K : PySem.W.Frag) (C : Addr) : Bool := match K.lookup C with
  | some ⟨.type t, _, .cls cd, sl⟩ => (match cd.mro, sl.toList with
    | .ref C' :: bm, [_, _, _, _, some (.builtin n), _] => (decide (t = "type") && (decide (C' = C) && (decide (n = "ValueError.__new__") && (!cd.hasDel && (cd.hasDict && PySem.HandSPX.refsVE bm)))))
    | _, _ => false)
  | _ => false
theorem xo_ok {K : PySem.W.Frag} {C : Addr} (c : xoB K C = true) : ∃ nm qn Nn bs bm sn sb ab col dd k0 k1 k2 k3 k5, K.lookup C = some (excClassObj nm qn C Nn bs bm true sn sb ab col dd k0 k1 k2 k3 k5 "ValueError.__new__") ∧ PySem.HandSPX.refsVE bm = true := by
  unfold xoB at c
  split at c
  · rename_i t dd cd sl ho
    split at c
    · rename_i C' bm k0 k1 k2 k3 n k5 hm hs
      obtain ⟨c0, c⟩ := He.ba c
      obtain ⟨c1, c⟩ := He.ba c
      obtain ⟨c2, c⟩ := He.ba c
      obtain ⟨c3, c⟩ := He.ba c
      obtain ⟨c4, c5⟩ := He.ba c
      have q0 : t = "type" := of_decide_eq_true c0
      have q1 : C' = C := of_decide_eq_true c1
      have q2 : n = "ValueError.__new__" := of_decide_eq_true c2
      obtain ⟨nm, bs, mro, ns, qn, hd, sn, sub, ab, col, del⟩ := cd
      dsimp only at hm c3 c4
      have q3 : del = false := by simpa using c3
      subst q0 q1 q2 q3 hm
      have q4 : hd = true := c4
      subst q4
      have hsl : sl = #[k0, k1, k2, k3, some (.builtin "ValueError.__new__"), k5] := by
        obtain ⟨l⟩ := sl
        simp only at hs
        rw [hs]
      subst hsl
      exact ⟨nm, qn, ns, bs, bm, sn, sub, ab, col, dd, k0, k1, k2, k3, k5, ho, c5⟩
    · cases c
  · cases c
/-- the function object of __init__, with the cell of its class -/
def xfB (K : PySem.W.Frag) (main : Str) (C a : Addr) (q : Str) : Bool := match K.lookup a with
  | some ⟨_, _, .func fd, _⟩ => (match fd.closure, fd.code with
    | [(_, cc)], .ref cda => PySem.W.codeIn K (.ref cda) q && ((match K.lookup cda with
      | some ⟨_, _, .fields vs, _⟩ => (match (vs[2]? : Option Value) with
        | some (Value.str file _) => main == file
        | _ => false)
      | _ => false) && (match K.lookup cc with
      | some ⟨_, _, .cell (some (.ref C')), _⟩ => decide (C' = C)
      | _ => false))
    | _, _ => false)
  | _ => false
theorem xf_ok {K : PySem.W.Frag} {main : Str} {C a : Addr} {n q : Str} {st : Stmt} (o : fob K a = fv n q st ["__class__"]) (c : xfB K main C a q = true) :
    ∃ oc od sl kV dc pm an cda ct cc ccl cdd vs ccs file tf cl cld csl, K.lookup a = some ⟨oc, od, .func (PySem.W.ksFn n q (defArgs st) (defBody st) (defScope st) .none kV dc pm an (.ref cda) ct cc), sl⟩ ∧ PySem.W.codeIn K (.ref cda) q = true ∧
      K.lookup cda = some ⟨ccl, cdd, .fields vs, ccs⟩ ∧ vs[2]? = some (.str file tf) ∧ (main == file) = true ∧ K.lookup cc = some ⟨cl, cld, .cell (some (.ref C)), csl⟩ := by
  unfold fob at o
  unfold xfB at c
  cases e : K.lookup a with
  | none => rw [e] at c; cases c
  | some ob =>
    obtain ⟨oc, od, dt, sl⟩ := ob
    rw [e] at o c
    cases dt with
    | func fd =>
      obtain ⟨n1, n2, n3, n4, n5, n6, n7, n8, n9, n10, n11, n12, n13, n14, n15⟩ := fd
      have e2 : (some (n1, n2, n3, n4, n5, n6, n7.map (·.1), dfB K n8, n15) : FnV5) = fv n q st ["__class__"] := o
      unfold fv at e2
      simp only [Option.some.injEq, Prod.mk.injEq] at e2
      obtain ⟨h1, h2, h3, h4, h5, h6, h7, h8, h9⟩ := e2
      dsimp only at c
      split at c
      · rename_i y cc cda
        obtain ⟨c1, c⟩ := He.ba c
        obtain ⟨c2, c3⟩ := He.ba c
        have hy : y = ("__class__" : Str) := by simpa using h7
        subst hy
        have h8 := dfB_nil h8
        subst h1 h2 h3 h4 h5 h6 h8 h9
        split at c2
        · rename_i ccl cdd vs ccs hl2
          split at c2
          · rename_i file tf hv
            split at c3
            · rename_i cl cld C' csl hl3
              have hC : C' = C := of_decide_eq_true c3
              subst hC
              exact ⟨oc, od, sl, n9, n10, n11, n12, cda, n14, cc, ccl, cdd, vs, ccs, file, tf, cl, cld, csl, rfl, c1, hl2, hv, c2, hl3⟩
            · cases c3
          · cases c2
        · cases c2
      · cases c
    | _ => cases c
def eqB (a b : Option Bool) : Bool := decide (a = b)
def ini : Str := "__init__"
def xcB (P : Program) (K : PySem.W.Frag) (x q : Str) (L : List Str) : Bool :=
  He.Fa.ok K (.glo x) && (xoB K (He.ga K x) && (He.eqO (PySem.W.findIn K (.ref (He.ga K x)) "__setattr__") (some (some (.builtin "object.__setattr__"))) && (eqB (PySem.W.subIn K (.ref (He.ga K x)) (.type "BaseException")) (some true) &&
  (decide (PySem.W.typeIn K (.ref (He.ga K x)) = some (.type "type")) && (PySem.W.keepIn K (.ref (He.ga K x)) && (He.eqO (PySem.W.findIn K (.ref (He.ga K x)) "__init__") (some (some (.ref (He.ma K (He.ga K x) "__init__")))) &&
  (decide (PySem.W.typeIn K (.ref (He.ma K (He.ga K x) "__init__")) = some (.type "function")) && (xfB K P.main.file (He.ga K x) (He.ma K (He.ga K x) "__init__") q && ((PySem.W.clsIn K (He.ga K x)).isSome && (eqB (PySem.W.mroIn K (He.ga K x) (.ref (He.ga K x))) (some true) &&
  (He.eqO (PySem.W.ks_superIn K (He.ga K x) (He.ga K x) "__init__") (some (some (.builtin "ValueError.__init__"))) && (eqB (PySem.W.subIn K (.ref (He.ga K x)) (.type "ValueError")) (some true) &&
  (He.eqO (PySem.W.findIn K (.ref (He.ga K x)) "__getattribute__") (some (some (.builtin "BaseException.__getattribute__"))) && (He.eqO (PySem.W.findIn K (.ref (He.ga K x)) "__getattr__") (some none) && (PySem.W.hasDictIn K (He.ga K x) &&
  (He.eqO (PySem.W.findIn K (.ref (He.ga K x)) "__class__") (some (some (.builtin "object.__class__"))) && (eqB (PySem.W.mroIn K (He.ga K x) (.type "object")) (some true) && L.all fun n => He.eqO (PySem.W.findIn K (.ref (He.ga K x)) n) (some none))))))))))))))))))
/-- what all own exceptions want -/
def xaB (P : Program) (K : PySem.W.Frag) : Bool := He.eqO (PySem.W.nsIn K mainGlobals "super") (some none) && (!(P.main.scope.names.lookup ("super" : Str)).isSome && (He.eqO (PySem.W.nsIn K cStatics "thirdparty.any") (some none) &&
  (He.eqO (PySem.W.specialIn K (.builtin "object.__class__") "__get__") (some (some (.builtin "getset_descriptor.__get__"))) && eqB (PySem.W.takesIn K (.builtin "object.__class__")) (some true))))
theorem xc_5 {P : Program} {w : World} {K : PySem.W.Frag} {h : Heap} {mg : Str → Option Value} {T : Tb} {Cl : Nat → Value} {c : Nat} {x qual : Str} {ks : List Bool} {st : Stmt} {e : Expr} {es : List Expr} {rest : List Stmt} {p0 p1 p2 p3 p4 : Pos} {N ps : List Str} {ar : Arg} {sup : Exs} {L : List (Str × Nat)}
    (X : K.In h) (G : h.Ns mainGlobals mg) (hT : T.K = K) (hblt : ∀ y ∈ bNames, mg y = none) (b : xcB P K x qual (L.map (·.1)) = true) (ba : xaB P K = true) (o : fob K (He.ma K (He.ga K x) "__init__") = fv "__init__" qual st ["__class__"])
    (body : defBody st = .Expr (.Call (.Attribute (.Call (.Name "super" p0) [] [] p1) "__init__" p2) (e :: es) [] p3) p4 :: rest)
    (S : SupScope N ps (defScope st)) (hp : ((defArgs st).posonlyargs ++ (defArgs st).args).head? = some ar) (har : ps.head? = some ar.arg) (hself : ps[0]? = some ("self" : Str)) (hps : ps.length = ks.length + 1) (hNs : N.length = ps.length)
    (hL : L.map (·.2) = (List.range ks.length).map (· + 1)) (hfl : T.fld c = (L.map (·.1)).reverse) (h0 : L ≠ []) (hl9 : L.length ≤ 900) (hnd : (L.map (·.1)).reverse.Nodup)
    (hst : ∀ f cda cc base A outer s H E, IsSts (cxS (L2N.CX P w) P w K mg base N qual (defScope st) f (.ref cda) cc A outer s H E) L rest)
    (hck : ckEs ({ N := N, gn := [], fnm := [] } : Ck) (defScope st) (fun _ => false) sup (e :: es) = true)
    (hev : ∀ us : List V, okV ks us → ∃ ws, evs [] (fun _ _ _ => .stk) sup (.un :: slK ks us) [] = .ok ws (.un :: slK ks us) [] ∧ ws.length ≤ 1000)
    (hse : ∀ env, starEach (e :: es) env = (false, eval e env) :: starEach es env) (hpl : ∀ (pos : Pos) (env : Env), (backTo pos (starEach es env)).any (·.1) = false)
    (pl : Env → Sem Bool) (hevl : ∀ env, eval (.Call (.Attribute (.Call (.Name "super" p0) [] [] p1) "__init__" p2) (e :: es) [] p3) env = (do
      let ov ← attributeBase (.Call (.Name "super" p0) [] [] p1) "__init__" env (eval (.Call (.Name "super" p0) [] [] p1) env)
      standAt p2.atName
      let (f, first) ← holding [ov] (getMethod ov "__init__" (pl env))
      callWith p3 f first (backTo p3 (starEach (e :: es) env)) []))
    (hbind : ∀ (kV doc pm : Value) (an : Option Addr) (cdv ct : Value) (cc : Addr) (us : List Value), us.length = ps.length → bindArgs (PySem.W.ksFn "__init__" qual (defArgs st) (defBody st) (defScope st) .none kV doc pm an cdv ct cc) ⟨us, []⟩ = pure (ps.zip us))
    (hx : T.xca c = He.ga K x) (hcl : Cl c = .ref (He.ga K x)) : XcAt P w K mg T Cl c x ks := by
  unfold xcB at b
  obtain ⟨b1, b⟩ := He.ba b
  obtain ⟨b2, b⟩ := He.ba b
  obtain ⟨b3, b⟩ := He.ba b
  obtain ⟨b4, b⟩ := He.ba b
  obtain ⟨b5, b⟩ := He.ba b
  obtain ⟨b6, b⟩ := He.ba b
  obtain ⟨b7, b⟩ := He.ba b
  obtain ⟨b8, b⟩ := He.ba b
  obtain ⟨b9, b⟩ := He.ba b
  obtain ⟨b10, b⟩ := He.ba b
  obtain ⟨b11, b⟩ := He.ba b
  obtain ⟨b12, b⟩ := He.ba b
  obtain ⟨b13, b⟩ := He.ba b
  obtain ⟨b14, b⟩ := He.ba b
  obtain ⟨b15, b⟩ := He.ba b
  obtain ⟨b16, b⟩ := He.ba b
  obtain ⟨b17, b⟩ := He.ba b
  obtain ⟨b18, b19⟩ := He.ba b
  unfold xaB at ba
  obtain ⟨a1, ba⟩ := He.ba ba
  obtain ⟨a2, ba⟩ := He.ba ba
  obtain ⟨a3, ba⟩ := He.ba ba
  obtain ⟨a4, a5⟩ := He.ba ba
  obtain ⟨nm, qn, Nn, bs, bm, sn, sb, ab, col, dd, k0, k1, k2, k3, k5, xl, xr⟩ := xo_ok b2
  obtain ⟨oc, od, sl, kV, dc, pm, an, cda, ct, cc, ccl', cdd, vs, ccs, file, tf, cl, cld, csl, il, ic, dl, dv, df, ce⟩ := xf_ok o b9
  obtain ⟨cdD, hD⟩ := Option.isSome_iff_exists.mp b10
  have hsup : (P.main.scope.names.lookup ("super" : Str)).isSome = false := by simpa using a2
  exact xc_mk (st := st) (sup := sup) (L := L) (N := N) (ps := ps) X G hT hblt (He.eqO_ok b1) xl xr (He.eqO_ok b3) (of_decide_eq_true b4) (of_decide_eq_true b5) b6 (He.eqO_ok b7) (of_decide_eq_true b8) il ic dl dv df ce hD (He.eqO_ok a1) hsup (He.eqO_ok a3) (of_decide_eq_true b11) (He.eqO_ok b12) (of_decide_eq_true b13)
    (He.eqO_ok b14) (He.eqO_ok b15) b16 (He.eqO_ok b17) (He.eqO_ok a4) (of_decide_eq_true a5) (of_decide_eq_true b18) (fun q hq => He.eqO_ok (List.all_eq_true.mp b19 q.1 (List.mem_map_of_mem hq))) body S hp har hself hps hNs hL hfl h0 hl9 hnd (hst _ cda cc) hck hev hse hpl pl hevl hbind hx hcl
/-! ### handlers, classes asked for -/
def emB (K : PySem.W.Frag) (xs : List Str) (hnd : List Nat) : Bool := (List.range xs.length).all fun c => hnd.all fun d => match xs[c]?, xs[d]? with
  | some x, some y => eqB (PySem.W.exmOne K (.ref (He.ga K x)) (.ref (He.ga K y))) (some (c == d))
  | _, _ => false
def icB (K : PySem.W.Frag) (xs : List Str) (q : Str × List (Nat × Bool)) : Bool := match PySem.W.nsIn K mainGlobals q.1 with
  | some (some (.ref a)) => q.2.all fun p => (match xs[p.1]? with
    | some x => eqB (PySem.W.kitOne K (.ref (He.ga K x)) (.ref a)) (some p.2)
    | none => false)
  | some none => (match bootBuiltins q.1 with
    | some (.type t) => q.2.all fun p => (match xs[p.1]? with
      | some x => eqB (PySem.W.kitOne K (.ref (He.ga K x)) (.type t)) (some p.2)
      | none => false)
    | _ => false)
  | _ => false
/-- bound methods -/
def bmB (tx : Tx) (Is : List FI) (K : PySem.W.Frag) (f : Nat) : Bool := match Is[f]? with
  | some I => (match I.mt with
    | some (_, n) => !(PySem.W.copiedNames.contains n)
    | none => false) && (He.eqO (PySem.W.specialIn K (.ref (pathI tx I K)) "__get__") (some (some (.builtin "function.__get__"))) && (eqB (PySem.W.takesIn K (.ref (pathI tx I K))) (some false) && PySem.W.fnIn K (pathI tx I K)))
  | none => false
/-- code objects of defs that make lambdas -/
def cdIs (K : PySem.W.Frag) (a c : Addr) : Bool := match K.lookup a with
  | some ⟨_, _, .func fd, _⟩ => (match fd.code with
    | .ref c' => decide (c' = c)
    | _ => false)
  | _ => false
def coB (K : PySem.W.Frag) (c P : Addr) : Bool := match K.lookup c with
  | some ⟨.type t, _, .fields vs, _⟩ => decide (t = "code") && ((match (vs[11]? : Option Value), (vs.getD 11 .none : Value), (vs.getD 18 .none : Value), (vs.getD 7 .none : Value), (vs.getD 9 .none : Value), (vs.getD 10 .none : Value) with
    | some (Value.ref p1), Value.ref p2, Value.str _ _, Value.int _ _, Value.bool _, Value.int _ _ => decide (p1 = P) && decide (p2 = P)
    | _, _, _, _, _, _ => false) && !decide (c = P))
  | _ => false
def tbB (tx : Tx) (K : PySem.W.Frag) (I : FI) : Bool := cdIs K ((faI tx K I).getD 0) (cdA K ((faI tx K I).getD 0)) && (coB K (cdA K ((faI tx K I).getD 0)) (tbP K (cdA K ((faI tx K I).getD 0))) && (K.lookup (tbP K (cdA K ((faI tx K I).getD 0)))).isNone)
def tpL (tx : Tx) (Is : List FI) (K : PySem.W.Frag) : List Addr := (lkL Is).map fun I => tbP K (cdA K ((faI tx K I).getD 0))
def tlB (tx : Tx) (Is : List FI) (K : PySem.W.Frag) : Bool := (lkL Is).all (tbB tx K) && (decide (tpL tx Is K).Nodup && tx.bmn.all (bmB tx Is K))
/-- an empty table in the heap -/
def emP (g : Addr → Option Obj) (P : Addr) : Bool := match g P with
  | some ⟨.none, none, .fields vs, sl⟩ => vs.toList.isEmpty && sl.toList.isEmpty
  | _ => false
theorem emP_ok {g : Addr → Option Obj} {P : Addr} (h : emP g P = true) : g P = some { cls := .none, data := .fields #[] } := by
  unfold emP at h
  split at h
  · rename_i vs sl e
    obtain ⟨h1, h2⟩ := He.ba h
    rw [e]
    obtain ⟨l1⟩ := vs
    obtain ⟨l2⟩ := sl
    have e1 : l1 = [] := List.isEmpty_iff.mp h1
    have e2 : l2 = [] := List.isEmpty_iff.mp h2
    subst e1 e2
    rfl
  · cases h
theorem coB_ok {K : PySem.W.Frag} {h : Heap} {c P : Addr} (X : K.In h) (e : coB K c P = true) : PySem.W.CodeHd h c P := by
  unfold coB at e
  split at e
  · rename_i t d vs sl hl
    obtain ⟨e1, e⟩ := He.ba e
    obtain ⟨e2, e3⟩ := He.ba e
    have q := of_decide_eq_true e1
    subst q
    split at e2
    · rename_i p1 p2 file tf flags tg inF text tt h11 g11 g18 g7 g9 g10
      obtain ⟨f1, f2⟩ := He.ba e2
      have q1 := of_decide_eq_true f1
      have q2 := of_decide_eq_true f2
      subst q1
      exact ⟨_, vs, file, tf, flags, tg, inF, text, tt, X _ _ hl, rfl, rfl, h11, by rw [g11, q2], g18, g7, g9, g10, by simpa using e3⟩
    · cases e2
  · cases e
def pgB (P : Program) (Is : List FI) (tx : Tx) (gv : List PV) (mks : List Bool) (xs : List (Str × Str × List Str)) (K : PySem.W.Frag) : Bool :=
  ((Is.filter fun I => !I.lam).all fun I => fiB tx I K) && ((tx.cln.zip (mks.zip tx.atn)).all (fun q => clB tx K q.2.1 q.1 q.2.2) && (gvB K tx.gn gv && ((xs.isEmpty || xaB P K) && (xs.all (fun q => xcB P K q.1 q.2.1 q.2.2) && (emB K (tx.xcn.map (·.1)) tx.hnd &&
  (tx.icl.all (icB K (tx.xcn.map (·.1))) && (tlB tx Is K && bNames.all fun x => He.Fa.ok K (.free x))))))))
/-! ### the hook -/
structure Md where
  P : Program
  Is : List FI
  tx : Tx
  gv : List PV
  mks : List Bool
  xs : List (Str × Str × List Str)
  /-- names from which the part of the heap is taken -/
  ns : List Str
  /-- own exceptions' initializers -/
  xf : List (Str × FnV5)
def Md.obK (M : Md) (K : PySem.W.Frag) : Bool × List FnV5 × List FnV5 := (pgB M.P M.Is M.tx M.gv M.mks M.xs K, (M.Is.filter fun I => !I.lam).map (fun I => fob K (pathI M.tx I K)), M.xf.map fun q => fob K (He.ma K (He.ga K q.1) "__init__"))
def Md.vlK (M : Md) : Bool × List FnV5 × List FnV5 := (true, (M.Is.filter fun I => !I.lam).map fiV, M.xf.map (·.2))
def Md.obG (M : Md) (g : Addr → Option Obj) : Bool × List FnV5 × List FnV5 := M.obK (He.frG g (asX M.ns g))
def Md.tp (M : Md) (K : PySem.W.Frag) : List Addr := tpL M.tx M.Is K
def Md.obT (M : Md) (g : Addr → Option Obj) : (Bool × List FnV5 × List FnV5) × Bool := (M.obG g, (M.tp (He.frG g (asX M.ns g))).all (emP g))
def Md.hk (M : Md) : PySem.W.Hook where
  α := (Bool × List FnV5 × List FnV5) × Bool
  obs := fun s => M.obT s.heap.get?
  val := fun _ => (M.vlK, true)
  says := fun _ h => ∃ K : PySem.W.Frag, K.In h ∧ M.obK K = M.vlK ∧ ∀ P ∈ M.tp K, h.get? P = some { cls := .none, data := .fields #[] }
  of := fun _ s e => by
    have e : (M.obG s.heap.get?, (M.tp (He.frG s.heap.get? (asX M.ns s.heap.get?))).all (emP s.heap.get?)) = (M.vlK, true) := e
    rw [Prod.mk.injEq] at e
    exact ⟨_, He.frG_in, e.1, fun P hP => emP_ok (List.all_eq_true.mp e.2 P hP)⟩
  keeps := fun _ _ _ ⟨K, hK, c, d⟩ k => ⟨K, PySem.W.Frag.In.keeps hK k, c, fun P hP => k _ _ (d P hP)⟩
def Md.ob (M : Md) (s : PySem.W.SharedT) : (Bool × List FnV5 × List FnV5) × Bool := M.obT (HandSHeadRun.getT s)
theorem Md.ob_eq (M : Md) (s : PySem.W.SharedT) : M.ob s = M.hk.obs s.abs := by
  have e : HandSHeadRun.getT s = s.abs.heap.get? := funext (HandSHeadRun.getT_eq s)
  show M.obT (HandSHeadRun.getT s) = M.obT s.abs.heap.get?
  rw [e]
/-! ### .. and what the walk wants -/
structure PgD (M : Md) (K : PySem.W.Frag) : Prop where
  fis : ∀ (j : Nat) I, M.Is[j]? = some I → I.lam = false → fiB M.tx I K = true ∧ fob K (pathI M.tx I K) = fiV I
  cls : ∀ (c : Nat) x mk at_, M.tx.cln[c]? = some x → M.mks[c]? = some mk → M.tx.atn[c]? = some at_ → clB M.tx K mk x at_ = true
  gvs : gvB K M.tx.gn M.gv = true
  xas : M.xs ≠ [] → xaB M.P K = true
  xcs : ∀ (c : Nat) q, M.xs[c]? = some q → xcB M.P K q.1 q.2.1 q.2.2 = true
  xfs : ∀ (c : Nat) q, M.xf[c]? = some q → fob K (He.ma K (He.ga K q.1) "__init__") = q.2
  ems : emB K (M.tx.xcn.map (·.1)) M.tx.hnd = true
  ics : M.tx.icl.all (icB K (M.tx.xcn.map (·.1))) = true
  tbs : tlB M.tx M.Is K = true
  bns : ∀ x ∈ bNames, He.Fa.ok K (.free x) = true
theorem Md.says {M : Md} {K : PySem.W.Frag} (h : M.obK K = M.vlK) : PgD M K := by
  unfold Md.obK Md.vlK at h
  simp only [Prod.mk.injEq] at h
  obtain ⟨h1, h2, h3⟩ := h
  unfold pgB at h1
  obtain ⟨c1, h1⟩ := He.ba h1
  obtain ⟨c2, h1⟩ := He.ba h1
  obtain ⟨c3, h1⟩ := He.ba h1
  obtain ⟨c4, h1⟩ := He.ba h1
  obtain ⟨c5, h1⟩ := He.ba h1
  obtain ⟨c6, h1⟩ := He.ba h1
  obtain ⟨c7, h1⟩ := He.ba h1
  obtain ⟨c9, c8⟩ := He.ba h1
  refine ⟨fun j I hj hl => ⟨List.all_eq_true.mp c1 I (List.mem_filter.mpr ⟨List.mem_of_getElem? hj, by simp [hl]⟩), ?_⟩, fun c x mk at_ hx hk ha => ?_, c3, fun hne => ?_, fun c q hq => List.all_eq_true.mp c5 q (List.mem_of_getElem? hq), fun c q hq => ?_, c6, c7, c9, fun x hx => List.all_eq_true.mp c8 x hx⟩
  · have hm : I ∈ M.Is.filter fun I => !I.lam := List.mem_filter.mpr ⟨List.mem_of_getElem? hj, by simp [hl]⟩
    exact List.map_inj_left.mp h2 I hm
  · have z := List.all_eq_true.mp c2 (x, mk, at_) (List.mem_of_getElem? (i := c) (by rw [List.getElem?_zip_eq_some]; exact ⟨hx, by rw [List.getElem?_zip_eq_some]; exact ⟨hk, ha⟩⟩))
    exact z
  · cases e : M.xs with
    | nil => exact absurd e hne
    | cons a r => rw [e] at c4; exact c4
  · have e2 : (M.xf.map fun q => fob K (He.ma K (He.ga K q.1) "__init__"))[c]? = (M.xf.map (·.2))[c]? := by rw [h3]
    rw [List.getElem?_map, List.getElem?_map, hq] at e2
    exact Option.some.inj e2
section
variable {P : Program} {wl : World} {K : PySem.W.Frag} {h : Heap} {mg : Str → Option Value} {tx : Tx} {Is : List FI}
theorem cl_5 {mk : Bool} {x : Str} {at_ : List Str} (c : clB tx K mk x at_ = true) : He.Fa.ok K (.glo x) = true ∧ Cls K (He.ga K x) ∧ (mk = true → Mk K (He.ga K x) (He.ma K (He.ga K x) "__init__")) ∧ ∀ n ∈ at_, NoAttr K (He.ga K x) n := by
  unfold clB at c
  obtain ⟨c1, c⟩ := He.ba c
  obtain ⟨c2, c⟩ := He.ba c
  obtain ⟨c3, c4⟩ := He.ba c
  refine ⟨c1, He.cls_ok c2, fun e => ?_, fun n hn => He.noat_ok (List.all_eq_true.mp c4 n hn)⟩
  rw [e] at c3
  exact He.mkr_ok c3
/-- a method -/
theorem mt_5 {I : FI} {j c : Nat} {n x : Str} {mk : Bool} {at_ : List Str} (hj : Is[j]? = some I) (hm : I.mt = some (c, n)) (hx : tx.cln[c]? = some x) (ci : fiB tx I K = true) (cc : clB tx K mk x at_ = true) (hmk : n = ("__init__" : Str) → mk = true) :
    ∃ b, (ctb P wl Is tx K).fa j = some b ∧ Cls K ((ctb P wl Is tx K).cla c) ∧ L2.Meth K ((ctb P wl Is tx K).cla c) n b ∧ (n = ("__init__" : Str) → Mk K ((ctb P wl Is tx K).cla c) b) := by
  obtain ⟨d1, d2, d3, d4⟩ := cl_5 cc
  have hC : clA tx K c = He.ga K x := clA_5 hx d1
  unfold fiB at ci
  obtain ⟨c1, ci⟩ := He.ba ci
  obtain ⟨c2, c3⟩ := He.ba ci
  rw [hm] at c3
  obtain ⟨e1, e⟩ := He.ba c3
  obtain ⟨e2, e3⟩ := He.ba e
  have hp : pathI tx I K = He.ma K (clA tx K c) n := by unfold pathI; rw [hm]
  rw [hp] at c2
  rw [hC] at c2 e2 e3
  exact mt_at hj hm hC (He.eqO_ok e2) e3 c2 d2 fun q => by subst q; exact d3 (hmk rfl)
theorem at_5 {c : Nat} {x : Str} {mk : Bool} {at_ : List Str} (hx : tx.cln[c]? = some x) (ha : tx.atn[c]? = some at_) (cc : clB tx K mk x at_ = true) (hn : at_.Nodup) (hl : at_.length ≤ 900) :
    (ctb P wl Is tx K).atn c = at_ ∧ at_.Nodup ∧ at_.length ≤ 900 ∧ Cls K ((ctb P wl Is tx K).cla c) ∧ ∀ n ∈ at_, NoAttr K ((ctb P wl Is tx K).cla c) n := by
  obtain ⟨d1, d2, d3, d4⟩ := cl_5 cc
  rw [show (ctb P wl Is tx K).cla c = He.ga K x from clA_5 hx d1]
  refine ⟨?_, hn, hl, d2, d4⟩
  show (tx.atn[c]?).getD [] = at_
  rw [ha]; rfl
theorem cg_5 {c : Nat} {x : Str} {mk : Bool} {at_ : List Str} (X : K.In h) (G : h.Ns mainGlobals mg) (hx : tx.cln[c]? = some x) (cc : clB tx K mk x at_ = true) : mg x = some (.ref ((ctb P wl Is tx K).cla c)) := by
  obtain ⟨d1, d2, d3, d4⟩ := cl_5 cc
  rw [show (ctb P wl Is tx K).cla c = He.ga K x from clA_5 hx d1]
  exact He.glo_ok X G d1
theorem xa_5 {c : Nat} {x : Str} {ks : List Bool} (hx : tx.xcn[c]? = some (x, ks)) (a : He.Fa.ok K (.glo x) = true) : (ctb P wl Is tx K).xca c = He.ga K x := by
  show (match tx.xcn[c]? with | some q => (nsA K q.1).getD 0 | none => 0) = _
  rw [hx]
  show (nsA K x).getD 0 = _
  rw [nsA_of (He.eqO_ok a)]; all_goals rfl
theorem xglo {P : Program} {x q : Str} {L : List Str} (b : xcB P K x q L = true) : He.Fa.ok K (.glo x) = true := by
  unfold xcB at b
  exact (He.ba b).1
theorem em_5 (E : emB K (tx.xcn.map (·.1)) tx.hnd = true) (gl : ∀ (c : Nat) x ks, tx.xcn[c]? = some (x, ks) → He.Fa.ok K (.glo x) = true) (c c' : Nat) (h1 : c < tx.xcn.length) (h2 : c' ∈ tx.hnd) : PySem.W.exmOne K (ccl P wl Is tx K c) (ccl P wl Is tx K c') = some (c == c') := by
  unfold emB at E
  have z := List.all_eq_true.mp E c (by rw [List.length_map]; exact List.mem_range.mpr h1)
  have z := List.all_eq_true.mp z c' h2
  cases e : tx.xcn[c]? with
  | none => rw [List.getElem?_map, e] at z; cases z
  | some q =>
    cases e' : tx.xcn[c']? with
    | none => rw [List.getElem?_map, e, List.getElem?_map, e'] at z; cases z
    | some q' =>
      rw [List.getElem?_map, e, List.getElem?_map, e'] at z
      show PySem.W.exmOne K (.ref ((ctb P wl Is tx K).xca c)) (.ref ((ctb P wl Is tx K).xca c')) = _
      rw [xa_5 (x := q.1) (ks := q.2) e (gl c q.1 q.2 e), xa_5 (x := q'.1) (ks := q'.2) e' (gl c' q'.1 q'.2 e')]
      exact of_decide_eq_true z
theorem ic_5 (E : tx.icl.all (icB K (tx.xcn.map (·.1))) = true) (X : K.In h) (G : h.Ns mainGlobals mg) (gl : ∀ (c : Nat) x ks, tx.xcn[c]? = some (x, ks) → He.Fa.ok K (.glo x) = true) (k : Nat) (y : Str) (tb : List (Nat × Bool)) (hk : tx.icl[k]? = some (y, tb)) :
    ∃ (v : V) (cv : Value), RelV v cv ∧ (∀ u, RelV v u → u = cv) ∧ (mg y = some cv ∨ (mg y = none ∧ bootBuiltins y = some cv)) ∧ ∀ p ∈ tb, p.1 < tx.xcn.length ∧ PySem.W.kitOne K (.ref ((ctb P wl Is tx K).xca p.1)) cv = some p.2 := by
  have z := List.all_eq_true.mp E (y, tb) (List.mem_of_getElem? hk)
  unfold icB at z
  have key : ∀ cv : Value, (tb.all fun p => (match (tx.xcn.map (·.1))[p.1]? with
      | some x => eqB (PySem.W.kitOne K (.ref (He.ga K x)) cv) (some p.2)
      | none => false)) = true → ∀ p ∈ tb, p.1 < tx.xcn.length ∧ PySem.W.kitOne K (.ref ((ctb P wl Is tx K).xca p.1)) cv = some p.2 := fun cv q p hp => by
    have q := List.all_eq_true.mp q p hp
    cases e : tx.xcn[p.1]? with
    | none => rw [List.getElem?_map, e] at q; cases q
    | some r =>
      rw [List.getElem?_map, e] at q
      refine ⟨(List.getElem?_eq_some_iff.mp e).1, ?_⟩
      rw [xa_5 (x := r.1) (ks := r.2) e (gl p.1 r.1 r.2 e)]
      exact of_decide_eq_true q
  dsimp only at z
  split at z
  · rename_i a e
    exact ⟨.ref a, .ref a, rfl, fun u h => h, .inl (PySem.W.mg_of X G e), key _ z⟩
  · rename_i e
    split at z
    · rename_i t e2
      exact ⟨.ty t, .type t, rfl, fun u h => h, .inr ⟨PySem.W.mg_none_of X G e, e2⟩, key _ z⟩
    · cases z
  · cases z
/-- a bound method -/
theorem bm_5 {I : FI} {f c : Nat} {n x : Str} {mk : Bool} {at_ : List Str} (T : tlB tx Is K = true) (hj : Is[f]? = some I) (hm : I.mt = some (c, n)) (hb : tx.bmn.contains f = true) (hx : tx.cln[c]? = some x) (ci : fiB tx I K = true) (cc : clB tx K mk x at_ = true) :
    (ctb P wl Is tx K).bm f = true ∧ ∃ a, (ctb P wl Is tx K).fa f = some a ∧ L2.BMeth K ((ctb P wl Is tx K).cla c) n a := by
  refine ⟨hb, ?_⟩
  obtain ⟨d1, d2, d3, d4⟩ := cl_5 cc
  have hC : clA tx K c = He.ga K x := clA_5 hx d1
  unfold fiB at ci
  obtain ⟨c1, ci⟩ := He.ba ci
  obtain ⟨c2, c3⟩ := He.ba ci
  rw [hm] at c3
  obtain ⟨e1, e⟩ := He.ba c3
  obtain ⟨e2, e3⟩ := He.ba e
  have hp : pathI tx I K = He.ma K (clA tx K c) n := by unfold pathI; rw [hm]
  rw [hp] at c2
  unfold tlB at T
  obtain ⟨_, T⟩ := He.ba T
  obtain ⟨_, T⟩ := He.ba T
  have z := List.all_eq_true.mp T f (by simpa using hb)
  unfold bmB at z
  rw [hj] at z
  dsimp only at z
  rw [hm, hp] at z
  obtain ⟨z1, z⟩ := He.ba z
  obtain ⟨z2, z⟩ := He.ba z
  obtain ⟨z3, z4⟩ := He.ba z
  refine ⟨He.ma K (clA tx K c) n, ?_, ⟨⟨He.eqO_ok e2, e3, c2⟩, He.eqO_ok z2, of_decide_eq_true z3, by simpa using z1, z4⟩⟩
  show (Is[f]?).bind (faI tx K) = _
  rw [hj]
  exact fa_mt hm rfl (He.eqO_ok e2)
theorem bf_5 (T : tlB tx Is K = true) (FI_ : ∀ (j : Nat) I, Is[j]? = some I → I.lam = false → fiB tx I K = true) (chk : Is.all (FI.chk tx Is) = true) (f : Nat) (a : Addr) (hb : (ctb P wl Is tx K).bm f = true) (ha : (ctb P wl Is tx K).fa f = some a) : PySem.W.fnIn K a = true := by
  obtain ⟨I, hI, hl⟩ := fa_in chk ha
  have hb : tx.bmn.contains f = true := hb
  unfold tlB at T
  obtain ⟨_, T⟩ := He.ba T
  obtain ⟨_, T⟩ := He.ba T
  have z := List.all_eq_true.mp T f (by simpa using hb)
  unfold bmB at z
  rw [hI] at z
  dsimp only at z
  have ci := FI_ f I hI hl
  have ha : (Is[f]?).bind (faI tx K) = some a := ha
  rw [hI, Option.bind_some] at ha
  cases hm : I.mt with
  | none => rw [hm] at z; obtain ⟨z1, _⟩ := He.ba z; cases z1
  | some q =>
    obtain ⟨c, n⟩ := q
    obtain ⟨z1, z⟩ := He.ba z
    obtain ⟨z2, z⟩ := He.ba z
    obtain ⟨z3, z4⟩ := He.ba z
    unfold fiB at ci
    obtain ⟨c1, ci⟩ := He.ba ci
    obtain ⟨c2, c3⟩ := He.ba ci
    rw [hm] at c3
    obtain ⟨e1, e⟩ := He.ba c3
    obtain ⟨e2, e3⟩ := He.ba e
    have hp : pathI tx I K = He.ma K (clA tx K c) n := by unfold pathI; rw [hm]
    rw [fa_mt hm rfl (He.eqO_ok e2)] at ha
    cases ha
    rw [hp] at z4
    exact z4
/-- the tables of code objects -/
theorem tb_5 {I : FI} {f k : Nat} {a : Addr} {fd : FuncData} {mg : Str → Option Value} (T : tlB tx Is K = true) (hj : Is[f]? = some I) (hk : (lkL Is)[k]? = some I) (O : FOk K mg a fd I) (ha : (ctb P wl Is tx K).fa f = some a) :
    ∃ c P0, (ctb P wl Is tx K).tbs[k]? = some (c, P0, (I.name ++ ".<locals>.") ++ "<lambda>") ∧ fd.code = .ref c := by
  have ha : (Is[f]?).bind (faI tx K) = some a := ha
  rw [hj, Option.bind_some] at ha
  unfold tlB at T
  obtain ⟨T, _⟩ := He.ba T
  have z := List.all_eq_true.mp T I (List.mem_of_getElem? hk)
  unfold tbB at z
  obtain ⟨z1, _⟩ := He.ba z
  rw [ha] at z1
  refine ⟨cdA K a, tbP K (cdA K a), ?_, ?_⟩
  · show ((lkL Is).map (tbI tx K))[k]? = _
    rw [List.getElem?_map, hk]
    show some (tbI tx K I) = _
    unfold tbI
    rw [ha]
    rfl
  · obtain ⟨oc, od, dV, kV, doc, pm, an, cdv, ct, osl, rfl, lk, hcd⟩ := O.F.ex
    unfold cdIs at z1
    rw [Option.getD_some, lk] at z1
    dsimp only [PySem.W.fnOf] at z1
    show cdv = _
    split at z1
    · rw [of_decide_eq_true z1]
    · cases z1
theorem lk_5 (L : (lkL Is).map FI.lk = (List.range (lkL Is).length).map some) {f k : Nat} {I : FI} (hj : Is[f]? = some I) (hk : I.lk = some k) : (lkL Is)[k]? = some I := by
  have hm : I ∈ lkL Is := List.mem_filter.mpr ⟨List.mem_of_getElem? hj, by rw [hk]; rfl⟩
  obtain ⟨i, hi⟩ := List.mem_iff_getElem?.mp hm
  have hl : i < (lkL Is).length := (List.getElem?_eq_some_iff.mp hi).1
  have e : ((lkL Is).map FI.lk)[i]? = ((List.range (lkL Is).length).map some)[i]? := by rw [L]
  rw [List.getElem?_map, hi, List.getElem?_map, List.getElem?_range hl] at e
  have e2 : some I.lk = some (some i) := e
  rw [hk] at e2
  cases e2
  exact hi
theorem tp_5 (X : K.In h) (T : tlB tx Is K = true) (E : ∀ P ∈ tpL tx Is K, h.get? P = some { cls := .none, data := .fields #[] }) :
    (∀ p ∈ tabs (ctb P wl Is tx K), h.get? p.2 = some { cls := .none, data := .fields #[] }) ∧ (∀ p ∈ tabs (ctb P wl Is tx K), K.lookup p.2 = none) ∧ (∀ p ∈ tabs (ctb P wl Is tx K), PySem.W.CodeHd h p.1 p.2) ∧ ((tabs (ctb P wl Is tx K)).map (·.2)).Nodup := by
  have e : (tabs (ctb P wl Is tx K)).map (·.2) = tpL tx Is K := by
    show (((lkL Is).map (tbI tx K)).map _).map _ = _
    rw [List.map_map, List.map_map]
    rfl
  unfold tlB at T
  obtain ⟨T, T2⟩ := He.ba T
  obtain ⟨T2, _⟩ := He.ba T2
  have at_ : ∀ p ∈ tabs (ctb P wl Is tx K), ∃ I ∈ lkL Is, p.1 = cdA K ((faI tx K I).getD 0) ∧ p.2 = tbP K (cdA K ((faI tx K I).getD 0)) := fun p hp => by
    obtain ⟨q, hq, rfl⟩ := List.mem_map.mp hp
    obtain ⟨I, hI, rfl⟩ := List.mem_map.mp (show q ∈ (lkL Is).map (tbI tx K) from hq)
    exact ⟨I, hI, rfl, rfl⟩
  refine ⟨fun p hp => E _ (by rw [← e]; exact List.mem_map_of_mem hp), fun p hp => ?_, fun p hp => ?_, by rw [e]; exact of_decide_eq_true T2⟩
  · obtain ⟨I, hI, e1, e2⟩ := at_ p hp
    have z := List.all_eq_true.mp T I hI
    unfold tbB at z
    obtain ⟨_, z⟩ := He.ba z
    rw [e2]
    exact Option.isNone_iff_eq_none.mp (He.ba z).2
  · obtain ⟨I, hI, e1, e2⟩ := at_ p hp
    have z := List.all_eq_true.mp T I hI
    unfold tbB at z
    obtain ⟨_, z⟩ := He.ba z
    rw [e1, e2]
    exact coB_ok X (He.ba z).1
end
end RA

namespace RA
open PySem L2
def top (i : Nat) : Stmt := PySem.Challenge.pw_readagain_k21_wrong_sources.main.body.getD i (.Pass ⟨0, 0, 0, 0⟩)
/-- the k-th statement of the class there -/
def inn (i k : Nat) : Stmt := match top i with
  | .ClassDef _ _ _ b _ _ _ _ _ _ _ => b.getD k (.Pass ⟨0, 0, 0, 0⟩)
  | _ => .Pass ⟨0, 0, 0, 0⟩
/-- the constants -/
def gn : List Str := ["SIGNS", "LETTERS", "FIGURES_sources", "MARKS", "MOST_FIGURES"]
def gv : List PV := [(.str [32, 33, 34, 35, 36, 38, 39, 40, 41, 42, 43, 44, 45, 46, 47, 48, 49, 50, 51, 52, 53, 54, 55, 56, 57, 58, 59, 60, 61, 62, 63, 64, 65, 66, 67, 68, 69, 70, 71, 72, 73, 74, 75, 76, 77, 78, 79, 80, 81, 82, 83, 84, 85, 86, 87, 88, 89, 90, 91, 92, 93, 94, 95, 96, 97, 98, 99, 100, 101, 102, 103, 104, 105, 106, 107, 108, 109, 110, 111, 112, 113, 114, 115, 116, 117, 118, 119, 120, 121, 122, 123, 124, 125, 126]), (.str [97, 98, 99, 100, 101, 102, 103, 104, 105, 106, 107, 108, 109, 110, 111, 112, 113, 114, 115, 116, 117, 118, 119, 120, 121, 122]), (.str [48, 49, 50, 51, 52, 53, 54, 55, 56, 57]), (.tup [(.str [40]), (.str [41]), (.str [44]), (.str [46, 46])]), (.int 9)]
/-- check_format -/
def b_check_format : Sms :=
      (.cons .stk .nil)
def f_check_format : FI := ⟨"check_format", some "check_format", none, top 41, ["sort", "thing"], ["sort", "thing"], ⟨2, 2, b_check_format⟩, false, none, []⟩
/-- check_sort -/
def b_check_sort : Sms :=
      (.cons .stk .nil)
def f_check_sort : FI := ⟨"check_sort", some "check_sort", none, top 60, ["thing"], ["thing"], ⟨1, 1, b_check_sort⟩, false, none, []⟩
/-- end_of -/
def b_end_of : Sms :=
      (.cons 
      (.whl (.all (.cons (.v (.cmp .lt (.loc 1) (.bi .len (.cons (.loc 0) .nil)))) (.cons (.v (.cmp .inn (.idx (.loc 0) (.loc 1)) (.loc 2))) .nil))) (.cons 
      (.aug 1 .add (.int 1)) .nil)) (.cons 
      (.ret (.loc 1)) .nil))
def f_end_of : FI := ⟨"end_of", some "end_of", none, top 67, ["row", "at", "signs"], ["row", "at", "signs"], ⟨3, 3, b_end_of⟩, false, none, []⟩
/-- quoted_at -/
def b_quoted_at : Sms :=
      (.cons 
      (.par 3 4 (.str []) (.op .add (.loc 1) (.int 1))) (.cons 
      (.whl (.all (.cons (.v (.cmp .lt (.loc 4) (.bi .len (.cons (.loc 0) .nil)))) (.cons (.v (.cmp .ne (.idx (.loc 0) (.loc 4)) (.str [34]))) .nil))) (.cons 
      (.ift (.v (.cmp .eq (.idx (.loc 0) (.loc 4)) (.str [92]))) (.cons 
      (.aug 4 .add (.int 1)) (.cons 
      (.ift (.v (.cmp .nin (.sli (.loc 0) (.so (.loc 4)) (.so (.op .add (.loc 4) (.int 1)))) (.tup (.cons (.str [34]) (.cons (.str [92]) .nil))))) (.cons 
      (.rai 0 [true, true] (.cons (.loc 2) (.cons (.op .add (.loc 4) (.int 1)) .nil))) .nil) .nil) .nil)) .nil) (.cons 
      (.ift (.v (.cmp .nin (.idx (.loc 0) (.loc 4)) (.glo 0))) (.cons 
      (.rai 0 [true, true] (.cons (.loc 2) (.cons (.op .add (.loc 4) (.int 1)) .nil))) .nil) .nil) (.cons 
      (.par 3 4 (.op .add (.loc 3) (.idx (.loc 0) (.loc 4))) (.op .add (.loc 4) (.int 1))) .nil)))) (.cons 
      (.ift (.v (.cmp .eq (.loc 4) (.bi .len (.cons (.loc 0) .nil)))) (.cons 
      (.rai 0 [true, true] (.cons (.loc 2) (.cons (.op .add (.loc 4) (.int 1)) .nil))) .nil) .nil) (.cons 
      (.ret (.tup (.cons (.loc 3) (.cons (.op .add (.loc 4) (.int 1)) .nil)))) .nil))))
def f_quoted_at : FI := ⟨"quoted_at", some "quoted_at", none, top 68, ["row", "at", "line", "found", "here"], ["row", "at", "line"], ⟨3, 5, b_quoted_at⟩, false, none, []⟩
/-- number_at -/
def b_number_at : Sms :=
      (.cons 
      (.asg 4 (.ife (.v (.cmp .eq (.idx (.loc 0) (.loc 1)) (.str [45]))) (.op .add (.loc 1) (.int 1)) (.loc 1))) (.cons 
      (.asg 5 (.call 2 (.cons (.loc 0) (.cons (.loc 4) (.cons (.glo 2) .nil))))) (.cons 
      (.asg 6 (.sli (.loc 0) (.so (.loc 4)) (.so (.loc 5)))) (.cons 
      (.ift (.any (.cons (.v (.cmp .eq (.loc 6) (.str []))) (.cons (.v (.cmp .gt (.bi .len (.cons (.loc 6) .nil)) (.loc 3))) (.cons (.all (.cons (.v (.cmp .eq (.idx (.loc 6) (.int 0)) (.str [48]))) (.cons (.any (.cons (.v (.cmp .gt (.bi .len (.cons (.loc 6) .nil)) (.int 1))) (.cons (.v (.cmp .gt (.loc 4) (.loc 1))) .nil))) .nil))) .nil)))) (.cons 
      (.rai 0 [true, true] (.cons (.loc 2) (.cons (.op .add (.loc 1) (.int 1)) .nil))) .nil) .nil) (.cons 
      (.ret (.tup (.cons (.bi .int (.cons (.sli (.loc 0) (.so (.loc 1)) (.so (.loc 5))) .nil)) (.cons (.loc 5) .nil)))) .nil)))))
def f_number_at : FI := ⟨"number_at", some "number_at", none, top 69, ["row", "at", "line", "most", "start", "late", "figures"], ["row", "at", "line", "most"], ⟨4, 7, b_number_at⟩, false, none, []⟩
/-- piece_at -/
def b_piece_at : Sms :=
      (.cons 
      (.ift (.v (.cmp .inn (.idx (.loc 0) (.loc 1)) (.glo 1))) (.cons 
      (.asg 4 (.call 2 (.cons (.loc 0) (.cons (.loc 1) (.cons (.glo 1) .nil))))) (.cons 
      (.ret (.tup (.cons (.new 0 17 (.cons (.str [119, 111, 114, 100]) (.cons (.sli (.loc 0) (.so (.loc 1)) (.so (.loc 4))) (.cons (.loc 2) (.cons (.op .add (.loc 1) (.int 1)) .nil))))) (.cons (.loc 4) .nil)))) .nil)) .nil) (.cons 
      (.ift (.v (.cmp .eq (.idx (.loc 0) (.loc 1)) (.str [34]))) (.cons 
      (.ast (.tp (.cons (.nm 5) (.cons (.nm 4) .nil))) (.call 3 (.cons (.loc 0) (.cons (.loc 1) (.cons (.loc 2) .nil))))) (.cons 
      (.ret (.tup (.cons (.new 0 17 (.cons (.str [116, 101, 120, 116]) (.cons (.loc 5) (.cons (.loc 2) (.cons (.op .add (.loc 1) (.int 1)) .nil))))) (.cons (.loc 4) .nil)))) .nil)) .nil) (.cons 
      (.ift (.any (.cons (.v (.cmp .inn (.idx (.loc 0) (.loc 1)) (.glo 2))) (.cons (.v (.cmp .eq (.idx (.loc 0) (.loc 1)) (.str [45]))) .nil))) (.cons 
      (.ast (.tp (.cons (.nm 6) (.cons (.nm 4) .nil))) (.call 4 (.cons (.loc 0) (.cons (.loc 1) (.cons (.loc 2) (.cons (.loc 3) .nil)))))) (.cons 
      (.ret (.tup (.cons (.new 0 17 (.cons (.str [110, 117, 109, 98, 101, 114]) (.cons (.loc 6) (.cons (.loc 2) (.cons (.op .add (.loc 1) (.int 1)) .nil))))) (.cons (.loc 4) .nil)))) .nil)) .nil) (.cons 
      (.for (.nm 7) (.val (.glo 3)) (.cons 
      (.ift (.v (.cmp .eq (.sli (.loc 0) (.so (.loc 1)) (.so (.op .add (.loc 1) (.bi .len (.cons (.loc 7) .nil))))) (.loc 7))) (.cons 
      (.ret (.tup (.cons (.new 0 17 (.cons (.str [109, 97, 114, 107]) (.cons (.loc 7) (.cons (.loc 2) (.cons (.op .add (.loc 1) (.int 1)) .nil))))) (.cons (.op .add (.loc 1) (.bi .len (.cons (.loc 7) .nil))) .nil)))) .nil) .nil) .nil)) (.cons 
      (.rai 0 [true, true] (.cons (.loc 2) (.cons (.op .add (.loc 1) (.int 1)) .nil))) .nil)))))
def f_piece_at : FI := ⟨"piece_at", some "piece_at", none, top 70, ["row", "at", "line", "most", "late", "text", "number", "mark"], ["row", "at", "line", "most"], ⟨4, 8, b_piece_at⟩, false, none, []⟩
/-- pieces_of -/
def b_pieces_of : Sms :=
      (.cons 
      (.owe 2 3 (.mt .split (.loc 0) (.cons (.str [10]) .nil))) (.cons 
      (.for (.tp (.cons (.nm 4) (.cons (.nm 5) .nil))) (.enk 1 (.loc 3)) (.cons 
      (.asg 6 (.int 0)) (.cons 
      (.whl (.all (.cons (.v (.cmp .lt (.loc 6) (.bi .len (.cons (.loc 5) .nil)))) (.cons (.v (.cmp .ne (.idx (.loc 5) (.loc 6)) (.str [35]))) .nil))) (.cons 
      (.ift (.v (.cmp .eq (.idx (.loc 5) (.loc 6)) (.str [32]))) (.cons 
      (.aug 6 .add (.int 1)) .nil) (.cons 
      (.ast (.tp (.cons (.nm 7) (.cons (.nm 6) .nil))) (.call 5 (.cons (.loc 5) (.cons (.loc 6) (.cons (.loc 4) (.cons (.loc 1) .nil)))))) (.cons 
      (.app 2 (.loc 7)) .nil))) .nil)) .nil))) (.cons 
      (.app 2 (.new 0 17 (.cons (.str [101, 110, 100]) (.cons (.str []) (.cons (.bi .len (.cons (.loc 3) .nil)) (.cons (.op .add (.bi .len (.cons (.idx (.loc 3) (.neg (.int 1))) .nil)) (.int 1)) .nil)))))) (.cons 
      (.ret (.loc 2)) .nil))))
def f_pieces_of : FI := ⟨"pieces_of", some "pieces_of", none, top 71, ["text", "most", "found", "rows", "line", "row", "at", "piece"], ["text", "most"], ⟨2, 8, b_pieces_of⟩, false, none, []⟩
/-- read_whole -/
def b_read_whole : Sms :=
      (.cons 
      (.ift (.nt (.v (.isi .str (.loc 0)))) (.cons 
      (.rai 0 [true, true] (.cons (.int 0) (.cons (.int 0) .nil))) .nil) .nil) (.cons 
      (.asg 3 (.new 1 18 (.cons (.loc 0) (.cons (.loc 2) .nil)))) (.cons 
      (.asg 4 (.clv 1 (.cons (.loc 3) .nil))) (.cons 
      (.ift (.v (.cmp .ne (.att 0 0 (.idx (.att 1 0 (.loc 3)) (.att 1 1 (.loc 3)))) (.str [101, 110, 100]))) (.cons 
      (.exp (.mth 1 20 (.loc 3) .nil)) .nil) .nil) (.cons 
      (.ret (.loc 4)) .nil)))))
def f_read_whole : FI := ⟨"read_whole", some "read_whole", none, top 73, ["text", "read", "most", "reader", "found"], ["text", "read", "most"], ⟨3, 5, b_read_whole⟩, false, none, [9]⟩
/-- read_sort -/
def b_read_sort : Sms :=
      (.cons 
      (.asg 1 (.cld 7 (.cons (.loc 0) (.cons (.lam 0 34) .nil)) [9])) (.cons 
      (.exp (.call 1 (.cons (.loc 1) .nil))) (.cons 
      (.ret (.loc 1)) .nil)))
def f_read_sort : FI := ⟨"read_sort", some "read_sort", none, top 74, ["text", "found"], ["text"], ⟨1, 2, b_read_sort⟩, false, (some 0), []⟩
/-- read_format -/
def b_read_format : Sms :=
      (.cons 
      (.asg 2 (.cld 7 (.cons (.loc 1) (.cons (.lam 1 35) .nil)) [9])) (.cons 
      (.exp (.call 0 (.cons (.loc 0) (.cons (.loc 2) .nil)))) (.cons 
      (.ret (.loc 2)) .nil)))
def f_read_format : FI := ⟨"read_format", some "read_format", none, top 75, ["sort", "text", "found"], ["sort", "text"], ⟨2, 3, b_read_format⟩, false, (some 1), []⟩
/-- _law_cell_at -/
def b__law_cell_at : Sms :=
      (.cons 
      (.ift (.v (.cmp .lt (.loc 1) (.bi .len (.cons (.loc 0) .nil)))) (.cons 
      (.ret (.idx (.loc 0) (.loc 1))) .nil) .nil) (.cons 
      (.ret (.int 0)) .nil))
def f__law_cell_at : FI := ⟨"_law_cell_at", some "_law_cell_at", none, top 77, ["script", "k"], ["script", "k"], ⟨2, 2, b__law_cell_at⟩, false, none, []⟩
/-- _law_draw -/
def b__law_draw : Sms :=
      (.cons 
      (.asg 3 (.tup (.cons (.int 1000003) (.cons (.int 1000033) (.cons (.int 1000037) (.cons (.int 1000039) (.cons (.int 1000081) (.cons (.int 1000099) (.cons (.int 1000117) (.cons (.int 1000121) (.cons (.int 1000133) (.cons (.int 1000151) (.cons (.int 1000159) (.cons (.int 1000171) (.cons (.int 1000183) (.cons (.int 1000187) (.cons (.int 1000193) (.cons (.int 1000199) .nil)))))))))))))))))) (.cons 
      (.ret (.op .mod (.op .mod (.bi .int (.cons (.op .add (.op .mul (.loc 0) (.int 48271)) (.op .mul (.loc 1) (.int 69621))) .nil)) (.idx (.loc 3) (.op .mod (.bi .int (.cons (.loc 1) .nil)) (.int 16)))) (.loc 2))) .nil))
def f__law_draw : FI := ⟨"_law_draw", some "_law_draw", none, top 78, ["cell", "k", "bound", "primes"], ["cell", "k", "bound"], ⟨3, 4, b__law_draw⟩, false, none, []⟩
/-- _law_number -/
def b__law_number : Sms :=
      (.cons 
      (.asg 3 (.int 1)) (.cons 
      (.for (.nm 4) (.rg1 (.op .mod (.bi .int (.cons (.loc 1) .nil)) (.int 24))) (.cons 
      (.asg 3 (.op .mul (.loc 3) (.int 1009))) .nil)) (.cons 
      (.asg 5 (.op .fdv (.op .sub (.loc 0) (.op .pow (.int 10) (.int 18))) (.loc 3))) (.cons 
      (.ift (.v (.cmp .gt (.loc 5) (.int 0))) (.cons 
      (.ret (.op .mod (.op .mod (.bi .int (.cons (.loc 5) .nil)) (.int 1009)) (.loc 2))) .nil) .nil) (.cons 
      (.asg 6 (.op .mod (.bi .int (.cons (.loc 0) .nil)) (.int 1000003))) (.cons 
      (.ret (.op .mod (.call 11 (.cons (.op .mul (.op .add (.loc 6) (.op .mul (.int 977) (.loc 1))) (.op .add (.op .add (.loc 6) (.op .mul (.int 31) (.loc 1))) (.int 5))) (.cons (.op .add (.op .mod (.bi .int (.cons (.loc 1) .nil)) (.int 9)) (.int 1)) (.cons (.int 999983) .nil)))) (.loc 2))) .nil))))))
def f__law_number : FI := ⟨"_law_number", some "_law_number", none, top 79, ["cell", "k", "bound", "power", "lap", "remains", "small"], ["cell", "k", "bound"], ⟨3, 7, b__law_number⟩, false, none, []⟩
/-- _law_next -/
def b__law_next : Sms :=
      (.cons 
      (.stc (.loc 0) (.int 2) (.op .add (.idx (.loc 0) (.int 2)) (.int 1))) (.cons 
      (.asg 2 (.op .fdv (.idx (.loc 0) (.int 2)) (.int 12))) (.cons 
      (.asg 3 (.op .add (.call 10 (.cons (.idx (.loc 0) (.int 0)) (.cons (.op .add (.idx (.loc 0) (.int 1)) (.loc 2)) .nil))) (.op .mul (.int 31) (.loc 2)))) (.cons 
      (.ret (.call 12 (.cons (.loc 3) (.cons (.op .add (.op .mod (.bi .int (.cons (.idx (.loc 0) (.int 2)) .nil)) (.int 12)) (.int 1)) (.cons (.loc 1) .nil))))) .nil))))
def f__law_next : FI := ⟨"_law_next", some "_law_next", none, top 80, ["draw", "bound", "at", "cell"], ["draw", "bound"], ⟨2, 4, b__law_next⟩, false, none, []⟩
/-- _law_pick -/
def b__law_pick : Sms :=
      (.cons 
      (.ret (.idx (.loc 1) (.call 13 (.cons (.loc 0) (.cons (.bi .len (.cons (.loc 1) .nil)) .nil))))) .nil)
def f__law_pick : FI := ⟨"_law_pick", some "_law_pick", none, top 81, ["draw", "things"], ["draw", "things"], ⟨2, 2, b__law_pick⟩, false, none, []⟩
/-- _law_place -/
def b__law_place : Sms :=
      (.cons 
      (.try (.cons 
      (.ift (.v (.cmp .eq (.loc 0) (.str [115, 111, 114, 116]))) (.cons 
      (.exp (.call 8 (.cons (.loc 1) .nil))) .nil) (.cons 
      (.exp (.call 9 (.cons (.tup (.cons (.str [105, 110, 116]) (.cons (.int 0) (.cons (.int 9) .nil)))) (.cons (.loc 1) .nil)))) .nil)) (.cons 
      (.ret .non) .nil)) 0 (some 2) (.cons 
      (.ret (.tup (.cons (.exf 2 0 1) (.cons (.exf 2 0 0) .nil)))) .nil)) .nil)
def f__law_place : FI := ⟨"_law_place", some "_law_place", none, top 82, ["kind", "text", "e"], ["kind", "text"], ⟨2, 3, b__law_place⟩, false, none, []⟩
/-- law -/
def b_law : Sms :=
      (.cons 
      (.cell 1 (.cons (.sli (.loc 0) .no (.so (.int 63))) (.cons (.int 0) (.cons (.int 0) .nil)))) (.cons 
      (.par 2 3 (.op .mul (.str [32]) (.call 13 (.cons (.loc 1) (.cons (.int 4) .nil)))) (.call 13 (.cons (.loc 1) (.cons (.int 3) .nil)))) (.cons 
      (.asg 4 (.op .add (.op .mul (.str [35, 32, 102, 105, 114, 115, 116, 10]) (.loc 3)) (.loc 2))) (.cons 
      (.asg 5 (.lst (.cons (.tup (.cons (.str []) (.cons (.int 1) .nil))) (.cons (.tup (.cons (.str [105, 110, 116]) (.cons (.int 4) .nil))) (.cons (.tup (.cons (.str [105, 110, 116, 32, 48]) (.cons (.int 6) .nil))) (.cons (.tup (.cons (.str [105, 110, 116, 32, 48, 32, 49]) (.cons (.int 7) .nil))) (.cons (.tup (.cons (.str [105, 110, 116, 32, 48, 46, 46, 46]) (.cons (.int 8) .nil))) (.cons (.tup (.cons (.str [105, 110, 116, 32, 48, 46, 46, 49, 32, 50]) (.cons (.int 10) .nil))) (.cons (.tup (.cons (.str [105, 110, 116, 32, 97, 46, 46, 49]) (.cons (.int 5) .nil))) (.cons (.tup (.cons (.str [105, 110, 116, 115, 32, 48, 46, 46, 49]) (.cons (.int 1) .nil))) (.cons (.tup (.cons (.str [73, 110, 116, 32, 48, 46, 46, 49]) (.cons (.int 1) .nil))) (.cons (.tup (.cons (.str [105, 110, 116, 32, 48, 49, 46, 46, 50]) (.cons (.int 5) .nil))) (.cons (.tup (.cons (.str [105, 110, 116, 32, 45, 48, 46, 46, 50]) (.cons (.int 5) .nil))) (.cons (.tup (.cons (.str [105, 110, 116, 32, 48, 46, 46, 49, 50, 51, 52, 53, 54, 55, 56, 57, 48]) (.cons (.int 8) .nil))) (.cons (.tup (.cons (.str [105, 110, 116, 32, 45, 32, 49, 46, 46, 50]) (.cons (.int 5) .nil))) .nil))))))))))))))) (.cons 
      (.asg 5 (.op .add (.loc 5) (.lst (.cons (.tup (.cons (.str [119, 111, 114, 100, 32, 97, 98, 32, 48, 46, 46, 49]) (.cons (.int 6) .nil))) (.cons (.tup (.cons (.str [119, 111, 114, 100, 32, 34, 97, 98, 32, 48, 46, 46, 49]) (.cons (.int 14) .nil))) (.cons (.tup (.cons (.str [119, 111, 114, 100, 32, 34, 97, 9, 34, 32, 48, 46, 46, 49]) (.cons (.int 8) .nil))) (.cons (.tup (.cons (.str [119, 111, 114, 100, 32, 34, 97, 98, 34, 32, 46, 46, 49]) (.cons (.int 11) .nil))) (.cons (.tup (.cons (.str [119, 111, 114, 100, 32, 34, 97, 98, 34, 32, 48]) (.cons (.int 12) .nil))) (.cons (.tup (.cons (.str [111, 110, 101]) (.cons (.int 4) .nil))) (.cons (.tup (.cons (.str [111, 110, 101, 32, 120]) (.cons (.int 5) .nil))) (.cons (.tup (.cons (.str [111, 110, 101, 32, 34, 120, 34]) (.cons (.int 5) .nil))) (.cons (.tup (.cons (.str [109, 97, 121, 98, 101]) (.cons (.int 6) .nil))) (.cons (.tup (.cons (.str [109, 97, 121, 98, 101, 32, 51]) (.cons (.int 7) .nil))) (.cons (.tup (.cons (.str [109, 97, 110, 121, 32, 48, 46, 46, 32]) (.cons (.int 10) .nil))) (.cons (.tup (.cons (.str [109, 97, 110, 121, 32, 105, 110, 116, 32, 48, 46, 46, 49]) (.cons (.int 6) .nil))) .nil))))))))))))))) (.cons 
      (.asg 5 (.op .add (.loc 5) (.lst (.cons (.tup (.cons (.str [114, 111, 119, 32, 111, 110, 101, 32, 49]) (.cons (.int 5) .nil))) (.cons (.tup (.cons (.str [114, 111, 119, 32, 40, 111, 110, 101, 32, 49]) (.cons (.int 11) .nil))) (.cons (.tup (.cons (.str [114, 111, 119, 32, 40, 111, 110, 101, 32, 49, 32, 111, 110, 101, 32, 50, 41]) (.cons (.int 12) .nil))) (.cons (.tup (.cons (.str [114, 111, 119, 32, 40, 111, 110, 101, 32, 49, 44, 41]) (.cons (.int 12) .nil))) (.cons (.tup (.cons (.str [114, 111, 119, 32, 40, 44, 111, 110, 101, 32, 49, 41]) (.cons (.int 6) .nil))) (.cons (.tup (.cons (.str [114, 111, 119, 32, 41]) (.cons (.int 5) .nil))) (.cons (.tup (.cons (.str [99, 97, 115, 101, 32, 40, 111, 110, 101, 32, 49, 41, 41]) (.cons (.int 13) .nil))) (.cons (.tup (.cons (.str [111, 110, 101, 32, 49, 32, 36]) (.cons (.int 7) .nil))) (.cons (.tup (.cons (.str [111, 110, 101, 32, 49, 59]) (.cons (.int 6) .nil))) (.cons (.tup (.cons (.str [111, 110, 101, 32, 49, 32, 39, 120, 39]) (.cons (.int 7) .nil))) (.cons (.tup (.cons (.str [111, 110, 101, 32, 49, 32, 34]) (.cons (.int 8) .nil))) (.cons (.tup (.cons (.str [41]) (.cons (.int 1) .nil))) (.cons (.tup (.cons (.str [51]) (.cons (.int 1) .nil))) (.cons (.tup (.cons (.str [34, 105, 110, 116, 34]) (.cons (.int 1) .nil))) (.cons (.tup (.cons (.str [111, 110, 101, 32, 49, 32, 46, 32]) (.cons (.int 7) .nil))) .nil)))))))))))))))))) (.cons 
      (.ast (.tp (.cons (.nm 6) (.cons (.nm 7) .nil))) (.call 14 (.cons (.loc 1) (.cons (.loc 5) .nil)))) (.cons 
      (.ift (.v (.cmp .ne (.cfr 15 (.cons (.str [115, 111, 114, 116]) (.cons (.op .add (.loc 4) (.loc 6)) .nil))) (.tup (.cons (.op .add (.loc 3) (.int 1)) (.cons (.op .add (.bi .len (.cons (.loc 2) .nil)) (.loc 7)) .nil))))) (.cons 
      (.ret (.bl false)) .nil) .nil) (.cons 
      (.asg 8 (.lst (.cons (.tup (.cons (.str []) (.cons (.int 1) .nil))) (.cons (.tup (.cons (.str [102, 105, 103, 117, 114, 101, 115]) (.cons (.int 8) .nil))) (.cons (.tup (.cons (.str [102, 105, 103, 117, 114, 101, 115, 32, 49, 48]) (.cons (.int 11) .nil))) (.cons (.tup (.cons (.str [102, 105, 103, 117, 114, 101, 115, 32, 34, 45, 34, 32, 49, 48]) (.cons (.int 9) .nil))) (.cons (.tup (.cons (.str [102, 105, 103, 117, 114, 101, 115, 32, 49, 48, 32, 34, 45, 34, 32, 108, 101, 97, 115, 116]) (.cons (.int 21) .nil))) (.cons (.tup (.cons (.str [102, 105, 103, 117, 114, 101, 115, 32, 49, 48, 32, 34, 45, 34, 32, 108, 101, 97, 115, 116, 32, 34, 50, 34]) (.cons (.int 22) .nil))) (.cons (.tup (.cons (.str [102, 105, 103, 117, 114, 101, 115, 32, 49, 48, 32, 34, 45, 34, 32, 97, 104, 101, 97, 100, 32, 34, 120, 34, 32, 108, 101, 97, 115, 116, 32, 50]) (.cons (.int 26) .nil))) (.cons (.tup (.cons (.str [102, 105, 103, 117, 114, 101, 115, 32, 49, 48, 32, 34, 45, 34, 32, 103, 114, 111, 117, 112, 32, 51]) (.cons (.int 23) .nil))) (.cons (.tup (.cons (.str [102, 105, 103, 117, 114, 101, 115, 32, 49, 48, 32, 34, 45, 34, 32, 103, 114, 111, 117, 112, 115, 32, 51, 32, 34, 44, 34]) (.cons (.int 16) .nil))) (.cons (.tup (.cons (.str [112, 111, 119, 101, 114, 115, 32, 49, 48, 32, 49, 48]) (.cons (.int 11) .nil))) .nil)))))))))))) (.cons 
      (.asg 8 (.op .add (.loc 8) (.lst (.cons (.tup (.cons (.str [112, 97, 100, 32, 51, 32, 34, 48, 34, 32, 62, 32, 112, 108, 97, 105, 110]) (.cons (.int 11) .nil))) (.cons (.tup (.cons (.str [112, 97, 100, 32, 34, 48, 34, 32, 51, 32, 34, 62, 34, 32, 112, 108, 97, 105, 110]) (.cons (.int 5) .nil))) (.cons (.tup (.cons (.str [112, 97, 100, 32, 51, 32, 34, 48, 34, 32, 34, 62, 34]) (.cons (.int 14) .nil))) (.cons (.tup (.cons (.str [99, 117, 116, 32, 112, 108, 97, 105, 110]) (.cons (.int 5) .nil))) (.cons (.tup (.cons (.str [115, 107, 105, 112, 32, 115, 107, 105, 112]) (.cons (.int 6) .nil))) (.cons (.tup (.cons (.str [112, 108, 97, 105, 110, 32, 51]) (.cons (.int 7) .nil))) (.cons (.tup (.cons (.str [110, 97, 109, 101, 115, 32, 34, 97, 34]) (.cons (.int 7) .nil))) (.cons (.tup (.cons (.str [110, 97, 109, 101, 115, 32, 40, 34, 97, 34, 32, 34, 98, 34, 41]) (.cons (.int 12) .nil))) (.cons (.tup (.cons (.str [110, 97, 109, 101, 115, 32, 40, 97, 41]) (.cons (.int 8) .nil))) (.cons (.tup (.cons (.str [115, 112, 101, 108, 108, 101, 100, 32, 40, 34, 97, 34, 41]) (.cons (.int 13) .nil))) (.cons (.tup (.cons (.str [113, 117, 111, 116, 101, 100, 32, 34, 39, 34]) (.cons (.int 11) .nil))) (.cons (.tup (.cons (.str [109, 97, 121, 98, 101, 32, 112, 108, 97, 105, 110]) (.cons (.int 7) .nil))) (.cons (.tup (.cons (.str [109, 97, 110, 121, 32, 34, 34, 32, 34, 34, 32, 34, 34, 32, 112, 108, 97, 105, 110]) (.cons (.int 15) .nil))) (.cons (.tup (.cons (.str [99, 97, 115, 101, 32, 40, 51, 41]) (.cons (.int 7) .nil))) .nil))))))))))))))))) (.cons 
      (.asg 8 (.op .add (.loc 8) (.lst (.cons (.tup (.cons (.str [114, 111, 119, 32, 40, 51, 41]) (.cons (.int 6) .nil))) (.cons (.tup (.cons (.str [114, 111, 119, 32, 40, 34, 97, 34, 44, 32, 41]) (.cons (.int 11) .nil))) (.cons (.tup (.cons (.str [112, 108, 97, 105, 110, 115]) (.cons (.int 1) .nil))) (.cons (.tup (.cons (.str [102, 105, 103, 117, 114, 101, 115, 32, 49, 48, 32, 34, 45, 34, 32, 108, 101, 97, 115, 116, 32, 50, 32, 108, 101, 97, 115, 116, 32, 51]) (.cons (.int 24) .nil))) (.cons (.tup (.cons (.str [35, 32, 112, 108, 97, 105, 110]) (.cons (.int 1) .nil))) (.cons (.tup (.cons (.str [110, 97, 109, 101, 115, 32, 40, 34, 92, 120, 34, 41]) (.cons (.int 10) .nil))) (.cons (.tup (.cons (.str [112, 108, 97, 105, 110, 32, 34, 97, 92]) (.cons (.int 10) .nil))) (.cons (.tup (.cons (.str [112, 108, 97, 105, 110, 32, 34, 97, 92, 34]) (.cons (.int 11) .nil))) .nil))))))))))) (.cons 
      (.ast (.tp (.cons (.nm 6) (.cons (.nm 7) .nil))) (.call 14 (.cons (.loc 1) (.cons (.loc 8) .nil)))) (.cons 
      (.ift (.v (.cmp .eq (.sli (.loc 6) .no (.so (.int 1))) (.str [35]))) (.cons 
      (.asg 7 (.op .add (.bi .len (.cons (.loc 6) .nil)) (.int 1))) .nil) .nil) (.cons 
      (.ift (.v (.cmp .ne (.cfr 15 (.cons (.str [102, 111, 114, 109, 97, 116]) (.cons (.op .add (.loc 4) (.loc 6)) .nil))) (.tup (.cons (.op .add (.loc 3) (.int 1)) (.cons (.op .add (.bi .len (.cons (.loc 2) .nil)) (.loc 7)) .nil))))) (.cons 
      (.ret (.bl false)) .nil) .nil) (.cons 
      (.ret (.and (.cmp .eq (.cfr 15 (.cons (.str [115, 111, 114, 116]) (.cons .non .nil))) (.tup (.cons (.int 0) (.cons (.int 0) .nil)))) (.and (.cmp .eq (.cfr 15 (.cons (.str [102, 111, 114, 109, 97, 116]) (.cons (.int 3) .nil))) (.tup (.cons (.int 0) (.cons (.int 0) .nil)))) (.and (.cmp .eq (.cfr 15 (.cons (.str [115, 111, 114, 116]) (.cons (.str [111, 110, 101, 32, 49, 10, 10, 32, 120]) .nil))) (.tup (.cons (.int 3) (.cons (.int 2) .nil)))) (.and (.cmp .eq (.cfr 15 (.cons (.str [115, 111, 114, 116]) (.cons (.str [114, 111, 119, 32, 40, 10, 111, 110, 101, 32, 49, 10]) .nil))) (.tup (.cons (.int 3) (.cons (.int 1) .nil)))) (.cmp .eq (.cfr 15 (.cons (.str [115, 111, 114, 116]) (.cons (.str [126, 32, 111, 110, 101]) .nil))) (.tup (.cons (.int 1) (.cons (.int 1) .nil))))))))) .nil)))))))))))))))
def f_law : FI := ⟨"law", some "law", none, top 83, ["script", "draw", "gap", "lines", "ahead", "wrong", "text", "column", "forms"], ["script"], ⟨1, 9, b_law⟩, false, none, []⟩
/-- Piece.__init__ -/
def b_Piece_init : Sms :=
      (.cons 
      (.sat 0 0 (.loc 0) (.loc 1)) (.cons 
      (.sat 0 1 (.loc 0) (.loc 2)) (.cons 
      (.sat 0 2 (.loc 0) (.loc 3)) (.cons 
      (.sat 0 3 (.loc 0) (.loc 4)) .nil))))
def f_Piece_init : FI := ⟨"Piece.__init__", none, some (0, "__init__"), inn 66 0, ["self", "kind", "thing", "line", "column"], ["self", "kind", "thing", "line", "column"], ⟨5, 5, b_Piece_init⟩, false, none, []⟩
/-- SourceReader.__init__ -/
def b_SourceReader_init : Sms :=
      (.cons 
      (.sat 1 0 (.loc 0) (.call 6 (.cons (.loc 1) (.cons (.loc 2) .nil)))) (.cons 
      (.sat 1 1 (.loc 0) (.int 0)) .nil))
def f_SourceReader_init : FI := ⟨"SourceReader.__init__", none, some (1, "__init__"), inn 72 0, ["self", "text", "most"], ["self", "text", "most"], ⟨3, 3, b_SourceReader_init⟩, false, none, [9]⟩
/-- SourceReader.is_next -/
def b_SourceReader_is_next : Sms :=
      (.cons 
      (.ret (.and (.cmp .eq (.att 0 0 (.idx (.att 1 0 (.loc 0)) (.att 1 1 (.loc 0)))) (.loc 1)) (.cmp .eq (.att 0 1 (.idx (.att 1 0 (.loc 0)) (.att 1 1 (.loc 0)))) (.loc 2)))) .nil)
def f_SourceReader_is_next : FI := ⟨"SourceReader.is_next", none, some (1, "is_next"), inn 72 1, ["self", "kind", "thing"], ["self", "kind", "thing"], ⟨3, 3, b_SourceReader_is_next⟩, false, none, []⟩
/-- SourceReader.wrong -/
def b_SourceReader_wrong : Sms :=
      (.cons 
      (.rai 0 [true, true] (.cons (.att 0 2 (.idx (.att 1 0 (.loc 0)) (.att 1 1 (.loc 0)))) (.cons (.att 0 3 (.idx (.att 1 0 (.loc 0)) (.att 1 1 (.loc 0)))) .nil))) .nil)
def f_SourceReader_wrong : FI := ⟨"SourceReader.wrong", none, some (1, "wrong"), inn 72 2, ["self"], ["self"], ⟨1, 1, b_SourceReader_wrong⟩, false, none, []⟩
/-- SourceReader.take -/
def b_SourceReader_take : Sms :=
      (.cons 
      (.ift (.v (.cmp .ne (.att 0 0 (.idx (.att 1 0 (.loc 0)) (.att 1 1 (.loc 0)))) (.loc 1))) (.cons 
      (.exp (.mth 1 20 (.loc 0) .nil)) .nil) .nil) (.cons 
      (.aat 1 1 (.loc 0) .add (.int 1)) (.cons 
      (.ret (.att 0 1 (.idx (.att 1 0 (.loc 0)) (.op .sub (.att 1 1 (.loc 0)) (.int 1))))) .nil)))
def f_SourceReader_take : FI := ⟨"SourceReader.take", none, some (1, "take"), inn 72 3, ["self", "kind"], ["self", "kind"], ⟨2, 2, b_SourceReader_take⟩, false, none, []⟩
/-- SourceReader.taken -/
def b_SourceReader_taken : Sms :=
      (.cons 
      (.ift (.nt (.v (.mth 1 19 (.loc 0) (.cons (.loc 1) (.cons (.loc 2) .nil))))) (.cons 
      (.ret (.bl false)) .nil) .nil) (.cons 
      (.aat 1 1 (.loc 0) .add (.int 1)) (.cons 
      (.ret (.bl true)) .nil)))
def f_SourceReader_taken : FI := ⟨"SourceReader.taken", none, some (1, "taken"), inn 72 4, ["self", "kind", "thing"], ["self", "kind", "thing"], ⟨3, 3, b_SourceReader_taken⟩, false, none, []⟩
/-- SourceReader.want -/
def b_SourceReader_want : Sms :=
      (.cons 
      (.ift (.nt (.v (.mth 1 22 (.loc 0) (.cons (.loc 1) (.cons (.loc 2) .nil))))) (.cons 
      (.exp (.mth 1 20 (.loc 0) .nil)) .nil) .nil) .nil)
def f_SourceReader_want : FI := ⟨"SourceReader.want", none, some (1, "want"), inn 72 5, ["self", "kind", "thing"], ["self", "kind", "thing"], ⟨3, 3, b_SourceReader_want⟩, false, none, []⟩
/-- SourceReader.rows -/
def b_SourceReader_rows : Sms :=
      (.cons 
      (.exp (.mth 1 23 (.loc 0) (.cons (.str [109, 97, 114, 107]) (.cons (.str [40]) .nil)))) (.cons 
      (.own 2 .nil) (.cons 
      (.whl (.nt (.v (.mth 1 22 (.loc 0) (.cons (.str [109, 97, 114, 107]) (.cons (.str [41]) .nil))))) (.cons 
      (.ift (.v (.oem true 2)) (.cons 
      (.exp (.mth 1 23 (.loc 0) (.cons (.str [109, 97, 114, 107]) (.cons (.str [44]) .nil)))) .nil) .nil) (.cons 
      (.app 2 (.clv 1 .nil)) .nil))) (.cons 
      (.ret (.bi .tuple (.cons (.loc 2) .nil))) .nil))))
def f_SourceReader_rows : FI := ⟨"SourceReader.rows", none, some (1, "rows"), inn 72 6, ["self", "read", "found"], ["self", "read"], ⟨2, 3, b_SourceReader_rows⟩, false, none, []⟩
/-- SourceReader.span -/
def b_SourceReader_span : Sms :=
      (.cons 
      (.asg 1 (.ife (.v (.cmp .eq (.att 0 0 (.idx (.att 1 0 (.loc 0)) (.att 1 1 (.loc 0)))) (.str [110, 117, 109, 98, 101, 114]))) (.mth 1 21 (.loc 0) (.cons (.str [110, 117, 109, 98, 101, 114]) .nil)) .non)) (.cons 
      (.exp (.mth 1 23 (.loc 0) (.cons (.str [109, 97, 114, 107]) (.cons (.str [46, 46]) .nil)))) (.cons 
      (.ret (.tup (.cons (.loc 1) (.cons (.ife (.v (.cmp .eq (.att 0 0 (.idx (.att 1 0 (.loc 0)) (.att 1 1 (.loc 0)))) (.str [110, 117, 109, 98, 101, 114]))) (.mth 1 21 (.loc 0) (.cons (.str [110, 117, 109, 98, 101, 114]) .nil)) .non) .nil)))) .nil)))
def f_SourceReader_span : FI := ⟨"SourceReader.span", none, some (1, "span"), inn 72 7, ["self", "low"], ["self"], ⟨1, 2, b_SourceReader_span⟩, false, none, []⟩
/-- SourceReader.sizes -/
def b_SourceReader_sizes : Sms :=
      (.cons 
      (.asg 1 (.mth 1 21 (.loc 0) (.cons (.str [110, 117, 109, 98, 101, 114]) .nil))) (.cons 
      (.exp (.mth 1 23 (.loc 0) (.cons (.str [109, 97, 114, 107]) (.cons (.str [46, 46]) .nil)))) (.cons 
      (.ret (.tup (.cons (.loc 1) (.cons (.ife (.v (.cmp .eq (.att 0 0 (.idx (.att 1 0 (.loc 0)) (.att 1 1 (.loc 0)))) (.str [110, 117, 109, 98, 101, 114]))) (.mth 1 21 (.loc 0) (.cons (.str [110, 117, 109, 98, 101, 114]) .nil)) .non) .nil)))) .nil)))
def f_SourceReader_sizes : FI := ⟨"SourceReader.sizes", none, some (1, "sizes"), inn 72 8, ["self", "low"], ["self"], ⟨1, 2, b_SourceReader_sizes⟩, false, none, []⟩
/-- SourceReader.next_sort -/
def b_SourceReader_next_sort : Sms :=
      (.cons 
      (.asg 1 (.att 1 1 (.loc 0))) (.cons 
      (.asg 2 (.mth 1 21 (.loc 0) (.cons (.str [119, 111, 114, 100]) .nil))) (.cons 
      (.mat (.loc 2) (.cons [[105, 110, 116]] (.cons 
      (.ast (.tp (.cons (.nm 3) (.cons (.nm 4) .nil))) (.mth 1 25 (.loc 0) .nil)) (.cons 
      (.ret (.tup (.cons (.loc 2) (.cons (.loc 3) (.cons (.loc 4) .nil))))) .nil)) (.cons [[119, 111, 114, 100]] (.cons 
      (.asg 5 (.mth 1 21 (.loc 0) (.cons (.str [116, 101, 120, 116]) .nil))) (.cons 
      (.ast (.tp (.cons (.nm 6) (.cons (.nm 7) .nil))) (.mth 1 26 (.loc 0) .nil)) (.cons 
      (.ret (.tup (.cons (.loc 2) (.cons (.loc 5) (.cons (.loc 6) (.cons (.loc 7) .nil)))))) .nil))) (.cons [[111, 110, 101]] (.cons 
      (.ret (.tup (.cons (.loc 2) (.cons (.mth 1 21 (.loc 0) (.cons (.str [110, 117, 109, 98, 101, 114]) .nil)) .nil)))) .nil) (.cons [[109, 97, 121, 98, 101]] (.cons 
      (.ret (.tup (.cons (.loc 2) (.cons (.mth 1 27 (.loc 0) .nil) .nil)))) .nil) (.cons [[109, 97, 110, 121]] (.cons 
      (.ast (.tp (.cons (.nm 6) (.cons (.nm 7) .nil))) (.mth 1 26 (.loc 0) .nil)) (.cons 
      (.ret (.tup (.cons (.loc 2) (.cons (.mth 1 27 (.loc 0) .nil) (.cons (.loc 6) (.cons (.loc 7) .nil)))))) .nil)) (.cons [[114, 111, 119], [99, 97, 115, 101]] (.cons 
      (.ret (.tup (.cons (.loc 2) (.cons (.mth 1 24 (.loc 0) (.cons (.bmt 1 27 (.loc 0)) .nil)) .nil)))) .nil) .nil))))))) (.cons 
      (.sat 1 1 (.loc 0) (.loc 1)) (.cons 
      (.ret (.mth 1 20 (.loc 0) .nil)) .nil)))))
def f_SourceReader_next_sort : FI := ⟨"SourceReader.next_sort", none, some (1, "next_sort"), inn 72 9, ["self", "start", "word", "low", "high", "signs", "least", "most"], ["self"], ⟨1, 8, b_SourceReader_next_sort⟩, false, none, []⟩
/-- SourceReader.next_form -/
def b_SourceReader_next_form : Sms :=
      (.cons 
      (.asg 1 (.att 1 1 (.loc 0))) (.cons 
      (.asg 2 (.mth 1 21 (.loc 0) (.cons (.str [119, 111, 114, 100]) .nil))) (.cons 
      (.mat (.loc 2) (.cons [[102, 105, 103, 117, 114, 101, 115], [112, 111, 119, 101, 114, 115]] (.cons 
      (.ret (.mth 1 33 (.loc 0) (.cons (.loc 2) .nil))) .nil) (.cons [[112, 108, 97, 105, 110], [115, 107, 105, 112]] (.cons 
      (.ret (.tup (.cons (.loc 2) .nil))) .nil) (.cons [[115, 112, 101, 108, 108, 101, 100]] (.cons 
      (.ret (.tup (.cons (.loc 2) (.cons (.mth 1 24 (.loc 0) (.cons (.bmt 1 30 (.loc 0)) .nil)) .nil)))) .nil) (.cons [[113, 117, 111, 116, 101, 100]] (.cons 
      (.ret (.tup (.cons (.loc 2) (.cons (.mth 1 21 (.loc 0) (.cons (.str [116, 101, 120, 116]) .nil)) (.cons (.mth 1 21 (.loc 0) (.cons (.str [116, 101, 120, 116]) .nil)) .nil))))) .nil) (.cons [[110, 97, 109, 101, 115]] (.cons 
      (.ret (.tup (.cons (.loc 2) (.cons (.mth 1 24 (.loc 0) (.cons (.bmt 1 29 (.loc 0)) .nil)) .nil)))) .nil) (.cons [[109, 97, 121, 98, 101]] (.cons 
      (.ret (.tup (.cons (.loc 2) (.cons (.mth 1 21 (.loc 0) (.cons (.str [116, 101, 120, 116]) .nil)) (.cons (.mth 1 28 (.loc 0) .nil) .nil))))) .nil) (.cons [[109, 97, 110, 121]] (.cons 
      (.asl 3 [4] (.mth 1 21 (.loc 0) (.cons (.str [116, 101, 120, 116]) .nil)) (.nm 4) (.rg1 (.int 4)) .nil) (.cons 
      (.ret (.tst [false, true, false] (.cons (.loc 2) (.cons (.loc 3) (.cons (.mth 1 28 (.loc 0) .nil) .nil))))) .nil)) (.cons [[99, 97, 115, 101]] (.cons 
      (.ret (.tup (.cons (.loc 2) (.cons (.mth 1 24 (.loc 0) (.cons (.bmt 1 28 (.loc 0)) .nil)) .nil)))) .nil) (.cons [[112, 97, 100]] (.cons 
      (.ret (.tup (.cons (.loc 2) (.cons (.mth 1 21 (.loc 0) (.cons (.str [110, 117, 109, 98, 101, 114]) .nil)) (.cons (.mth 1 21 (.loc 0) (.cons (.str [116, 101, 120, 116]) .nil)) (.cons (.mth 1 21 (.loc 0) (.cons (.str [116, 101, 120, 116]) .nil)) (.cons (.mth 1 28 (.loc 0) .nil) .nil))))))) .nil) (.cons [[99, 117, 116]] (.cons 
      (.ret (.tup (.cons (.loc 2) (.cons (.mth 1 21 (.loc 0) (.cons (.str [110, 117, 109, 98, 101, 114]) .nil)) (.cons (.mth 1 28 (.loc 0) .nil) .nil))))) .nil) (.cons [[99, 104, 101, 99, 107, 101, 100]] (.cons 
      (.ret (.tup (.cons (.loc 2) (.cons (.mth 1 21 (.loc 0) (.cons (.str [110, 117, 109, 98, 101, 114]) .nil)) (.cons (.mth 1 21 (.loc 0) (.cons (.str [110, 117, 109, 98, 101, 114]) .nil)) (.cons (.mth 1 28 (.loc 0) .nil) .nil)))))) .nil) (.cons [[114, 111, 119]] (.cons 
      (.ret (.tup (.cons (.loc 2) (.cons (.mth 1 32 (.loc 0) (.cons (.mth 1 24 (.loc 0) (.cons (.bmt 1 31 (.loc 0)) .nil)) .nil)) .nil)))) .nil) .nil))))))))))))) (.cons 
      (.sat 1 1 (.loc 0) (.loc 1)) (.cons 
      (.ret (.mth 1 20 (.loc 0) .nil)) .nil)))))
def f_SourceReader_next_form : FI := ⟨"SourceReader.next_form", none, some (1, "next_form"), inn 72 10, ["self", "start", "word", "texts", "turn"], ["self"], ⟨1, 5, b_SourceReader_next_form⟩, false, none, []⟩
/-- SourceReader.text -/
def b_SourceReader_text : Sms :=
      (.cons 
      (.ret (.mth 1 21 (.loc 0) (.cons (.str [116, 101, 120, 116]) .nil))) .nil)
def f_SourceReader_text : FI := ⟨"SourceReader.text", none, some (1, "text"), inn 72 11, ["self"], ["self"], ⟨1, 1, b_SourceReader_text⟩, false, none, []⟩
/-- SourceReader.pair -/
def b_SourceReader_pair : Sms :=
      (.cons 
      (.ret (.tup (.cons (.mth 1 21 (.loc 0) (.cons (.str [116, 101, 120, 116]) .nil)) (.cons (.mth 1 21 (.loc 0) (.cons (.str [116, 101, 120, 116]) .nil)) .nil)))) .nil)
def f_SourceReader_pair : FI := ⟨"SourceReader.pair", none, some (1, "pair"), inn 72 12, ["self"], ["self"], ⟨1, 1, b_SourceReader_pair⟩, false, none, []⟩
/-- SourceReader.part -/
def b_SourceReader_part : Sms :=
      (.cons 
      (.ret (.ife (.v (.cmp .eq (.att 0 0 (.idx (.att 1 0 (.loc 0)) (.att 1 1 (.loc 0)))) (.str [116, 101, 120, 116]))) (.mth 1 21 (.loc 0) (.cons (.str [116, 101, 120, 116]) .nil)) (.mth 1 28 (.loc 0) .nil))) .nil)
def f_SourceReader_part : FI := ⟨"SourceReader.part", none, some (1, "part"), inn 72 13, ["self"], ["self"], ⟨1, 1, b_SourceReader_part⟩, false, none, []⟩
/-- SourceReader.numbered -/
def b_SourceReader_numbered : Sms :=
      (.cons 
      (.pow 2 3 0) (.cons 
      (.for (.nm 4) (.val (.loc 1)) (.cons 
      (.ift (.v (.isi .str (.loc 4))) (.cons 
      (.app 2 (.loc 4)) .nil) (.cons 
      (.app 2 (.tup (.cons (.loc 3) (.cons (.loc 4) .nil)))) (.cons 
      (.aug 3 .add (.int 1)) .nil))) .nil)) (.cons 
      (.ret (.bi .tuple (.cons (.loc 2) .nil))) .nil)))
def f_SourceReader_numbered : FI := ⟨"SourceReader.numbered", none, some (1, "numbered"), inn 72 14, ["self", "parts", "found", "number", "part"], ["self", "parts"], ⟨2, 5, b_SourceReader_numbered⟩, false, none, []⟩
/-- SourceReader.numbers -/
def b_SourceReader_numbers : Sms :=
      (.cons 
      (.par 2 3 (.mth 1 21 (.loc 0) (.cons (.str [110, 117, 109, 98, 101, 114]) .nil)) (.mth 1 21 (.loc 0) (.cons (.str [116, 101, 120, 116]) .nil))) (.cons 
      (.ift (.v (.cmp .eq (.loc 1) (.str [112, 111, 119, 101, 114, 115]))) (.cons 
      (.ret (.tup (.cons (.loc 1) (.cons (.loc 2) (.cons (.loc 3) .nil))))) .nil) .nil) (.cons 
      (.asg 4 (.ife (.v (.mth 1 22 (.loc 0) (.cons (.str [119, 111, 114, 100]) (.cons (.str [108, 101, 97, 115, 116]) .nil)))) (.mth 1 21 (.loc 0) (.cons (.str [110, 117, 109, 98, 101, 114]) .nil)) (.int 1))) (.cons 
      (.ast (.tp (.cons (.nm 5) (.cons (.nm 6) (.cons (.nm 7) .nil)))) (.tup (.cons (.int 0) (.cons (.str []) (.cons (.str []) .nil))))) (.cons 
      (.ift (.v (.mth 1 22 (.loc 0) (.cons (.str [119, 111, 114, 100]) (.cons (.str [103, 114, 111, 117, 112]) .nil)))) (.cons 
      (.par 5 6 (.mth 1 21 (.loc 0) (.cons (.str [110, 117, 109, 98, 101, 114]) .nil)) (.mth 1 21 (.loc 0) (.cons (.str [116, 101, 120, 116]) .nil))) .nil) .nil) (.cons 
      (.ift (.v (.mth 1 22 (.loc 0) (.cons (.str [119, 111, 114, 100]) (.cons (.str [97, 104, 101, 97, 100]) .nil)))) (.cons 
      (.asg 7 (.mth 1 21 (.loc 0) (.cons (.str [116, 101, 120, 116]) .nil))) .nil) .nil) (.cons 
      (.ret (.tup (.cons (.loc 1) (.cons (.loc 2) (.cons (.loc 3) (.cons (.loc 4) (.cons (.loc 5) (.cons (.loc 6) (.cons (.loc 7) .nil))))))))) .nil)))))))
def f_SourceReader_numbers : FI := ⟨"SourceReader.numbers", none, some (1, "numbers"), inn 72 15, ["self", "word", "base", "how", "least", "group", "mark", "ahead"], ["self", "word"], ⟨2, 8, b_SourceReader_numbers⟩, false, none, []⟩
/-- lambda 0, in read_sort -/
def b_lam0 : Sms :=
      (.cons 
      (.ret (.mth 1 27 (.loc 0) .nil)) .nil)
def f_lam0 : FI := ⟨"read_sort.<locals>.<lambda>", none, none, top 0, ["reader"], ["reader"], ⟨1, 1, b_lam0⟩, true, none, []⟩
/-- lambda 1, in read_format -/
def b_lam1 : Sms :=
      (.cons 
      (.ret (.mth 1 28 (.loc 0) .nil)) .nil)
def f_lam1 : FI := ⟨"read_format.<locals>.<lambda>", none, none, top 0, ["reader"], ["reader"], ⟨1, 1, b_lam1⟩, true, none, []⟩
def fis : List FI := [f_check_format, f_check_sort, f_end_of, f_quoted_at, f_number_at, f_piece_at, f_pieces_of, f_read_whole, f_read_sort, f_read_format, f__law_cell_at, f__law_draw, f__law_number, f__law_next, f__law_pick, f__law_place, f_law, f_Piece_init, f_SourceReader_init, f_SourceReader_is_next, f_SourceReader_wrong, f_SourceReader_take, f_SourceReader_taken, f_SourceReader_want, f_SourceReader_rows, f_SourceReader_span, f_SourceReader_sizes, f_SourceReader_next_sort, f_SourceReader_next_form, f_SourceReader_text, f_SourceReader_pair, f_SourceReader_part, f_SourceReader_numbered, f_SourceReader_numbers, f_lam0, f_lam1]
/-- the tables -/
def tx : Tx := ⟨gn, ["Piece", "SourceReader"], [["kind", "thing", "line", "column"], ["pieces", "at"]], [("BadSource", [true, true])], [["column", "line"]], [], [0], [], [28, 27, 30, 31, 29]⟩
def sup0 : Exs := (.cons (.op .add (.op .add (.op .add (.str [108, 105, 110, 101, 32]) (.bi .str (.cons (.loc 1) .nil))) (.str [44, 32, 99, 111, 108, 117, 109, 110, 32])) (.bi .str (.cons (.loc 2) .nil))) .nil)
theorem chk_all : fis.all (FI.chk tx fis) = true := by decide +kernel
theorem chkH_all : chkHs tx fis = true := by decide +kernel
theorem sc_all : ∀ I ∈ fis, I.lam = false → FnScope I.N I.ps (defScope I.st) := by
  intro I h hl
  simp only [fis, List.mem_cons, List.not_mem_nil, or_false] at h
  rcases h with rfl | rfl | rfl | rfl | rfl | rfl | rfl | rfl | rfl | rfl | rfl | rfl | rfl | rfl | rfl | rfl | rfl | rfl | rfl | rfl | rfl | rfl | rfl | rfl | rfl | rfl | rfl | rfl | rfl | rfl | rfl | rfl | rfl | rfl | rfl | rfl
  all_goals first
    | (cases hl; done)
    | exact ⟨rfl, rfl, rfl, by decide +kernel, rfl, by decide +kernel, by decide +kernel⟩
end RA

/-! Steps of the interpreter, one lemma for each construct: the results as equations. -/
namespace RA.St
open PySem

section
variable {G : List PV} {cf : Nat → List PV → List PV → CR} {s s1 s2 s3 : List Sl} {m m1 m2 m3 : List PV}
theorem e_non : ev G cf .non s m = .ok .non s m := rfl
theorem e_bl {b : Bool} : ev G cf (.bl b) s m = .ok (.bl b) s m := rfl
theorem e_int {i : Int} : ev G cf (.int i) s m = .ok (.int i) s m := rfl
theorem e_str {x : List Nat} : ev G cf (.str x) s m = .ok (.str x) s m := rfl
theorem e_loc {i : Nat} {p : PV} (h : s[i]? = some (.va p)) : ev G cf (.loc i) s m = .ok p s m := by show getS s i m = _; unfold getS; rw [h]
theorem e_loo {i : Nat} {p : PV} (h : s[i]? = some (.ow p)) : ev G cf (.loc i) s m = .ok p (s.set i (.va p)) m := by show getS s i m = _; unfold getS; rw [h]
theorem e_glo {g : Nat} {p : PV} (h : G[g]? = some p) : ev G cf (.glo g) s m = .ok p s m := by show lift G[g]? s m = _; rw [h]; rfl
theorem e_tup {es : Exs} {l : List PV} (h : evs G cf es s m = .ok l s1 m1) : ev G cf (.tup es) s m = .ok (.tup l) s1 m1 := by show (evs G cf es s m).bnd _ = _; rw [h]; rfl
theorem e_lst {es : Exs} {l : List PV} (h : evs G cf es s m = .ok l s1 m1) : ev G cf (.lst es) s m = .ok (.lst l) s1 m1 := by show (evs G cf es s m).bnd _ = _; rw [h]; rfl
theorem e_op {o : O2} {a b : Ex} {x y z : PV} (ha : ev G cf a s m = .ok x s1 m1) (hb : ev G cf b s1 m1 = .ok y s2 m2) (hz : op2 o x y = some z) : ev G cf (.op o a b) s m = .ok z s2 m2 := by
  show (ev G cf a s m).bnd _ = _; rw [ha]; show (ev G cf b s1 m1).bnd _ = _; rw [hb]; show lift (op2 o x y) s2 m2 = _; rw [hz]; rfl
theorem e_neg {a : Ex} {i : Int} (ha : ev G cf a s m = .ok (.int i) s1 m1) : ev G cf (.neg a) s m = .ok (.int (-i)) s1 m1 := by show (ev G cf a s m).bnd _ = _; rw [ha]; rfl
theorem e_and {a b : Ex} {y : PV} (ha : ev G cf a s m = .ok (.bl true) s1 m1) (hb : ev G cf b s1 m1 = .ok y s2 m2) : ev G cf (.and a b) s m = .ok y s2 m2 := by show (ev G cf a s m).bnd _ = _; rw [ha]; exact hb
theorem e_anf {a b : Ex} (ha : ev G cf a s m = .ok (.bl false) s1 m1) : ev G cf (.and a b) s m = .ok (.bl false) s1 m1 := by show (ev G cf a s m).bnd _ = _; rw [ha]; rfl
theorem e_or {a b : Ex} {y : PV} (ha : ev G cf a s m = .ok (.bl false) s1 m1) (hb : ev G cf b s1 m1 = .ok y s2 m2) : ev G cf (.or a b) s m = .ok y s2 m2 := by show (ev G cf a s m).bnd _ = _; rw [ha]; exact hb
theorem e_ort {a b : Ex} (ha : ev G cf a s m = .ok (.bl true) s1 m1) : ev G cf (.or a b) s m = .ok (.bl true) s1 m1 := by show (ev G cf a s m).bnd _ = _; rw [ha]; rfl
/-- both, where nothing is changed -/
theorem e_and2 {a b : Ex} {x y : Bool} (ha : ev G cf a s m = .ok (.bl x) s m) (hb : x = true → ev G cf b s m = .ok (.bl y) s m) : ev G cf (.and a b) s m = .ok (.bl (x && y)) s m := by
  cases x
  · exact e_anf ha
  · exact e_and ha (by simpa using hb rfl)
theorem e_or2 {a b : Ex} {x y : Bool} (ha : ev G cf a s m = .ok (.bl x) s m) (hb : x = false → ev G cf b s m = .ok (.bl y) s m) : ev G cf (.or a b) s m = .ok (.bl (x || y)) s m := by
  cases x
  · exact e_or ha (by simpa using hb rfl)
  · exact e_ort ha
theorem e_nt {a : Ex} {x : Bool} (ha : ev G cf a s m = .ok (.bl x) s1 m1) : ev G cf (.nt a) s m = .ok (.bl !x) s1 m1 := by show (ev G cf a s m).bnd _ = _; rw [ha]; rfl
theorem e_cmp {o : C2} {a b : Ex} {x y : PV} {z : Bool} (ha : ev G cf a s m = .ok x s1 m1) (hb : ev G cf b s1 m1 = .ok y s2 m2) (hz : cmp o x y = some z) : ev G cf (.cmp o a b) s m = .ok (.bl z) s2 m2 := by
  show (ev G cf a s m).bnd _ = _; rw [ha]; show (ev G cf b s1 m1).bnd _ = _; rw [hb]; show lift ((cmp o x y).map PV.bl) s2 m2 = _; rw [hz]; rfl
theorem e_chn {o o' : C2} {a b c : Ex} {x y z : PV} {p q : Bool} (ha : ev G cf a s m = .ok x s m) (hb : ev G cf b s m = .ok y s m) (hp : cmp o x y = some p) (hc : ev G cf c s m = .ok z s m) (hq : cmp o' y z = some q) : ev G cf (.chn o o' a b c) s m = .ok (.bl (p && q)) s m := by
  show (ev G cf a s m).bnd _ = _; rw [ha]; show (ev G cf b s m).bnd _ = _; rw [hb]; show (lift (cmp o x y) s m).bnd _ = _; rw [hp]
  show (if p then (ev G cf c s m).bnd (fun z s m => lift ((cmp o' y z).map PV.bl) s m) else .ok (PV.bl false) s m) = _
  cases p
  · rfl
  · rw [if_pos rfl, hc]; show lift ((cmp o' y z).map PV.bl) s m = _; rw [hq]; rfl
def isN : PV → Bool
  | .non => true
  | _ => false
theorem e_isn {n : Bool} {a : Ex} {x : PV} (ha : ev G cf a s m = .ok x s1 m1) : ev G cf (.isn n a) s m = .ok (.bl (isN x != n)) s1 m1 := by show (ev G cf a s m).bnd _ = _; rw [ha]; rfl
theorem e_isi {t : Ty} {a : Ex} {x : PV} (ha : ev G cf a s m = .ok x s1 m1) (hd : isD x = true) : ev G cf (.isi t a) s m = .ok (.bl (isTy t x)) s1 m1 := by
  show (ev G cf a s m).bnd _ = _; rw [ha]; show (if isD x then Res.ok (PV.bl (isTy t x)) s1 m1 else .stk) = _; rw [if_pos hd]
theorem e_ift {t : Tt} {a b : Ex} {y : PV} (ht : evt G cf t s m = .ok true s1 m1) (hb : ev G cf a s1 m1 = .ok y s2 m2) : ev G cf (.ife t a b) s m = .ok y s2 m2 := by show (evt G cf t s m).bnd _ = _; rw [ht]; exact hb
theorem e_iff {t : Tt} {a b : Ex} {y : PV} (ht : evt G cf t s m = .ok false s1 m1) (hb : ev G cf b s1 m1 = .ok y s2 m2) : ev G cf (.ife t a b) s m = .ok y s2 m2 := by show (evt G cf t s m).bnd _ = _; rw [ht]; exact hb
def notRef : PV → Bool
  | .ref _ => false
  | _ => true
theorem e_idx {a b : Ex} {x y z : PV} (ha : ev G cf a s m = .ok x s1 m1) (hb : ev G cf b s1 m1 = .ok y s2 m2) (hn : notRef x = true) (hz : idxP x y = some z) : ev G cf (.idx a b) s m = .ok z s2 m2 := by
  show (ev G cf a s m).bnd _ = _; rw [ha]; show (ev G cf b s1 m1).bnd _ = _; rw [hb]
  show lift (match x with | .ref n => (m2[n]?).bind fun c => idxP c y | _ => idxP x y) s2 m2 = _
  cases x <;> first | (rw [hz]; rfl) | (simp [notRef] at hn)
theorem e_idc {a b : Ex} {n : Nat} {y c z : PV} (ha : ev G cf a s m = .ok (.ref n) s1 m1) (hb : ev G cf b s1 m1 = .ok y s2 m2) (hc : m2[n]? = some c) (hz : idxP c y = some z) : ev G cf (.idx a b) s m = .ok z s2 m2 := by
  show (ev G cf a s m).bnd _ = _; rw [ha]; show (ev G cf b s1 m1).bnd _ = _; rw [hb]
  show lift ((m2[n]?).bind fun c => idxP c y) s2 m2 = _
  rw [hc]; show lift (idxP c y) s2 m2 = _; rw [hz]; rfl
theorem e_sli {a : Ex} {lo hi : Oe} {x z : PV} {l h : Option Int} (ha : ev G cf a s m = .ok x s1 m1) (hl : evo G cf lo s1 m1 = .ok l s2 m2) (hh : evo G cf hi s2 m2 = .ok h s3 m3) (hz : sliP x l h = some z) : ev G cf (.sli a lo hi) s m = .ok z s3 m3 := by
  show (ev G cf a s m).bnd _ = _; rw [ha]; show (evo G cf lo s1 m1).bnd _ = _; rw [hl]; show (evo G cf hi s2 m2).bnd _ = _; rw [hh]; show lift (sliP x l h) s3 m3 = _; rw [hz]; rfl
theorem o_no : evo G cf .no s m = .ok none s m := rfl
theorem o_so {a : Ex} {i : Int} (ha : ev G cf a s m = .ok (.int i) s1 m1) : evo G cf (.so a) s m = .ok (some i) s1 m1 := by show (ev G cf a s m).bnd _ = _; rw [ha]; rfl
theorem e_call {f : Nat} {es : Exs} {l : List PV} {p : PV} (ha : evs G cf es s m = .ok l s1 m1) (hc : cf f l m1 = .ok p m2) : ev G cf (.call f es) s m = .ok p s1 m2 := by
  show (evs G cf es s m).bnd _ = _; rw [ha]; show (match cf f l m1 with | .stk => Res.stk | .ok p m => .ok p s1 m | .exc e m => .exc e s1 m) = _; rw [hc]
theorem e_bi {b : Bi} {es : Exs} {l : List PV} {z : PV} (ha : evs G cf es s m = .ok l s1 m1) (hz : bi b l = some z) : ev G cf (.bi b es) s m = .ok z s1 m1 := by
  show (evs G cf es s m).bnd _ = _; rw [ha]; show lift (bi b l) s1 m1 = _; rw [hz]; rfl
theorem e_mt {k : Mt} {a : Ex} {es : Exs} {x z : PV} {l : List PV} (ha : ev G cf a s m = .ok x s1 m1) (hr : recv k x = true) (hl : evs G cf es s1 m1 = .ok l s2 m2) (hz : mt k x l = some z) : ev G cf (.mt k a es) s m = .ok z s2 m2 := by
  show (ev G cf a s m).bnd _ = _; rw [ha]
  show (if recv k x then (evs G cf es s1 m1).bnd (fun l s m => lift (mt k x l) s m) else .stk) = _
  rw [if_pos hr, hl]; show lift (mt k x l) s2 m2 = _; rw [hz]; rfl
theorem e_lc {own : List Nat} {elt : Ex} {tg : Tg} {it : It} {ifs : Tts} {l ys : List PV} (hi : evi G cf it s m = .ok l s1 m1) (hz : Nat.ble l.length SZ = true)
    (hl : lcL (fun x s1 m => (lift (asg tg x s1) s1 m).bnd fun s2 _ m => (evall G cf ifs s2 m).bnd fun c s3 m => if c then (ev G cf elt s3 m).bnd fun y s4 m => .ok (some y) (wipe s4 own) m else .ok none (wipe s3 own) m) l (wipe s1 own) m1 = .ok ys s2 m2) : ev G cf (.lc own elt tg it ifs) s m = .ok (.lst ys) (rest s1 s2 own) m2 := by
  show (evi G cf it s m).bnd _ = _; rw [hi]
  show (if Nat.ble l.length SZ then ((lcL (fun x s1 m => (lift (asg tg x s1) s1 m).bnd fun s2 _ m => (evall G cf ifs s2 m).bnd fun c s3 m => if c then (ev G cf elt s3 m).bnd fun y s4 m => .ok (some y) (wipe s4 own) m else .ok none (wipe s3 own) m) l (wipe s1 own) m1).nox).bnd (fun ys s' m => .ok (PV.lst ys) (rest s1 s' own) m) else .stk) = _
  rw [if_pos hz, hl]; rfl
theorem e_lrg {it : It} {l : List PV} (hi : evi G cf it s m = .ok l s1 m1) : ev G cf (.lrg it) s m = .ok (.lst l) s1 m1 := by show (evi G cf it s m).bnd _ = _; rw [hi]; rfl
theorem e_dcd {es : Exs} {l : List PV} {z : PV} (ha : evs G cf es s m = .ok l s1 m1) (hz : (prs l).bind mkD = some z) : ev G cf (.dcd es) s m = .ok z s1 m1 := by
  show (evs G cf es s m).bnd _ = _; rw [ha]; show lift ((prs l).bind mkD) s1 m1 = _; rw [hz]; rfl
theorem e_dix {a b : Ex} {ks vs : List PV} {t : List Nat} {z : PV} (ha : ev G cf a s m = .ok (.dic ks vs) s1 m1) (hb : ev G cf b s1 m1 = .ok (.str t) s2 m2) (hz : getD ks vs t = some (some z)) : ev G cf (.dix a b) s m = .ok z s2 m2 := by
  show (ev G cf a s m).bnd _ = _; rw [ha]; show (ev G cf b s1 m1).bnd _ = _; rw [hb]; show lift ((getD ks vs t).bind fun o => o) s2 m2 = _; rw [hz]; rfl
theorem e_dof {a : Ex} {l : List PV} {z : PV} (ha : ev G cf a s m = .ok (.tup l) s1 m1) (hz : (pPairs l).bind mkD = some z) : ev G cf (.dof a) s m = .ok z s1 m1 := by
  show (ev G cf a s m).bnd _ = _; rw [ha]; show lift ((pPairs l).bind mkD) s1 m1 = _; rw [hz]; rfl
theorem e_dgt {d k x : Ex} {ks vs : List PV} {t : List Nat} {w : PV} {o : Option PV} (hd : ev G cf d s m = .ok (.dic ks vs) s1 m1) (hk : ev G cf k s1 m1 = .ok (.str t) s2 m2) (hx : ev G cf x s2 m2 = .ok w s3 m3) (hz : getD ks vs t = some o) : ev G cf (.dgt d k x) s m = .ok (o.getD w) s3 m3 := by
  show (ev G cf d s m).bnd _ = _; rw [hd]; show (ev G cf k s1 m1).bnd _ = _; rw [hk]; show (ev G cf x s2 m2).bnd _ = _; rw [hx]; show lift ((getD ks vs t).map fun o => o.getD w) s3 m3 = _; rw [hz]; rfl
theorem e_rev {a : Ex} {t : List Nat} (ha : ev G cf a s m = .ok (.str t) s1 m1) : ev G cf (.rev a) s m = .ok (.str t.reverse) s1 m1 := by show (ev G cf a s m).bnd _ = _; rw [ha]; rfl
theorem l_nil : evs G cf .nil s m = .ok [] s m := rfl
theorem l_cons {e : Ex} {es : Exs} {x : PV} {l : List PV} (ha : ev G cf e s m = .ok x s1 m1) (hl : evs G cf es s1 m1 = .ok l s2 m2) : evs G cf (.cons e es) s m = .ok (x :: l) s2 m2 := by
  show (ev G cf e s m).bnd _ = _; rw [ha]; show (evs G cf es s1 m1).bnd _ = _; rw [hl]; rfl
theorem i_val' {e : Ex} {x : PV} {l : List PV} (ha : ev G cf e s m = .ok x s1 m1) (hl : items x = some l) : evi G cf (.val e) s m = .ok l s1 m1 := by
  show (ev G cf e s m).bnd _ = _; rw [ha]; show lift (items x) s1 m1 = _; rw [hl]; rfl
theorem i_rg1' {e : Ex} {j : Int} {l : List PV} (ha : ev G cf e s m = .ok (.int j) s1 m1) (hl : rng 0 j = some l) : evi G cf (.rg1 e) s m = .ok l s1 m1 := by
  show (ev G cf e s m).bnd _ = _; rw [ha]; show lift (rng 0 j) s1 m1 = _; rw [hl]; rfl
theorem i_rg2' {a b : Ex} {i j : Int} {l : List PV} (ha : ev G cf a s m = .ok (.int i) s1 m1) (hb : ev G cf b s1 m1 = .ok (.int j) s2 m2) (hl : rng i j = some l) : evi G cf (.rg2 a b) s m = .ok l s2 m2 := by
  show (ev G cf a s m).bnd _ = _; rw [ha]; show (ev G cf b s1 m1).bnd _ = _; rw [hb]; show lift (rng i j) s2 m2 = _; rw [hl]; rfl
theorem i_enu' {e : Ex} {x : PV} {l : List PV} (ha : ev G cf e s m = .ok x s1 m1) (hl : items x = some l) : evi G cf (.enu e) s m = .ok (enum 0 l) s1 m1 := by
  show (ev G cf e s m).bnd _ = _; rw [ha]; show lift ((items x).map (enum 0)) s1 m1 = _; rw [hl]; rfl
theorem i_zip' {a b : Ex} {x y : PV} {l r : List PV} (ha : ev G cf a s m = .ok x s1 m1) (hb : ev G cf b s1 m1 = .ok y s2 m2) (hl : items x = some l) (hr : items y = some r) : evi G cf (.zip a b) s m = .ok (zipP l r) s2 m2 := by
  show (ev G cf a s m).bnd _ = _; rw [ha]; show (ev G cf b s1 m1).bnd _ = _; rw [hb]; show lift ((items x).bind fun l => (items y).map fun r => zipP l r) s2 m2 = _; rw [hl, hr]; rfl
theorem t_v' {e : Ex} {x : Bool} (ha : ev G cf e s m = .ok (.bl x) s1 m1) : evt G cf (.v e) s m = .ok x s1 m1 := by show (ev G cf e s m).bnd _ = _; rw [ha]; rfl
theorem t_nt' {t : Tt} {x : Bool} (ha : evt G cf t s m = .ok x s1 m1) : evt G cf (.nt t) s m = .ok (!x) s1 m1 := by show (evt G cf t s m).bnd _ = _; rw [ha]; rfl
theorem t_allnil : evt G cf (.all .nil) s m = .ok true s m := rfl
theorem t_all' {t : Tt} {ts : Tts} {x y : Bool} (ha : evt G cf t s m = .ok x s m) (hb : x = true → evt G cf (.all ts) s m = .ok y s m) : evt G cf (.all (.cons t ts)) s m = .ok (x && y) s m := by
  show (evt G cf t s m).bnd _ = _; rw [ha]; show (if x then evall G cf ts s m else .ok false s m) = _
  cases x
  · rfl
  · rw [if_pos rfl]; exact hb rfl
theorem t_anynil : evt G cf (.any .nil) s m = .ok false s m := rfl
theorem t_any' {t : Tt} {ts : Tts} {x y : Bool} (ha : evt G cf t s m = .ok x s m) (hb : x = false → evt G cf (.any ts) s m = .ok y s m) : evt G cf (.any (.cons t ts)) s m = .ok (x || y) s m := by
  show (evt G cf t s m).bnd _ = _; rw [ha]; show (if x then .ok true s m else evany G cf ts s m) = _
  cases x
  · exact hb rfl
  · rfl

/-! ### statements -/
theorem x_asg {i : Nat} {e : Ex} {x : PV} (ha : ev G cf e s m = .ok x s1 m1) : xs G cf (.asg i e) s m = .ok .nx (s1.set i (.va x)) m1 := by show (ev G cf e s m).bnd _ = _; rw [ha]; rfl
theorem x_cell {i : Nat} {es : Exs} {l : List PV} (ha : evs G cf es s m = .ok l s1 m1) : xs G cf (.cell i es) s m = .ok .nx (s1.set i (.va (.ref m1.length))) (m1 ++ [.lst l]) := by show (evs G cf es s m).bnd _ = _; rw [ha]; rfl
theorem x_own {i : Nat} {es : Exs} {l : List PV} (ha : evs G cf es s m = .ok l s1 m1) : xs G cf (.own i es) s m = .ok .nx (s1.set i (.ow (.lst l))) m1 := by show (evs G cf es s m).bnd _ = _; rw [ha]; rfl
theorem x_ast {tg : Tg} {e : Ex} {x : PV} {s' : List Sl} (ha : ev G cf e s m = .ok x s1 m1) (hg : asg tg x s1 = some s') : xs G cf (.ast tg e) s m = .ok .nx s' m1 := by
  show (ev G cf e s m).bnd _ = _; rw [ha]; show (lift (asg tg x s1) s1 m1).bnd _ = _; rw [hg]; rfl
theorem x_par {i j : Nat} {a b : Ex} {x y : PV} (ha : ev G cf a s m = .ok x s1 m1) (hb : ev G cf b s1 m1 = .ok y s2 m2) : xs G cf (.par i j a b) s m = .ok .nx ((s2.set i (.va x)).set j (.va y)) m2 := by
  show (ev G cf a s m).bnd _ = _; rw [ha]; show (ev G cf b s1 m1).bnd _ = _; rw [hb]; rfl
theorem x_par3 {i j k : Nat} {a b c : Ex} {x y z : PV} (ha : ev G cf a s m = .ok x s1 m1) (hb : ev G cf b s1 m1 = .ok y s2 m2) (hc : ev G cf c s2 m2 = .ok z s3 m3) : xs G cf (.par3 i j k a b c) s m = .ok .nx (((s3.set i (.va x)).set j (.va y)).set k (.va z)) m3 := by
  show (ev G cf a s m).bnd _ = _; rw [ha]; show (ev G cf b s1 m1).bnd _ = _; rw [hb]; show (ev G cf c s2 m2).bnd _ = _; rw [hc]; rfl
theorem x_stc {a k v : Ex} {n j : Nat} {i : Int} {z : PV} {l : List PV} (hv : ev G cf v s m = .ok z s1 m1) (ha : ev G cf a s1 m1 = .ok (.ref n) s2 m2) (hk : ev G cf k s2 m2 = .ok (.int i) s3 m3) (hl : m3[n]? = some (.lst l)) (hj : pIx l.length i = some j) : xs G cf (.stc a k v) s m = .ok .nx s3 (m3.set n (.lst (l.set j z))) := by
  show (ev G cf v s m).bnd _ = _; rw [hv]; show (ev G cf a s1 m1).bnd _ = _; rw [ha]; show (ev G cf k s2 m2).bnd _ = _; rw [hk]
  show (match m3[n]? with | some (.lst l) => (match pIx l.length i with | some j => Res.ok Fl.nx s3 (m3.set n (.lst (l.set j z))) | none => .stk) | _ => .stk) = _
  rw [hl]; show (match pIx l.length i with | some j => Res.ok Fl.nx s3 (m3.set n (.lst (l.set j z))) | none => .stk) = _; rw [hj]
theorem x_ift {t : Tt} {a b : Sms} {f : Fl} (ht : evt G cf t s m = .ok true s1 m1) (ha : xss G cf a s1 m1 = .ok f s2 m2) : xs G cf (.ift t a b) s m = .ok f s2 m2 := by show (evt G cf t s m).bnd _ = _; rw [ht]; exact ha
theorem x_iff {t : Tt} {a b : Sms} {f : Fl} (ht : evt G cf t s m = .ok false s1 m1) (ha : xss G cf b s1 m1 = .ok f s2 m2) : xs G cf (.ift t a b) s m = .ok f s2 m2 := by show (evt G cf t s m).bnd _ = _; rw [ht]; exact ha
theorem x_ret {e : Ex} {x : PV} (ha : ev G cf e s m = .ok x s1 m1) : xs G cf (.ret e) s m = .ok (.rt x) s1 m1 := by show (ev G cf e s m).bnd _ = _; rw [ha]; rfl
theorem x_for {tg : Tg} {it : It} {b : Sms} {l : List PV} {f : Fl} (hi : evi G cf it s m = .ok l s1 m1) (hl : forL (fun x s m => (lift (asg tg x s) s m).bnd fun s' _ m => xss G cf b s' m) l s1 m1 = .ok f s2 m2) : xs G cf (.for tg it b) s m = .ok f s2 m2 := by
  show (evi G cf it s m).bnd _ = _; rw [hi]; exact hl
theorem x_mat {e : Ex} {cs : Mcs} {z : List Nat} {f : Fl} (ha : ev G cf e s m = .ok (.str z) s1 m1) (hc : xm G cf cs z s1 m1 = .ok f s2 m2) : xs G cf (.mat e cs) s m = .ok f s2 m2 := by show (ev G cf e s m).bnd _ = _; rw [ha]; exact hc
theorem m_yes {ks : List (List Nat)} {b : Sms} {r : Mcs} {z : List Nat} {f : Fl} (h : ks.contains z = true) (hb : xss G cf b s m = .ok f s1 m1) : xm G cf (.cons ks b r) z s m = .ok f s1 m1 := by show (if ks.contains z then xss G cf b s m else xm G cf r z s m) = _; rw [if_pos h]; exact hb
theorem m_no {ks : List (List Nat)} {b : Sms} {r : Mcs} {z : List Nat} {f : Fl} (h : ks.contains z = false) (hb : xm G cf r z s m = .ok f s1 m1) : xm G cf (.cons ks b r) z s m = .ok f s1 m1 := by show (if ks.contains z then xss G cf b s m else xm G cf r z s m) = _; rw [if_neg (by rw [h]; exact Bool.false_ne_true)]; exact hb
theorem m_nil {z : List Nat} : xm G cf .nil z s m = .ok .nx s m := rfl
theorem b_nil : xss G cf .nil s m = .ok .nx s m := rfl
theorem b_nx {c : Sm} {r : Sms} {f : Fl} (h : xs G cf c s m = .ok .nx s1 m1) (hr : xss G cf r s1 m1 = .ok f s2 m2) : xss G cf (.cons c r) s m = .ok f s2 m2 := by show (xs G cf c s m).bnd _ = _; rw [h]; exact hr
theorem b_rt {c : Sm} {r : Sms} {p : PV} (h : xs G cf c s m = .ok (.rt p) s1 m1) : xss G cf (.cons c r) s m = .ok (.rt p) s1 m1 := by show (xs G cf c s m).bnd _ = _; rw [h]; rfl
end
section
variable {G : List PV} {F : List Fn}
theorem callN_at {n f : Nat} {fn : Fn} {as m : List PV} (h : F[f]? = some fn) (hl : as.length = fn.np) : callN G F (n + 1) f as m = (match xss G (callN G F n) fn.body (as.map .va ++ List.replicate (fn.ns - fn.np) .un) m with
    | .ok (.rt p) _ m => .ok p m
    | .ok .nx _ m => .ok .non m
    | .exc e _ m => .exc e m
    | _ => .stk) := by
  show (match F[f]? with | none => CR.stk | some fn => _) = _
  rw [h]
  show (if (as.length == fn.np) = true then _ else _) = _
  rw [if_pos (by simpa using hl)]
  all_goals rfl
theorem c_rt {n f : Nat} {fn : Fn} {as m m1 : List PV} {p : PV} {s1 : List Sl} (h : F[f]? = some fn) (hl : as.length = fn.np) (hb : xss G (callN G F n) fn.body (as.map .va ++ List.replicate (fn.ns - fn.np) .un) m = .ok (.rt p) s1 m1) : callN G F (n + 1) f as m = .ok p m1 := by
  rw [callN_at h hl, hb]
end
end RA.St

/-! The draws of a law, by the interpreter: whatever the script, a number below the bound. -/
namespace RA.St
open PySem

theorem op_mod {i j : Int} (h : 0 < j) : op2 .mod (.int i) (.int j) = some (.int (i % j)) := by show (if 0 < j then some (PV.int (i % j)) else none) = _; rw [if_pos h]
theorem op_fdv {i j : Int} (h : 0 < j) (h2 : j.natAbs < BW) : op2 .fdv (.int i) (.int j) = some (.int (i / j)) := by show (if 0 < j ∧ j.natAbs < BW then some (PV.int (i / j)) else none) = _; rw [if_pos ⟨h, h2⟩]
theorem op_mulR {i j : Int} (h : small j = true) : op2 .mul (.int i) (.int j) = some (.int (i * j)) := by show (if small i || small j then some (PV.int (i * j)) else if i.natAbs < BW ∧ j.natAbs < BW then some (.int (i * j)) else none) = _; rw [h, Bool.or_true, if_pos rfl]
theorem op_mulL {i j : Int} (h : small i = true) : op2 .mul (.int i) (.int j) = some (.int (i * j)) := by show (if small i || small j then some (PV.int (i * j)) else if i.natAbs < BW ∧ j.natAbs < BW then some (.int (i * j)) else none) = _; rw [h, Bool.true_or, if_pos rfl]
theorem op_pow {i j : Int} (h : 0 ≤ j ∧ j ≤ 1000000 ∧ small i = true) : op2 .pow (.int i) (.int j) = some (.int (i ^ j.toNat)) := by show (if 0 ≤ j ∧ j ≤ 1000000 ∧ small i then some (PV.int (i ^ j.toNat)) else none) = _; rw [if_pos h]
theorem small_of {i : Int} (h : -1000000000000 ≤ i ∧ i ≤ 1000000000000) : small i = true := by unfold small; simp only [Bool.and_eq_true, decide_eq_true_eq]; have : B64 = 18446744073709551616 := rfl; omega
theorem pIx_at {n : Nat} {k : Int} (h0 : 0 ≤ k) (h1 : k < n) : pIx n k = some k.toNat := by unfold pIx; rw [if_pos h0, if_pos h1]

def bCell : Sms := (.cons (.ift (.v (.cmp .lt (.loc 1) (.bi .len (.cons (.loc 0) .nil)))) (.cons (.ret (.idx (.loc 0) (.loc 1))) .nil) .nil) (.cons (.ret (.int 0)) .nil))
def primesE : Exs := (.cons (.int 1000003) (.cons (.int 1000033) (.cons (.int 1000037) (.cons (.int 1000039) (.cons (.int 1000081) (.cons (.int 1000099) (.cons (.int 1000117) (.cons (.int 1000121) (.cons (.int 1000133) (.cons (.int 1000151) (.cons (.int 1000159) (.cons (.int 1000171) (.cons (.int 1000183) (.cons (.int 1000187) (.cons (.int 1000193) (.cons (.int 1000199) .nil))))))))))))))))
def primesV : List PV := [.int 1000003, .int 1000033, .int 1000037, .int 1000039, .int 1000081, .int 1000099, .int 1000117, .int 1000121, .int 1000133, .int 1000151, .int 1000159, .int 1000171, .int 1000183, .int 1000187, .int 1000193, .int 1000199]
def bDraw : Sms := (.cons (.asg 3 (.tup primesE)) (.cons
      (.ret (.op .mod (.op .mod (.bi .int (.cons (.op .add (.op .mul (.loc 0) (.int 48271)) (.op .mul (.loc 1) (.int 69621))) .nil)) (.idx (.loc 3) (.op .mod (.bi .int (.cons (.loc 1) .nil)) (.int 16)))) (.loc 2))) .nil))
def bLap : Sms := (.cons (.asg 3 (.op .mul (.loc 3) (.int 1009))) .nil)
def bNumT (d : Nat) : Sms := (.cons
      (.asg 5 (.op .fdv (.op .sub (.loc 0) (.op .pow (.int 10) (.int 18))) (.loc 3))) (.cons
      (.ift (.v (.cmp .gt (.loc 5) (.int 0))) (.cons (.ret (.op .mod (.op .mod (.bi .int (.cons (.loc 5) .nil)) (.int 1009)) (.loc 2))) .nil) .nil) (.cons
      (.asg 6 (.op .mod (.bi .int (.cons (.loc 0) .nil)) (.int 1000003))) (.cons
      (.ret (.op .mod (.call d (.cons (.op .mul (.op .add (.loc 6) (.op .mul (.int 977) (.loc 1))) (.op .add (.op .add (.loc 6) (.op .mul (.int 31) (.loc 1))) (.int 5))) (.cons (.op .add (.op .mod (.bi .int (.cons (.loc 1) .nil)) (.int 9)) (.int 1)) (.cons (.int 999983) .nil)))) (.loc 2))) .nil))))
def bNum (d : Nat) : Sms := (.cons (.asg 3 (.int 1)) (.cons (.for (.nm 4) (.rg1 (.op .mod (.bi .int (.cons (.loc 1) .nil)) (.int 24))) bLap) (bNumT d)))
def bNext (c nu : Nat) : Sms :=
      (.cons (.stc (.loc 0) (.int 2) (.op .add (.idx (.loc 0) (.int 2)) (.int 1))) (.cons
      (.asg 2 (.op .fdv (.idx (.loc 0) (.int 2)) (.int 12))) (.cons
      (.asg 3 (.op .add (.call c (.cons (.idx (.loc 0) (.int 0)) (.cons (.op .add (.idx (.loc 0) (.int 1)) (.loc 2)) .nil))) (.op .mul (.int 31) (.loc 2)))) (.cons
      (.ret (.call nu (.cons (.loc 3) (.cons (.op .add (.op .mod (.bi .int (.cons (.idx (.loc 0) (.int 2)) .nil)) (.int 12)) (.int 1)) (.cons (.loc 1) .nil))))) .nil))))
def bPick (nx : Nat) : Sms := (.cons (.ret (.idx (.loc 1) (.call nx (.cons (.loc 0) (.cons (.bi .len (.cons (.loc 1) .nil)) .nil))))) .nil)
structure DrawAt (F : List Fn) (c d nu nx pk : Nat) : Prop where
  hc : F[c]? = some ⟨2, 2, bCell⟩
  hd : F[d]? = some ⟨3, 4, bDraw⟩
  hn : F[nu]? = some ⟨3, 7, bNum d⟩
  hx : F[nx]? = some ⟨2, 4, bNext c nu⟩
  hp : F[pk]? = some ⟨2, 2, bPick nx⟩

section
variable {G : List PV} {F : List Fn} {c d nu nx pk : Nat}
theorem draw_cell (D : DrawAt F c d nu nx pk) (n : Nat) (ns : List Int) (k : Int) (hk : 0 ≤ k) (m : List PV) : ∃ r, callN G F (n + 1) c [.lst (ns.map .int), .int k] m = .ok (.int r) m := by
  by_cases h : k < (ns.length : Int)
  · have hc : cmp .lt (.int k) (.int ((ns.map PV.int).length : Int)) = some true := by
      show some (decide _) = _; rw [decide_eq_true (by simpa using h)]
    have hi : idxP (.lst (ns.map .int)) (.int k) = some (.int (ns[k.toNat]'(by omega))) := by
      show (pIx (ns.map PV.int).length k).bind _ = _
      rw [pIx_at hk (by simpa using h)]
      show (ns.map PV.int)[k.toNat]? = _
      rw [List.getElem?_map, List.getElem?_eq_getElem (by omega)]; rfl
    apply Exists.intro
    apply c_rt D.hc rfl
    apply b_rt
    apply x_ift
    repeat (first
    | exact e_int | exact e_non | exact e_bl | exact e_str | exact e_loc rfl | exact e_loo rfl | exact e_glo rfl | exact l_nil | exact o_no | exact b_nil | exact m_nil | exact t_allnil | exact t_anynil
    | assumption
    | apply e_op | apply e_neg | apply e_nt | apply e_cmp | apply e_isn | apply e_isi | apply e_tup | apply e_lst | apply l_cons
    | (apply e_idx) | apply e_sli | apply o_so | apply e_bi | apply e_mt | apply e_call | apply e_rev
    | apply t_v' | apply t_nt' | apply i_rg1' | apply i_rg2' | apply i_val' | apply i_enu' | apply i_zip'
    | (apply b_rt; apply x_ret) | (apply b_nx; apply x_asg) | (apply b_nx; apply x_par) | (apply b_nx; apply x_par3) | (apply b_nx; apply x_ast) | (apply b_nx; apply x_cell) | (apply b_nx; apply x_own) | (apply b_nx; apply x_stc)
    | apply op_mod | apply op_fdv | apply op_mulR | apply op_mulL | apply op_pow
    | (exact rfl) | (with_reducible decide) | omega)
  · have hc : cmp .lt (.int k) (.int ((ns.map PV.int).length : Int)) = some false := by
      show some (decide _) = _; rw [decide_eq_false (by simpa using h)]
    apply Exists.intro
    apply c_rt D.hc rfl
    apply b_nx
    apply x_iff
    repeat (first
    | exact e_int | exact e_non | exact e_bl | exact e_str | exact e_loc rfl | exact e_loo rfl | exact e_glo rfl | exact l_nil | exact o_no | exact b_nil | exact m_nil | exact t_allnil | exact t_anynil
    | assumption
    | apply e_op | apply e_neg | apply e_nt | apply e_cmp | apply e_isn | apply e_isi | apply e_tup | apply e_lst | apply l_cons
    | (apply e_idx) | apply e_sli | apply o_so | apply e_bi | apply e_mt | apply e_call | apply e_rev
    | apply t_v' | apply t_nt' | apply i_rg1' | apply i_rg2' | apply i_val' | apply i_enu' | apply i_zip'
    | (apply b_rt; apply x_ret) | (apply b_nx; apply x_asg) | (apply b_nx; apply x_par) | (apply b_nx; apply x_par3) | (apply b_nx; apply x_ast) | (apply b_nx; apply x_cell) | (apply b_nx; apply x_own) | (apply b_nx; apply x_stc)
    | apply op_mod | apply op_fdv | apply op_mulR | apply op_mulL | apply op_pow
    | (exact rfl) | (with_reducible decide) | omega)
theorem prime_at (k : Int) : ∃ p : Int, 0 < p ∧ idxP (.tup primesV) (.int (k % 16)) = some (.int p) := by
  have h0 := Int.emod_nonneg k (b := 16) (by decide)
  have h1 := Int.emod_lt_of_pos k (b := 16) (by decide)
  generalize k % 16 = j at h0 h1
  have hj : j = 0 ∨ j = 1 ∨ j = 2 ∨ j = 3 ∨ j = 4 ∨ j = 5 ∨ j = 6 ∨ j = 7 ∨ j = 8 ∨ j = 9 ∨ j = 10 ∨ j = 11 ∨ j = 12 ∨ j = 13 ∨ j = 14 ∨ j = 15 := by omega
  rcases hj with rfl | rfl | rfl | rfl | rfl | rfl | rfl | rfl | rfl | rfl | rfl | rfl | rfl | rfl | rfl | rfl <;> exact ⟨_, by decide, rfl⟩
theorem draw_draw (D : DrawAt F c d nu nx pk) (n : Nat) (a k b : Int) (hb : 0 < b) (m : List PV) : ∃ r, 0 ≤ r ∧ r < b ∧ callN G F (n + 1) d [.int a, .int k, .int b] m = .ok (.int r) m := by
  obtain ⟨p, hp, hi⟩ := prime_at k
  refine ⟨(a * 48271 + k * 69621) % p % b, Int.emod_nonneg _ (by omega), Int.emod_lt_of_pos _ hb, ?_⟩
  apply c_rt D.hd rfl
  have hpr : ∀ {s : List Sl}, ev G (callN G F n) (.tup primesE) s m = .ok (.tup primesV) s m := rfl
  apply b_nx (x_asg hpr)
  repeat (first
    | exact e_int | exact e_non | exact e_bl | exact e_str | exact e_loc rfl | exact e_loo rfl | exact e_glo rfl | exact l_nil | exact o_no | exact b_nil | exact m_nil | exact t_allnil | exact t_anynil
    | assumption
    | apply e_op | apply e_neg | apply e_nt | apply e_cmp | apply e_isn | apply e_isi | apply e_tup | apply e_lst | apply l_cons
    | (apply e_idx) | apply e_sli | apply o_so | apply e_bi | apply e_mt | apply e_call | apply e_rev
    | apply t_v' | apply t_nt' | apply i_rg1' | apply i_rg2' | apply i_val' | apply i_enu' | apply i_zip'
    | (apply b_rt; apply x_ret) | (apply b_nx; apply x_asg) | (apply b_nx; apply x_par) | (apply b_nx; apply x_par3) | (apply b_nx; apply x_ast) | (apply b_nx; apply x_cell) | (apply b_nx; apply x_own) | (apply b_nx; apply x_stc)
    | apply op_mod | apply op_fdv | apply op_mulR | apply op_mulL | apply op_pow
    | (exact rfl) | (with_reducible decide) | omega)
theorem fl_nil {g : PV → List Sl → List PV → Res Fl} {s : List Sl} {m : List PV} : forL g [] s m = .ok .nx s m := rfl
theorem fl_nx {g : PV → List Sl → List PV → Res Fl} {x : PV} {r : List PV} {s s1 s2 : List Sl} {m m1 m2 : List PV} {f : Fl} (h : g x s m = .ok .nx s1 m1) (hr : forL g r s1 m1 = .ok f s2 m2) : forL g (x :: r) s m = .ok f s2 m2 := by
  show (g x s m).bnd _ = _; rw [h]; exact hr
theorem pow_loop {cf : Nat → List PV → List PV → CR} {a k b : PV} {m : List PV} : ∀ (l : List Nat) (p : Int) (y : Sl), ∃ y', forL (fun x s m => (lift (asg (.nm 4) x s) s m).bnd fun s' _ m => xss G cf bLap s' m) (l.map fun (i : Nat) => PV.int (0 + (i : Int))) [.va a, .va k, .va b, .va (.int p), y, .un, .un] m
    = .ok .nx [.va a, .va k, .va b, .va (.int (p * 1009 ^ l.length)), y', .un, .un] m
  | [], p, y => ⟨y, by rw [List.length_nil, Int.pow_zero, Int.mul_one]; exact fl_nil⟩
  | i :: l, p, y => by
    have s1 : small 1009 = true := by decide
    obtain ⟨y', h⟩ := pow_loop (cf := cf) (a := a) (k := k) (b := b) (m := m) l (p * 1009) (.va (.int (0 + (i : Int))))
    refine ⟨y', fl_nx (s1 := [.va a, .va k, .va b, .va (.int (p * 1009)), .va (.int (0 + (i : Int))), .un, .un]) (m1 := m) ?_ ?_⟩
    · show xss G cf bLap [.va a, .va k, .va b, .va (.int p), .va (.int (0 + (i : Int))), .un, .un] m = _
      repeat (first
    | exact e_int | exact e_non | exact e_bl | exact e_str | exact e_loc rfl | exact e_loo rfl | exact e_glo rfl | exact l_nil | exact o_no | exact b_nil | exact m_nil | exact t_allnil | exact t_anynil
    | assumption
    | apply e_op | apply e_neg | apply e_nt | apply e_cmp | apply e_isn | apply e_isi | apply e_tup | apply e_lst | apply l_cons
    | (apply e_idx) | apply e_sli | apply o_so | apply e_bi | apply e_mt | apply e_call | apply e_rev
    | apply t_v' | apply t_nt' | apply i_rg1' | apply i_rg2' | apply i_val' | apply i_enu' | apply i_zip'
    | (apply b_rt; apply x_ret) | (apply b_nx; apply x_asg) | (apply b_nx; apply x_par) | (apply b_nx; apply x_par3) | (apply b_nx; apply x_ast) | (apply b_nx; apply x_cell) | (apply b_nx; apply x_own) | (apply b_nx; apply x_stc)
    | apply op_mod | apply op_fdv | apply op_mulR | apply op_mulL | apply op_pow
    | (exact rfl) | (with_reducible decide) | omega)
    · rw [List.length_cons, Int.pow_succ, Int.mul_comm (1009 ^ l.length) 1009, ← Int.mul_assoc]
      exact h
theorem draw_num (D : DrawAt F c d nu nx pk) (n : Nat) (a k b : Int) (hk : 1 ≤ k ∧ k ≤ 12) (hb : 0 < b) (m : List PV) : ∃ r, 0 ≤ r ∧ r < b ∧ callN G F (n + 2) nu [.int a, .int k, .int b] m = .ok (.int r) m := by
  have hk24 : k % 24 = k := Int.emod_eq_of_lt (by omega) (by omega)
  obtain ⟨y', hl⟩ := pow_loop (G := G) (cf := callN G F (n + 1)) (a := .int a) (k := .int k) (b := .int b) (m := m) (List.range k.toNat) 1 .un
  rw [List.length_range, Int.one_mul] at hl
  have hp0 : (0 : Int) < 1009 ^ k.toNat := Int.pow_pos (by decide)
  have hpw : ((1009 : Int) ^ k.toNat).natAbs < BW := by
    have h1 : ((1009 : Int) ^ k.toNat).natAbs = 1009 ^ k.toNat := by rw [Int.natAbs_pow]; rfl
    rw [h1]
    have h2 : 1009 ^ k.toNat ≤ 1009 ^ 12 := Nat.pow_le_pow_right (by decide) (by omega)
    exact Nat.lt_of_le_of_lt h2 (by decide +kernel)
  have hrng : RA.rng 0 k = some ((List.range k.toNat).map fun (i : Nat) => PV.int (0 + (i : Int))) := by
    unfold RA.rng
    rw [Int.sub_zero, if_pos (by show k.toNat ≤ 16777216 ∧ _; omega)]
  have hsm0 := Int.emod_nonneg a (b := 1000003) (by decide)
  have hsm1 := Int.emod_lt_of_pos a (b := 1000003) (by decide)
  have hsm : small (a % 1000003 + 977 * k) = true := small_of (by omega)
  have hsk : small k = true := small_of (by omega)
  have hsm2 : small (a % 1000003 + 31 * k + 5) = true := small_of (by omega)
  have s977 : small 977 = true := by decide
  have s31 : small 31 = true := by decide
  have s10 : 0 ≤ (18 : Int) ∧ (18 : Int) ≤ 1000000 ∧ small 10 = true := by decide
  obtain ⟨r, r0, r1, hr⟩ := draw_draw (G := G) D n ((a % 1000003 + 977 * k) * (a % 1000003 + 31 * k + 5)) (k % 9 + 1) 999983 (by decide) m
  have hi : evi G (callN G F (n + 1)) (.rg1 (.op .mod (.bi .int (.cons (.loc 1) .nil)) (.int 24))) [.va (.int a), .va (.int k), .va (.int b), .va (.int 1), .un, .un, .un] m = .ok ((List.range k.toNat).map fun (i : Nat) => PV.int (0 + (i : Int))) [.va (.int a), .va (.int k), .va (.int b), .va (.int 1), .un, .un, .un] m := by
    apply i_rg1' (j := k)
    · have e : op2 .mod (.int k) (.int 24) = some (.int k) := by rw [op_mod (by decide), hk24]
      repeat (first
    | exact e_int | exact e_non | exact e_bl | exact e_str | exact e_loc rfl | exact e_loo rfl | exact e_glo rfl | exact l_nil | exact o_no | exact b_nil | exact m_nil | exact t_allnil | exact t_anynil
    | assumption
    | apply e_op | apply e_neg | apply e_nt | apply e_cmp | apply e_isn | apply e_isi | apply e_tup | apply e_lst | apply l_cons
    | (apply e_idx) | apply e_sli | apply o_so | apply e_bi | apply e_mt | apply e_call | apply e_rev
    | apply t_v' | apply t_nt' | apply i_rg1' | apply i_rg2' | apply i_val' | apply i_enu' | apply i_zip'
    | (apply b_rt; apply x_ret) | (apply b_nx; apply x_asg) | (apply b_nx; apply x_par) | (apply b_nx; apply x_par3) | (apply b_nx; apply x_ast) | (apply b_nx; apply x_cell) | (apply b_nx; apply x_own) | (apply b_nx; apply x_stc)
    | apply op_mod | apply op_fdv | apply op_mulR | apply op_mulL | apply op_pow
    | (exact rfl) | (with_reducible decide) | omega)
    · exact hrng
  have fin : ∃ r, 0 ≤ r ∧ r < b ∧ ∃ s', xss G (callN G F (n + 1)) (bNumT d) [.va (.int a), .va (.int k), .va (.int b), .va (.int (1009 ^ k.toNat)), y', .un, .un] m = .ok (.rt (.int r)) s' m := by
    by_cases hc : (0 : Int) < (a - 10 ^ 18) / 1009 ^ k.toNat
    · have hcc : cmp .gt (.int ((a - 10 ^ 18) / 1009 ^ k.toNat)) (.int 0) = some true := by show some (decide _) = _; rw [decide_eq_true hc]
      refine ⟨(a - 10 ^ 18) / 1009 ^ k.toNat % 1009 % b, Int.emod_nonneg _ (by omega), Int.emod_lt_of_pos _ hb, ?_⟩
      apply Exists.intro
      apply b_nx
      · apply x_asg
        repeat (first
    | exact e_int | exact e_non | exact e_bl | exact e_str | exact e_loc rfl | exact e_loo rfl | exact e_glo rfl | exact l_nil | exact o_no | exact b_nil | exact m_nil | exact t_allnil | exact t_anynil
    | assumption
    | apply e_op | apply e_neg | apply e_nt | apply e_cmp | apply e_isn | apply e_isi | apply e_tup | apply e_lst | apply l_cons
    | (apply e_idx) | apply e_sli | apply o_so | apply e_bi | apply e_mt | apply e_call | apply e_rev
    | apply t_v' | apply t_nt' | apply i_rg1' | apply i_rg2' | apply i_val' | apply i_enu' | apply i_zip'
    | (apply b_rt; apply x_ret) | (apply b_nx; apply x_asg) | (apply b_nx; apply x_par) | (apply b_nx; apply x_par3) | (apply b_nx; apply x_ast) | (apply b_nx; apply x_cell) | (apply b_nx; apply x_own) | (apply b_nx; apply x_stc)
    | apply op_mod | apply op_fdv | apply op_mulR | apply op_mulL | apply op_pow
    | (exact rfl) | (with_reducible decide) | omega)
      · apply b_rt
        apply x_ift
        repeat (first
    | exact e_int | exact e_non | exact e_bl | exact e_str | exact e_loc rfl | exact e_loo rfl | exact e_glo rfl | exact l_nil | exact o_no | exact b_nil | exact m_nil | exact t_allnil | exact t_anynil
    | assumption
    | apply e_op | apply e_neg | apply e_nt | apply e_cmp | apply e_isn | apply e_isi | apply e_tup | apply e_lst | apply l_cons
    | (apply e_idx) | apply e_sli | apply o_so | apply e_bi | apply e_mt | apply e_call | apply e_rev
    | apply t_v' | apply t_nt' | apply i_rg1' | apply i_rg2' | apply i_val' | apply i_enu' | apply i_zip'
    | (apply b_rt; apply x_ret) | (apply b_nx; apply x_asg) | (apply b_nx; apply x_par) | (apply b_nx; apply x_par3) | (apply b_nx; apply x_ast) | (apply b_nx; apply x_cell) | (apply b_nx; apply x_own) | (apply b_nx; apply x_stc)
    | apply op_mod | apply op_fdv | apply op_mulR | apply op_mulL | apply op_pow
    | (exact rfl) | (with_reducible decide) | omega)
    · have hcc : cmp .gt (.int ((a - 10 ^ 18) / 1009 ^ k.toNat)) (.int 0) = some false := by show some (decide _) = _; rw [decide_eq_false hc]
      refine ⟨r % b, Int.emod_nonneg _ (by omega), Int.emod_lt_of_pos _ hb, ?_⟩
      apply Exists.intro
      apply b_nx
      · apply x_asg
        repeat (first
    | exact e_int | exact e_non | exact e_bl | exact e_str | exact e_loc rfl | exact e_loo rfl | exact e_glo rfl | exact l_nil | exact o_no | exact b_nil | exact m_nil | exact t_allnil | exact t_anynil
    | assumption
    | apply e_op | apply e_neg | apply e_nt | apply e_cmp | apply e_isn | apply e_isi | apply e_tup | apply e_lst | apply l_cons
    | (apply e_idx) | apply e_sli | apply o_so | apply e_bi | apply e_mt | apply e_call | apply e_rev
    | apply t_v' | apply t_nt' | apply i_rg1' | apply i_rg2' | apply i_val' | apply i_enu' | apply i_zip'
    | (apply b_rt; apply x_ret) | (apply b_nx; apply x_asg) | (apply b_nx; apply x_par) | (apply b_nx; apply x_par3) | (apply b_nx; apply x_ast) | (apply b_nx; apply x_cell) | (apply b_nx; apply x_own) | (apply b_nx; apply x_stc)
    | apply op_mod | apply op_fdv | apply op_mulR | apply op_mulL | apply op_pow
    | (exact rfl) | (with_reducible decide) | omega)
      · apply b_nx
        · apply x_iff
          repeat (first
    | exact e_int | exact e_non | exact e_bl | exact e_str | exact e_loc rfl | exact e_loo rfl | exact e_glo rfl | exact l_nil | exact o_no | exact b_nil | exact m_nil | exact t_allnil | exact t_anynil
    | assumption
    | apply e_op | apply e_neg | apply e_nt | apply e_cmp | apply e_isn | apply e_isi | apply e_tup | apply e_lst | apply l_cons
    | (apply e_idx) | apply e_sli | apply o_so | apply e_bi | apply e_mt | apply e_call | apply e_rev
    | apply t_v' | apply t_nt' | apply i_rg1' | apply i_rg2' | apply i_val' | apply i_enu' | apply i_zip'
    | (apply b_rt; apply x_ret) | (apply b_nx; apply x_asg) | (apply b_nx; apply x_par) | (apply b_nx; apply x_par3) | (apply b_nx; apply x_ast) | (apply b_nx; apply x_cell) | (apply b_nx; apply x_own) | (apply b_nx; apply x_stc)
    | apply op_mod | apply op_fdv | apply op_mulR | apply op_mulL | apply op_pow
    | (exact rfl) | (with_reducible decide) | omega)
        · repeat (first
    | exact e_int | exact e_non | exact e_bl | exact e_str | exact e_loc rfl | exact e_loo rfl | exact e_glo rfl | exact l_nil | exact o_no | exact b_nil | exact m_nil | exact t_allnil | exact t_anynil
    | assumption
    | apply e_op | apply e_neg | apply e_nt | apply e_cmp | apply e_isn | apply e_isi | apply e_tup | apply e_lst | apply l_cons
    | (apply e_idx) | apply e_sli | apply o_so | apply e_bi | apply e_mt | apply e_call | apply e_rev
    | apply t_v' | apply t_nt' | apply i_rg1' | apply i_rg2' | apply i_val' | apply i_enu' | apply i_zip'
    | (apply b_rt; apply x_ret) | (apply b_nx; apply x_asg) | (apply b_nx; apply x_par) | (apply b_nx; apply x_par3) | (apply b_nx; apply x_ast) | (apply b_nx; apply x_cell) | (apply b_nx; apply x_own) | (apply b_nx; apply x_stc)
    | apply op_mod | apply op_fdv | apply op_mulR | apply op_mulL | apply op_pow
    | (exact rfl) | (with_reducible decide) | omega)
  obtain ⟨q, q0, q1, s', hq⟩ := fin
  refine ⟨q, q0, q1, ?_⟩
  apply c_rt D.hn rfl
  apply b_nx (x_asg e_int)
  apply b_nx (x_for hi hl)
  exact hq
theorem draw_next (D : DrawAt F c d nu nx pk) (n : Nat) (ns : List Int) (q : Nat) (b : Int) (hb : 0 < b) (m : List PV) (mu : Nat) (hm : m[mu]? = some (.lst [.lst (ns.map .int), .int 0, .int q])) :
    ∃ r, 0 ≤ r ∧ r < b ∧ callN G F (n + 3) nx [.ref mu, .int b] m = .ok (.int r) (m.set mu (.lst [.lst (ns.map .int), .int 0, .int ((q + 1 : Nat) : Int)])) := by
  have hlt : mu < m.length := by
    rcases Nat.lt_or_ge mu m.length with h | h
    · exact h
    · rw [List.getElem?_eq_none h] at hm; cases hm
  have hm' : (m.set mu (.lst [.lst (ns.map .int), .int 0, .int ((q : Int) + 1)]))[mu]? = some (.lst [.lst (ns.map .int), .int 0, .int ((q : Int) + 1)]) := by
    rw [List.getElem?_set_self hlt]
  have e1 : (((q + 1 : Nat) : Int)) = (q : Int) + 1 := by omega
  rw [e1]
  have hq0 : (0 : Int) ≤ ((q : Int) + 1) / 12 := Int.ediv_nonneg (by omega) (by decide)
  have h0 : (0 : Int) ≤ 0 + ((q : Int) + 1) / 12 := by omega
  obtain ⟨v, hv⟩ := draw_cell (G := G) D (n + 1) ns (0 + ((q : Int) + 1) / 12) h0 (m.set mu (.lst [.lst (ns.map .int), .int 0, .int ((q : Int) + 1)]))
  have hk0 := Int.emod_nonneg ((q : Int) + 1) (b := 12) (by decide)
  have hk1 := Int.emod_lt_of_pos ((q : Int) + 1) (b := 12) (by decide)
  obtain ⟨r, r0, r1, hr⟩ := draw_num (G := G) D n (v + 31 * (((q : Int) + 1) / 12)) (((q : Int) + 1) % 12 + 1) b (by omega) hb (m.set mu (.lst [.lst (ns.map .int), .int 0, .int ((q : Int) + 1)]))
  have g0 : idxP (.lst [.lst (ns.map .int), .int 0, .int ((q : Int) + 1)]) (.int 0) = some (.lst (ns.map .int)) := rfl
  have g1 : idxP (.lst [.lst (ns.map .int), .int 0, .int ((q : Int) + 1)]) (.int 1) = some (.int 0) := rfl
  have g2 : idxP (.lst [.lst (ns.map .int), .int 0, .int ((q : Int) + 1)]) (.int 2) = some (.int ((q : Int) + 1)) := rfl
  have g2' : idxP (.lst [.lst (ns.map .int), .int 0, .int (q : Int)]) (.int 2) = some (.int (q : Int)) := rfl
  have s31 : small 31 = true := by decide
  have b12 : (12 : Int).natAbs < BW := by decide +kernel
  refine ⟨r, r0, r1, ?_⟩
  apply c_rt D.hx rfl
  have st : ∀ {s1 : List Sl} (h : s1 = [.va (.ref mu), .va (.int b), .un, .un]), xs G (callN G F (n + 2)) (.stc (.loc 0) (.int 2) (.op .add (.idx (.loc 0) (.int 2)) (.int 1))) s1 m = .ok .nx s1 (m.set mu (.lst [.lst (ns.map .int), .int 0, .int ((q : Int) + 1)])) := by
    intro s1 h; subst h
    apply x_stc (l := [.lst (ns.map .int), .int 0, .int q]) (j := 2) (z := .int ((q : Int) + 1)) (n := mu) (i := 2)
    · apply e_op
      · apply e_idc (e_loc rfl) e_int hm g2'
      · exact e_int
      · rfl
    · exact e_loc rfl
    · exact e_int
    · exact hm
    · rfl
  apply b_nx (st rfl)
  apply b_nx
  · apply x_asg
    apply e_op
    · apply e_idc (e_loc rfl) e_int hm' g2
    · exact e_int
    · exact op_fdv (by decide) b12
  apply b_nx
  · apply x_asg
    apply e_op
    · apply e_call
      · apply l_cons
        · apply e_idc (e_loc rfl) e_int hm' g0
        · apply l_cons
          · apply e_op
            · apply e_idc (e_loc rfl) e_int hm' g1
            · exact e_loc rfl
            · rfl
          · exact l_nil
      · exact hv
    · apply e_op
      · exact e_int
      · exact e_loc rfl
      · exact op_mulL s31
    · rfl
  apply b_rt
  apply x_ret
  apply e_call
  · apply l_cons
    · exact e_loc rfl
    · apply l_cons
      · apply e_op
        · apply e_op
          · apply e_bi
            · apply l_cons
              · apply e_idc (e_loc rfl) e_int hm' g2
              · exact l_nil
            · rfl
          · exact e_int
          · exact op_mod (by decide)
        · exact e_int
        · rfl
      · apply l_cons
        · exact e_loc rfl
        · exact l_nil
  · exact hr
/-- the state of the draws: the script, and how many draws there were -/
def Dst (ns : List Int) (mu : Nat) (q : Nat) (m : List PV) : Prop := m[mu]? = some (.lst [.lst (ns.map .int), .int 0, .int q])
theorem draw_pick (D : DrawAt F c d nu nx pk) (n : Nat) (ns : List Int) (q : Nat) (l : List PV) (hb : 0 < l.length) (m : List PV) (mu : Nat) (hm : m[mu]? = some (.lst [.lst (ns.map .int), .int 0, .int q])) :
    ∃ p ∈ l, callN G F (n + 4) pk [.ref mu, .tup l] m = .ok p (m.set mu (.lst [.lst (ns.map .int), .int 0, .int ((q + 1 : Nat) : Int)])) := by
  obtain ⟨r, r0, r1, hr⟩ := draw_next (G := G) D n ns q (l.length : Int) (by omega) m mu hm
  have hlt : r.toNat < l.length := by omega
  refine ⟨l[r.toNat], List.getElem_mem hlt, ?_⟩
  have hi : idxP (.tup l) (.int r) = some l[r.toNat] := by
    show (pIx l.length r).bind _ = _
    rw [pIx_at r0 r1]
    show l[r.toNat]? = _
    rw [List.getElem?_eq_getElem hlt]
  have hln : bi .len [.tup l] = some (.int (l.length : Int)) := rfl
  apply c_rt D.hp rfl
  apply b_rt
  apply x_ret
  apply e_idx
  · exact e_loc rfl
  · apply e_call
    · apply l_cons
      · exact e_loc rfl
      · apply l_cons
        · apply e_bi
          · apply l_cons
            · exact e_loc rfl
            · exact l_nil
          · exact hln
        · exact l_nil
    · exact hr
  · rfl
  · exact hi
end
end RA.St

namespace RA.St
open RA

/-! k21: tools, menus. -/
def wm : List (List Nat × Nat) := [([], 1),
  ([105, 110, 116], 4),
  ([105, 110, 116, 32, 48], 6),
  ([105, 110, 116, 32, 48, 32, 49], 7),
  ([105, 110, 116, 32, 48, 46, 46, 46], 8),
  ([105, 110, 116, 32, 48, 46, 46, 49, 32, 50], 10),
  ([105, 110, 116, 32, 97, 46, 46, 49], 5),
  ([105, 110, 116, 115, 32, 48, 46, 46, 49], 1),
  ([73, 110, 116, 32, 48, 46, 46, 49], 1),
  ([105, 110, 116, 32, 48, 49, 46, 46, 50], 5),
  ([105, 110, 116, 32, 45, 48, 46, 46, 50], 5),
  ([105, 110, 116, 32, 48, 46, 46, 49, 50, 51, 52, 53, 54, 55, 56, 57, 48], 8),
  ([105, 110, 116, 32, 45, 32, 49, 46, 46, 50], 5),
  ([119, 111, 114, 100, 32, 97, 98, 32, 48, 46, 46, 49], 6),
  ([119, 111, 114, 100, 32, 34, 97, 98, 32, 48, 46, 46, 49], 14),
  ([119, 111, 114, 100, 32, 34, 97, 9, 34, 32, 48, 46, 46, 49], 8),
  ([119, 111, 114, 100, 32, 34, 97, 98, 34, 32, 46, 46, 49], 11),
  ([119, 111, 114, 100, 32, 34, 97, 98, 34, 32, 48], 12),
  ([111, 110, 101], 4),
  ([111, 110, 101, 32, 120], 5),
  ([111, 110, 101, 32, 34, 120, 34], 5),
  ([109, 97, 121, 98, 101], 6),
  ([109, 97, 121, 98, 101, 32, 51], 7),
  ([109, 97, 110, 121, 32, 48, 46, 46, 32], 10),
  ([109, 97, 110, 121, 32, 105, 110, 116, 32, 48, 46, 46, 49], 6),
  ([114, 111, 119, 32, 111, 110, 101, 32, 49], 5),
  ([114, 111, 119, 32, 40, 111, 110, 101, 32, 49], 11),
  ([114, 111, 119, 32, 40, 111, 110, 101, 32, 49, 32, 111, 110, 101, 32, 50, 41], 12),
  ([114, 111, 119, 32, 40, 111, 110, 101, 32, 49, 44, 41], 12),
  ([114, 111, 119, 32, 40, 44, 111, 110, 101, 32, 49, 41], 6),
  ([114, 111, 119, 32, 41], 5),
  ([99, 97, 115, 101, 32, 40, 111, 110, 101, 32, 49, 41, 41], 13),
  ([111, 110, 101, 32, 49, 32, 36], 7),
  ([111, 110, 101, 32, 49, 59], 6),
  ([111, 110, 101, 32, 49, 32, 39, 120, 39], 7),
  ([111, 110, 101, 32, 49, 32, 34], 8),
  ([41], 1),
  ([51], 1),
  ([34, 105, 110, 116, 34], 1),
  ([111, 110, 101, 32, 49, 32, 46, 32], 7)]
def fm : List (List Nat × Nat) := [([], 1),
  ([102, 105, 103, 117, 114, 101, 115], 8),
  ([102, 105, 103, 117, 114, 101, 115, 32, 49, 48], 11),
  ([102, 105, 103, 117, 114, 101, 115, 32, 34, 45, 34, 32, 49, 48], 9),
  ([102, 105, 103, 117, 114, 101, 115, 32, 49, 48, 32, 34, 45, 34, 32, 108, 101, 97, 115, 116], 21),
  ([102, 105, 103, 117, 114, 101, 115, 32, 49, 48, 32, 34, 45, 34, 32, 108, 101, 97, 115, 116, 32, 34, 50, 34], 22),
  ([102, 105, 103, 117, 114, 101, 115, 32, 49, 48, 32, 34, 45, 34, 32, 97, 104, 101, 97, 100, 32, 34, 120, 34, 32, 108, 101, 97, 115, 116, 32, 50], 26),
  ([102, 105, 103, 117, 114, 101, 115, 32, 49, 48, 32, 34, 45, 34, 32, 103, 114, 111, 117, 112, 32, 51], 23),
  ([102, 105, 103, 117, 114, 101, 115, 32, 49, 48, 32, 34, 45, 34, 32, 103, 114, 111, 117, 112, 115, 32, 51, 32, 34, 44, 34], 16),
  ([112, 111, 119, 101, 114, 115, 32, 49, 48, 32, 49, 48], 11),
  ([112, 97, 100, 32, 51, 32, 34, 48, 34, 32, 62, 32, 112, 108, 97, 105, 110], 11),
  ([112, 97, 100, 32, 34, 48, 34, 32, 51, 32, 34, 62, 34, 32, 112, 108, 97, 105, 110], 5),
  ([112, 97, 100, 32, 51, 32, 34, 48, 34, 32, 34, 62, 34], 14),
  ([99, 117, 116, 32, 112, 108, 97, 105, 110], 5),
  ([115, 107, 105, 112, 32, 115, 107, 105, 112], 6),
  ([112, 108, 97, 105, 110, 32, 51], 7),
  ([110, 97, 109, 101, 115, 32, 34, 97, 34], 7),
  ([110, 97, 109, 101, 115, 32, 40, 34, 97, 34, 32, 34, 98, 34, 41], 12),
  ([110, 97, 109, 101, 115, 32, 40, 97, 41], 8),
  ([115, 112, 101, 108, 108, 101, 100, 32, 40, 34, 97, 34, 41], 13),
  ([113, 117, 111, 116, 101, 100, 32, 34, 39, 34], 11),
  ([109, 97, 121, 98, 101, 32, 112, 108, 97, 105, 110], 7),
  ([109, 97, 110, 121, 32, 34, 34, 32, 34, 34, 32, 34, 34, 32, 112, 108, 97, 105, 110], 15),
  ([99, 97, 115, 101, 32, 40, 51, 41], 7),
  ([114, 111, 119, 32, 40, 51, 41], 6),
  ([114, 111, 119, 32, 40, 34, 97, 34, 44, 32, 41], 11),
  ([112, 108, 97, 105, 110, 115], 1),
  ([102, 105, 103, 117, 114, 101, 115, 32, 49, 48, 32, 34, 45, 34, 32, 108, 101, 97, 115, 116, 32, 50, 32, 108, 101, 97, 115, 116, 32, 51], 24),
  ([35, 32, 112, 108, 97, 105, 110], 1),
  ([110, 97, 109, 101, 115, 32, 40, 34, 92, 120, 34, 41], 10),
  ([112, 108, 97, 105, 110, 32, 34, 97, 92], 10),
  ([112, 108, 97, 105, 110, 32, 34, 97, 92, 34], 11)]
abbrev F21 : List Fn := fis.map FI.fn
abbrev CF (n : Nat) := callN gv F21 n
def kS : List Nat := [115, 111, 114, 116]
def kF : List Nat := [102, 111, 114, 109, 97, 116]
def ah (g l : Nat) : List Nat := (List.replicate l [35, 32, 102, 105, 114, 115, 116, 10]).flatten ++ List.replicate g 32
def colF (p : List Nat × Nat) : Nat := if p.1.head? == some 35 then p.1.length + 1 else p.2
/-- an answer, and the first three cells -/
def thr : CR → Option (PV × PV × PV × PV)
  | .ok p (a :: b :: c :: _) => some (p, a, b, c)
  | _ => none
theorem thr_of {r : CR} {p a b c : PV} (h : thr r = some (p, a, b, c)) : ∃ l, r = .ok p (a :: b :: c :: l) := by
  unfold thr at h
  split at h
  · cases h; exact ⟨_, rfl⟩
  · cases h
def plc (k : List Nat) (g l : Nat) (t : List Nat) (X : PV) : Option (PV × PV × PV × PV) := thr (CF 59 15 [.str k, .str (ah g l ++ t)] [.cl 0, .cl 1, X])
def tells (g l c : Nat) (X : PV) : Option (PV × PV × PV × PV) := some (.tup [.int ((l + 1 : Nat) : Int), .int ((g + c : Nat) : Int)], .cl 0, .cl 1, X)
def two (k : List Nat × Nat) : PV := .tup [.str k.1, .int (k.2 : Int)]
/-- the first n statements; the others -/
def tk : Nat → Sms → Sms
  | 0, _ => .nil
  | n + 1, b => (match b with | .cons c r => .cons c (tk n r) | .nil => .nil)
def dr : Nat → Sms → Sms
  | 0, b => b
  | n + 1, b => (match b with | .cons _ r => dr n r | .nil => .nil)
theorem b_split {G : List PV} {cf : Nat → List PV → List PV → CR} : ∀ (n : Nat) (b : Sms) {s s1 : List Sl} {m m1 : List PV} {x : Res Fl}, xss G cf (tk n b) s m = .ok .nx s1 m1 → xss G cf (dr n b) s1 m1 = x → xss G cf b s m = x
  | 0, b, s, s1, m, m1, x, h, h2 => by
    cases b <;> (cases h; exact h2)
  | n + 1, .nil, s, s1, m, m1, x, h, h2 => by cases h; exact h2
  | n + 1, .cons c r, s, s1, m, m1, x, h, h2 => by
    have h : (xs G cf c s m).bnd (fun f s m => (match f with | .nx => xss G cf (tk n r) s m | f => .ok f s m)) = .ok .nx s1 m1 := h
    show (xs G cf c s m).bnd (fun f s m => (match f with | .nx => xss G cf r s m | f => .ok f s m)) = x
    cases e : xs G cf c s m with
    | stk => rw [e] at h; cases h
    | exc e' s' m' => rw [e] at h; cases h
    | ok f s' m' =>
      rw [e] at h
      cases f with
      | nx => exact b_split n r h h2
      | rt p => cases h
      | bk => cases h
      | ct => cases h
/-- it ends with True -/
def EndsT (G : List PV) (cf : Nat → List PV → List PV → CR) (b : Sms) (s : List Sl) (m : List PV) : Prop := ∃ s' m', xss G cf b s m = .ok (.rt (.bl true)) s' m'
theorem E_nx {G : List PV} {cf : Nat → List PV → List PV → CR} {c : Sm} {r : Sms} {s s1 : List Sl} {m m1 : List PV} (h : xs G cf c s m = .ok .nx s1 m1) (hr : EndsT G cf r s1 m1) : EndsT G cf (.cons c r) s m :=
  let ⟨s', m', h'⟩ := hr; ⟨s', m', b_nx h h'⟩
theorem E_sp {G : List PV} {cf : Nat → List PV → List PV → CR} (n : Nat) (b : Sms) {s s1 : List Sl} {m m1 : List PV} (h : xss G cf (tk n b) s m = .ok .nx s1 m1) (hr : EndsT G cf (dr n b) s1 m1) : EndsT G cf b s m :=
  let ⟨s', m', h'⟩ := hr; ⟨s', m', b_split n b h h'⟩
theorem E_rt {G : List PV} {cf : Nat → List PV → List PV → CR} {e : Ex} {r : Sms} {s : List Sl} {m : List PV} (h : ev G cf e s m = .ok (.bl true) s m) : EndsT G cf (.cons (.ret e) r) s m := ⟨_, _, b_rt (x_ret h)⟩
theorem e_cfr {G : List PV} {cf : Nat → List PV → List PV → CR} {s s1 : List Sl} {m m1 m2 : List PV} {f : Nat} {es : Exs} {l : List PV} {p : PV} (ha : evs G cf es s m = .ok l s1 m1) (hc : cf f l m1 = .ok p m2) (hp : plainS s1 = true) (hd : isD p = true) (hb : rbds m1.length (m2.take m1.length) = true) : ev G cf (.cfr f es) s m = .ok p s1 (m2.take m1.length) := by
  show (evs G cf es s m).bnd _ = _
  rw [ha]
  show (match cf f l m1 with | .stk => Res.stk | .ok p m' => if plainS s1 && isD p && rbds m1.length (m'.take m1.length) then .ok p s1 (m'.take m1.length) else .stk | .exc e m' => .exc e s1 m') = _
  rw [hc]
  show (if plainS s1 && isD p && rbds m1.length (m2.take m1.length) then Res.ok p s1 (m2.take m1.length) else .stk) = _
  rw [hp, hd, hb]
  rfl
def cell (ks : List Int) (q : Nat) : PV := .lst [.lst (ks.map .int), .int 0, .int (q : Int)]
theorem rbds_ints (n : Nat) : ∀ ks : List Int, rbds n (ks.map .int) = true
  | [] => rfl
  | k :: ks => by show (true && rbds n (ks.map .int)) = true; rw [rbds_ints n ks]; rfl
theorem rbd_cell (n : Nat) (ks : List Int) (q : Nat) : rbds n [.cl 0, .cl 1, cell ks q] = true := by
  show (true && (true && ((rbds n (ks.map .int) && (true && (true && true))) && true))) = true
  rw [rbds_ints]; rfl
/-- a place that is told, its cells forgotten -/
theorem e_plc {s : List Sl} {ks : List Int} {q : Nat} {es : Exs} {l : List PV} {a b : Int} (ha : evs gv (CF 59) es s [.cl 0, .cl 1, cell ks q] = .ok l s [.cl 0, .cl 1, cell ks q]) (hc : thr (CF 59 15 l [.cl 0, .cl 1, cell ks q]) = some (.tup [.int a, .int b], .cl 0, .cl 1, cell ks q)) (hp : plainS s = true) :
    ev gv (CF 59) (.cfr 15 es) s [.cl 0, .cl 1, cell ks q] = .ok (.tup [.int a, .int b]) s [.cl 0, .cl 1, cell ks q] := by
  obtain ⟨r, hr⟩ := thr_of hc
  exact e_cfr ha hr hp rfl (rbd_cell _ ks q)
theorem eqC_2 (a b : Int) : eqC (.tup [.int a, .int b]) (.tup [.int a, .int b]) = some true := by
  show some (a == a && (b == b && true)) = some true
  rw [beq_self_eq_true, beq_self_eq_true]; rfl
theorem cmp_ne (a b : Int) : cmp .ne (.tup [.int a, .int b]) (.tup [.int a, .int b]) = some false := by
  show Option.map not (eqC (.tup [.int a, .int b]) (.tup [.int a, .int b])) = some false
  rw [eqC_2]; rfl
theorem cmp_eq (a b : Int) : cmp .eq (.tup [.int a, .int b]) (.tup [.int a, .int b]) = some true := eqC_2 a b
theorem draw_pickL {G : List PV} {F : List Fn} {c d nu nx pk : Nat} (D : DrawAt F c d nu nx pk) (n : Nat) (ns : List Int) (q : Nat) (l : List PV) (hb : 0 < l.length) (m : List PV) (mu : Nat) (hm : m[mu]? = some (.lst [.lst (ns.map .int), .int 0, .int q])) :
    ∃ p ∈ l, callN G F (n + 4) pk [.ref mu, .lst l] m = .ok p (m.set mu (.lst [.lst (ns.map .int), .int 0, .int ((q + 1 : Nat) : Int)])) := by
  obtain ⟨r, r0, r1, hr⟩ := draw_next (G := G) D n ns q (l.length : Int) (by omega) m mu hm
  have hlt : r.toNat < l.length := by omega
  refine ⟨l[r.toNat], List.getElem_mem hlt, ?_⟩
  have hi : idxP (.lst l) (.int r) = some l[r.toNat] := by
    show (pIx l.length r).bind _ = _
    rw [pIx_at r0 r1]
    show l[r.toNat]? = _
    rw [List.getElem?_eq_getElem hlt]
  have hln : bi .len [.lst l] = some (.int (l.length : Int)) := rfl
  apply c_rt D.hp rfl
  apply b_rt
  apply x_ret
  apply e_idx
  · exact e_loc rfl
  · apply e_call
    · apply l_cons
      · exact e_loc rfl
      · apply l_cons
        · apply e_bi
          · apply l_cons
            · exact e_loc rfl
            · exact l_nil
          · exact hln
        · exact l_nil
    · exact hr
  · rfl
  · exact hi
theorem drawAt : DrawAt F21 10 11 12 13 14 := ⟨rfl, rfl, rfl, rfl, rfl⟩
end RA.St

namespace RA.St
open RA
theorem tw_0_0 : ∀ X : PV, wm.map (fun p => plc kS 0 0 p.1 X) = wm.map (fun p => tells 0 0 p.2 X) := by
  intro X
  kernel_rfl
theorem tw_1_0 : ∀ X : PV, wm.map (fun p => plc kS 1 0 p.1 X) = wm.map (fun p => tells 1 0 p.2 X) := by
  intro X
  kernel_rfl
theorem tw_2_0 : ∀ X : PV, wm.map (fun p => plc kS 2 0 p.1 X) = wm.map (fun p => tells 2 0 p.2 X) := by
  intro X
  kernel_rfl
theorem tw_3_0 : ∀ X : PV, wm.map (fun p => plc kS 3 0 p.1 X) = wm.map (fun p => tells 3 0 p.2 X) := by
  intro X
  kernel_rfl
end RA.St

namespace RA.St
open RA
theorem tw_0_1 : ∀ X : PV, wm.map (fun p => plc kS 0 1 p.1 X) = wm.map (fun p => tells 0 1 p.2 X) := by
  intro X
  kernel_rfl
theorem tw_1_1 : ∀ X : PV, wm.map (fun p => plc kS 1 1 p.1 X) = wm.map (fun p => tells 1 1 p.2 X) := by
  intro X
  kernel_rfl
theorem tw_2_1 : ∀ X : PV, wm.map (fun p => plc kS 2 1 p.1 X) = wm.map (fun p => tells 2 1 p.2 X) := by
  intro X
  kernel_rfl
theorem tw_3_1 : ∀ X : PV, wm.map (fun p => plc kS 3 1 p.1 X) = wm.map (fun p => tells 3 1 p.2 X) := by
  intro X
  kernel_rfl
end RA.St

namespace RA.St
open RA
theorem tw_0_2 : ∀ X : PV, wm.map (fun p => plc kS 0 2 p.1 X) = wm.map (fun p => tells 0 2 p.2 X) := by
  intro X
  kernel_rfl
theorem tw_1_2 : ∀ X : PV, wm.map (fun p => plc kS 1 2 p.1 X) = wm.map (fun p => tells 1 2 p.2 X) := by
  intro X
  kernel_rfl
theorem tw_2_2 : ∀ X : PV, wm.map (fun p => plc kS 2 2 p.1 X) = wm.map (fun p => tells 2 2 p.2 X) := by
  intro X
  kernel_rfl
theorem tw_3_2 : ∀ X : PV, wm.map (fun p => plc kS 3 2 p.1 X) = wm.map (fun p => tells 3 2 p.2 X) := by
  intro X
  kernel_rfl
end RA.St

namespace RA.St
open RA
theorem tf_0_0 : ∀ X : PV, fm.map (fun p => plc kF 0 0 p.1 X) = fm.map (fun p => tells 0 0 (colF p) X) := by
  intro X
  kernel_rfl
theorem tf_1_0 : ∀ X : PV, fm.map (fun p => plc kF 1 0 p.1 X) = fm.map (fun p => tells 1 0 (colF p) X) := by
  intro X
  kernel_rfl
theorem tf_2_0 : ∀ X : PV, fm.map (fun p => plc kF 2 0 p.1 X) = fm.map (fun p => tells 2 0 (colF p) X) := by
  intro X
  kernel_rfl
theorem tf_3_0 : ∀ X : PV, fm.map (fun p => plc kF 3 0 p.1 X) = fm.map (fun p => tells 3 0 (colF p) X) := by
  intro X
  kernel_rfl
end RA.St

namespace RA.St
open RA
theorem tf_0_1 : ∀ X : PV, fm.map (fun p => plc kF 0 1 p.1 X) = fm.map (fun p => tells 0 1 (colF p) X) := by
  intro X
  kernel_rfl
theorem tf_1_1 : ∀ X : PV, fm.map (fun p => plc kF 1 1 p.1 X) = fm.map (fun p => tells 1 1 (colF p) X) := by
  intro X
  kernel_rfl
theorem tf_2_1 : ∀ X : PV, fm.map (fun p => plc kF 2 1 p.1 X) = fm.map (fun p => tells 2 1 (colF p) X) := by
  intro X
  kernel_rfl
theorem tf_3_1 : ∀ X : PV, fm.map (fun p => plc kF 3 1 p.1 X) = fm.map (fun p => tells 3 1 (colF p) X) := by
  intro X
  kernel_rfl
end RA.St

namespace RA.St
open RA
theorem tf_0_2 : ∀ X : PV, fm.map (fun p => plc kF 0 2 p.1 X) = fm.map (fun p => tells 0 2 (colF p) X) := by
  intro X
  kernel_rfl
theorem tf_1_2 : ∀ X : PV, fm.map (fun p => plc kF 1 2 p.1 X) = fm.map (fun p => tells 1 2 (colF p) X) := by
  intro X
  kernel_rfl
theorem tf_2_2 : ∀ X : PV, fm.map (fun p => plc kF 2 2 p.1 X) = fm.map (fun p => tells 2 2 (colF p) X) := by
  intro X
  kernel_rfl
theorem tf_3_2 : ∀ X : PV, fm.map (fun p => plc kF 3 2 p.1 X) = fm.map (fun p => tells 3 2 (colF p) X) := by
  intro X
  kernel_rfl
end RA.St

namespace RA.St
open RA
/-! k21: the law. -/
theorem fx0 : ∀ X : PV, thr (CF 59 15 [.str [115, 111, 114, 116], .non] [.cl 0, .cl 1, X]) = some (.tup [.int 0, .int 0], .cl 0, .cl 1, X) := by
  intro X
  kernel_rfl
theorem fx1 : ∀ X : PV, thr (CF 59 15 [.str [102, 111, 114, 109, 97, 116], (.int 3)] [.cl 0, .cl 1, X]) = some (.tup [.int 0, .int 0], .cl 0, .cl 1, X) := by
  intro X
  kernel_rfl
theorem fx2 : ∀ X : PV, thr (CF 59 15 [.str [115, 111, 114, 116], (.str [111, 110, 101, 32, 49, 10, 10, 32, 120])] [.cl 0, .cl 1, X]) = some (.tup [.int 3, .int 2], .cl 0, .cl 1, X) := by
  intro X
  kernel_rfl
theorem fx3 : ∀ X : PV, thr (CF 59 15 [.str [115, 111, 114, 116], (.str [114, 111, 119, 32, 40, 10, 111, 110, 101, 32, 49, 10])] [.cl 0, .cl 1, X]) = some (.tup [.int 3, .int 1], .cl 0, .cl 1, X) := by
  intro X
  kernel_rfl
theorem fx4 : ∀ X : PV, thr (CF 59 15 [.str [115, 111, 114, 116], (.str [126, 32, 111, 110, 101])] [.cl 0, .cl 1, X]) = some (.tup [.int 1, .int 1], .cl 0, .cl 1, X) := by
  intro X
  kernel_rfl
theorem map_at {α β : Type} {f g : α → β} : ∀ {l : List α}, l.map f = l.map g → ∀ a ∈ l, f a = g a := fun h a ha => List.map_inj_left.mp h a ha
/-- the law behind the first two draws -/
theorem tail21 (g l : Nat) (hw : ∀ X : PV, wm.map (fun p => plc kS g l p.1 X) = wm.map (fun p => tells g l p.2 X)) (hf : ∀ X : PV, fm.map (fun p => plc kF g l p.1 X) = fm.map (fun p => tells g l (colF p) X))
    (h3 : ∀ (A : Sl) (m : List PV), xss gv (CF 59) (tk 4 (dr 2 b_law)) [A, .va (.ref 2), .va (.str (List.replicate g 32)), .va (.int (l : Int)), .un, .un, .un, .un, .un] m = .ok .nx [A, .va (.ref 2), .va (.str (List.replicate g 32)), .va (.int (l : Int)), .va (.str (ah g l)), .va (.lst (wm.map two)), .un, .un, .un] m)
    (h6 : ∀ (A : Sl) (t c : PV) (m : List PV), xss gv (CF 59) (tk 3 (dr 8 b_law)) [A, .va (.ref 2), .va (.str (List.replicate g 32)), .va (.int (l : Int)), .va (.str (ah g l)), .va (.lst (wm.map two)), .va t, .va c, .un] m = .ok .nx [A, .va (.ref 2), .va (.str (List.replicate g 32)), .va (.int (l : Int)), .va (.str (ah g l)), .va (.lst (wm.map two)), .va t, .va c, .va (.lst (fm.map two))] m)
    (hz : ∀ p ∈ wm ++ fm, (ah g l).length + p.1.length ≤ SZ) (ns ks : List Int) :
    ∃ s' m', xss gv (CF 59) (dr 2 b_law) [.va (.fro ns), .va (.ref 2), .va (.str (List.replicate g 32)), .va (.int (l : Int)), .un, .un, .un, .un, .un] [.cl 0, .cl 1, cell ks 2] = .ok (.rt (.bl true)) s' m' := by
  obtain ⟨v1, hv1, hp1⟩ := draw_pickL (G := gv) drawAt 55 ks 2 (wm.map two) (by decide +kernel) [.cl 0, .cl 1, cell ks 2] 2 rfl
  obtain ⟨⟨t1, c1⟩, hm1, rfl⟩ := List.mem_map.mp hv1
  obtain ⟨v2, hv2, hp2⟩ := draw_pickL (G := gv) drawAt 55 ks 3 (fm.map two) (by decide +kernel) [.cl 0, .cl 1, cell ks 3] 2 rfl
  obtain ⟨⟨t2, c2⟩, hm2, rfl⟩ := List.mem_map.mp hv2
  have q1 := map_at (hw (cell ks 3)) (t1, c1) hm1
  have q2 := map_at (hf (cell ks 4)) (t2, c2) hm2
  have z1 : (ah g l).length + t1.length ≤ SZ := hz (t1, c1) (List.mem_append_left _ hm1)
  have z2 : (ah g l).length + t2.length ≤ SZ := hz (t2, c2) (List.mem_append_right _ hm2)
  have o1 : op2 .add (.str (ah g l)) (.str t1) = some (.str (ah g l ++ t1)) := if_pos z1
  have o2 : op2 .add (.str (ah g l)) (.str t2) = some (.str (ah g l ++ t2)) := if_pos z2
  have lg : bi .len [.str (List.replicate g 32)] = some (.int (g : Int)) := by
    show some (PV.int ((List.replicate g 32).length : Int)) = _
    rw [List.length_replicate]
  have tl : ∀ (s : List Sl) (e : Ex) (x : Int), s[2]? = some (.va (.str (List.replicate g 32))) → s[3]? = some (.va (.int (l : Int))) → (∀ m, ev gv (CF 59) e s m = .ok (.int x) s m) → ∀ m, ev gv (CF 59) (.tup (.cons (.op .add (.loc 3) (.int 1)) (.cons (.op .add (.bi .len (.cons (.loc 2) .nil)) e) .nil))) s m = .ok (.tup [.int ((l : Int) + 1), .int ((g : Int) + x)]) s m := fun s e x h2 h3 he m =>
    e_tup (l_cons (e_op (e_loc h3) e_int rfl) (l_cons (e_op (e_bi (l_cons (e_loc h2) l_nil) lg) (he m) rfl) l_nil))
  have col : ∀ (A B : Sl), ∃ s3, xss gv (CF 59) (tk 1 (dr 12 b_law)) [A, .va (.ref 2), .va (.str (List.replicate g 32)), .va (.int (l : Int)), .va (.str (ah g l)), B, .va (.str t2), .va (.int (c2 : Int)), .va (.lst (fm.map two))] [.cl 0, .cl 1, cell ks 4] = .ok .nx [A, .va (.ref 2), .va (.str (List.replicate g 32)), .va (.int (l : Int)), .va (.str (ah g l)), B, .va (.str t2), s3, .va (.lst (fm.map two))] [.cl 0, .cl 1, cell ks 4] ∧ s3 = .va (.int (colF (t2, c2) : Int)) := by
    intro A B
    have hq : sliP (.str t2) none (some 1) = some (.str (t2.take 1)) := by
      show some (PV.str (cut t2 none (some 1))) = _
      unfold cut sIx
      cases t2 with
      | nil => rfl
      | cons a r => rfl
    have hc : cmp .eq (.str (t2.take 1)) (.str [35]) = some (t2.head? == some 35) := by
      show eqC _ _ = _
      cases t2 with
      | nil => rfl
      | cons a r =>
        show some ([a] == [35]) = some (some a == some 35)
        by_cases e : a = 35
        · subst e; rfl
        · have x1 : ([a] == [35]) = false := by simp [e]
          have x2 : (some a == some 35) = false := by simp [e]
          rw [x1, x2]
    cases hb : (t2.head? == some 35) with
    | true =>
      have e1 : colF (t2, c2) = t2.length + 1 := by unfold colF; rw [hb]; rfl
      refine ⟨_, ?_, rfl⟩
      rw [e1]
      refine b_nx (x_ift (t_v' (e_cmp (e_sli (e_loc rfl) o_no (o_so e_int) hq) e_str (by rw [hc, hb]))) (b_nx (x_asg (x := .int ((t2.length : Int) + 1)) (e_op (e_bi (l_cons (e_loc rfl) l_nil) rfl) e_int rfl)) b_nil)) ?_
      exact b_nil
    | false =>
      have e1 : colF (t2, c2) = c2 := by unfold colF; rw [hb]; rfl
      refine ⟨_, ?_, rfl⟩
      rw [e1]
      exact b_nx (x_iff (t_v' (e_cmp (e_sli (e_loc rfl) o_no (o_so e_int) hq) e_str (by rw [hc, hb]))) b_nil) b_nil
  obtain ⟨s3, hcol, rfl⟩ := col (.va (.fro ns)) (.va (.lst (wm.map two)))
  show EndsT gv (CF 59) (dr 2 b_law) _ _
  refine E_sp 4 (dr 2 b_law) (h3 _ _) ?_
  refine E_nx (x_ast (e_call (l_cons (e_loc rfl) (l_cons (e_loc rfl) l_nil)) hp1) rfl) ?_
  refine E_nx (x_iff (t_v' (e_cmp (e_plc (l_cons e_str (l_cons (e_op (e_loc rfl) (e_loc rfl) o1) l_nil)) q1 rfl) (tl _ _ (c1 : Int) rfl rfl (fun m => e_loc rfl) _) (cmp_ne _ _))) b_nil) ?_
  refine E_sp 3 (dr 8 b_law) (h6 _ _ _ _) ?_
  refine E_nx (x_ast (e_call (l_cons (e_loc rfl) (l_cons (e_loc rfl) l_nil)) hp2) rfl) ?_
  refine E_sp 1 (dr 12 b_law) hcol ?_
  refine E_nx (x_iff (t_v' (e_cmp (e_plc (l_cons e_str (l_cons (e_op (e_loc rfl) (e_loc rfl) o2) l_nil)) q2 rfl) (tl _ _ (colF (t2, c2) : Int) rfl rfl (fun m => e_loc rfl) _) (cmp_ne _ _))) b_nil) ?_
  refine E_rt ?_
  refine e_and (e_cmp (e_plc (l_cons e_str (l_cons e_non l_nil)) (fx0 _) rfl) (e_tup (l_cons e_int (l_cons e_int l_nil))) (cmp_eq _ _)) ?_
  refine e_and (e_cmp (e_plc (l_cons e_str (l_cons e_int l_nil)) (fx1 _) rfl) (e_tup (l_cons e_int (l_cons e_int l_nil))) (cmp_eq _ _)) ?_
  refine e_and (e_cmp (e_plc (l_cons e_str (l_cons e_str l_nil)) (fx2 _) rfl) (e_tup (l_cons e_int (l_cons e_int l_nil))) (cmp_eq _ _)) ?_
  refine e_and (e_cmp (e_plc (l_cons e_str (l_cons e_str l_nil)) (fx3 _) rfl) (e_tup (l_cons e_int (l_cons e_int l_nil))) (cmp_eq _ _)) ?_
  exact e_cmp (e_plc (l_cons e_str (l_cons e_str l_nil)) (fx4 _) rfl) (e_tup (l_cons e_int (l_cons e_int l_nil))) (cmp_eq _ _)
theorem tail_0_0 (ns ks : List Int) : ∃ s' m', xss gv (CF 59) (dr 2 b_law) [.va (.fro ns), .va (.ref 2), .va (.str (List.replicate 0 32)), .va (.int 0), .un, .un, .un, .un, .un] [.cl 0, .cl 1, cell ks 2] = .ok (.rt (.bl true)) s' m' :=
  tail21 0 0 tw_0_0 tf_0_0 (by intro A m; kernel_rfl) (by intro A t c m; kernel_rfl) (by decide +kernel) ns ks
theorem tail_0_1 (ns ks : List Int) : ∃ s' m', xss gv (CF 59) (dr 2 b_law) [.va (.fro ns), .va (.ref 2), .va (.str (List.replicate 0 32)), .va (.int 1), .un, .un, .un, .un, .un] [.cl 0, .cl 1, cell ks 2] = .ok (.rt (.bl true)) s' m' :=
  tail21 0 1 tw_0_1 tf_0_1 (by intro A m; kernel_rfl) (by intro A t c m; kernel_rfl) (by decide +kernel) ns ks
theorem tail_0_2 (ns ks : List Int) : ∃ s' m', xss gv (CF 59) (dr 2 b_law) [.va (.fro ns), .va (.ref 2), .va (.str (List.replicate 0 32)), .va (.int 2), .un, .un, .un, .un, .un] [.cl 0, .cl 1, cell ks 2] = .ok (.rt (.bl true)) s' m' :=
  tail21 0 2 tw_0_2 tf_0_2 (by intro A m; kernel_rfl) (by intro A t c m; kernel_rfl) (by decide +kernel) ns ks
theorem tail_1_0 (ns ks : List Int) : ∃ s' m', xss gv (CF 59) (dr 2 b_law) [.va (.fro ns), .va (.ref 2), .va (.str (List.replicate 1 32)), .va (.int 0), .un, .un, .un, .un, .un] [.cl 0, .cl 1, cell ks 2] = .ok (.rt (.bl true)) s' m' :=
  tail21 1 0 tw_1_0 tf_1_0 (by intro A m; kernel_rfl) (by intro A t c m; kernel_rfl) (by decide +kernel) ns ks
theorem tail_1_1 (ns ks : List Int) : ∃ s' m', xss gv (CF 59) (dr 2 b_law) [.va (.fro ns), .va (.ref 2), .va (.str (List.replicate 1 32)), .va (.int 1), .un, .un, .un, .un, .un] [.cl 0, .cl 1, cell ks 2] = .ok (.rt (.bl true)) s' m' :=
  tail21 1 1 tw_1_1 tf_1_1 (by intro A m; kernel_rfl) (by intro A t c m; kernel_rfl) (by decide +kernel) ns ks
theorem tail_1_2 (ns ks : List Int) : ∃ s' m', xss gv (CF 59) (dr 2 b_law) [.va (.fro ns), .va (.ref 2), .va (.str (List.replicate 1 32)), .va (.int 2), .un, .un, .un, .un, .un] [.cl 0, .cl 1, cell ks 2] = .ok (.rt (.bl true)) s' m' :=
  tail21 1 2 tw_1_2 tf_1_2 (by intro A m; kernel_rfl) (by intro A t c m; kernel_rfl) (by decide +kernel) ns ks
theorem tail_2_0 (ns ks : List Int) : ∃ s' m', xss gv (CF 59) (dr 2 b_law) [.va (.fro ns), .va (.ref 2), .va (.str (List.replicate 2 32)), .va (.int 0), .un, .un, .un, .un, .un] [.cl 0, .cl 1, cell ks 2] = .ok (.rt (.bl true)) s' m' :=
  tail21 2 0 tw_2_0 tf_2_0 (by intro A m; kernel_rfl) (by intro A t c m; kernel_rfl) (by decide +kernel) ns ks
theorem tail_2_1 (ns ks : List Int) : ∃ s' m', xss gv (CF 59) (dr 2 b_law) [.va (.fro ns), .va (.ref 2), .va (.str (List.replicate 2 32)), .va (.int 1), .un, .un, .un, .un, .un] [.cl 0, .cl 1, cell ks 2] = .ok (.rt (.bl true)) s' m' :=
  tail21 2 1 tw_2_1 tf_2_1 (by intro A m; kernel_rfl) (by intro A t c m; kernel_rfl) (by decide +kernel) ns ks
theorem tail_2_2 (ns ks : List Int) : ∃ s' m', xss gv (CF 59) (dr 2 b_law) [.va (.fro ns), .va (.ref 2), .va (.str (List.replicate 2 32)), .va (.int 2), .un, .un, .un, .un, .un] [.cl 0, .cl 1, cell ks 2] = .ok (.rt (.bl true)) s' m' :=
  tail21 2 2 tw_2_2 tf_2_2 (by intro A m; kernel_rfl) (by intro A t c m; kernel_rfl) (by decide +kernel) ns ks
theorem tail_3_0 (ns ks : List Int) : ∃ s' m', xss gv (CF 59) (dr 2 b_law) [.va (.fro ns), .va (.ref 2), .va (.str (List.replicate 3 32)), .va (.int 0), .un, .un, .un, .un, .un] [.cl 0, .cl 1, cell ks 2] = .ok (.rt (.bl true)) s' m' :=
  tail21 3 0 tw_3_0 tf_3_0 (by intro A m; kernel_rfl) (by intro A t c m; kernel_rfl) (by decide +kernel) ns ks
theorem tail_3_1 (ns ks : List Int) : ∃ s' m', xss gv (CF 59) (dr 2 b_law) [.va (.fro ns), .va (.ref 2), .va (.str (List.replicate 3 32)), .va (.int 1), .un, .un, .un, .un, .un] [.cl 0, .cl 1, cell ks 2] = .ok (.rt (.bl true)) s' m' :=
  tail21 3 1 tw_3_1 tf_3_1 (by intro A m; kernel_rfl) (by intro A t c m; kernel_rfl) (by decide +kernel) ns ks
theorem tail_3_2 (ns ks : List Int) : ∃ s' m', xss gv (CF 59) (dr 2 b_law) [.va (.fro ns), .va (.ref 2), .va (.str (List.replicate 3 32)), .va (.int 2), .un, .un, .un, .un, .un] [.cl 0, .cl 1, cell ks 2] = .ok (.rt (.bl true)) s' m' :=
  tail21 3 2 tw_3_2 tf_3_2 (by intro A m; kernel_rfl) (by intro A t c m; kernel_rfl) (by decide +kernel) ns ks
theorem law_true21 (ns : List Int) : ∃ m, CF 60 16 [.fro ns] [.cl 0, .cl 1] = .ok (.bl true) m := by
  let ks := cut ns none (some 63)
  obtain ⟨r0, a0, b0, hr0⟩ := draw_next (G := gv) drawAt 56 ks 0 4 (by decide) [.cl 0, .cl 1, cell ks 0] 2 rfl
  obtain ⟨r1, a1, b1, hr1⟩ := draw_next (G := gv) drawAt 56 ks 1 3 (by decide) [.cl 0, .cl 1, cell ks 1] 2 rfl
  have main : ∃ s' m', xss gv (CF 59) b_law [.va (.fro ns), .un, .un, .un, .un, .un, .un, .un, .un] [.cl 0, .cl 1] = .ok (.rt (.bl true)) s' m' := by
    have start : ∀ (z : PV), op2 .mul (.str [32]) (.int r0) = some z → (∃ s' m', xss gv (CF 59) (dr 2 b_law) [.va (.fro ns), .va (.ref 2), .va z, .va (.int r1), .un, .un, .un, .un, .un] [.cl 0, .cl 1, cell ks 2] = .ok (.rt (.bl true)) s' m') → ∃ s' m', xss gv (CF 59) b_law [.va (.fro ns), .un, .un, .un, .un, .un, .un, .un, .un] [.cl 0, .cl 1] = .ok (.rt (.bl true)) s' m' := by
      intro z hz h
      show EndsT gv (CF 59) b_law _ _
      refine E_nx (x_cell (l_cons (e_sli (e_loc rfl) o_no (o_so e_int) rfl) (l_cons e_int (l_cons e_int l_nil)))) ?_
      refine E_nx (x_par (e_op e_str (e_call (l_cons (e_loc rfl) (l_cons e_int l_nil)) hr0) hz) (e_call (l_cons (e_loc rfl) (l_cons e_int l_nil)) hr1)) ?_
      exact h
    have i0 : r0 = 0 ∨ r0 = 1 ∨ r0 = 2 ∨ r0 = 3 := by omega
    have i1 : r1 = 0 ∨ r1 = 1 ∨ r1 = 2 := by omega
    rcases i0 with e | e | e | e <;> rcases i1 with e' | e' | e' <;> subst e e'
    · exact start _ (by kernel_rfl) (tail_0_0 ns ks)
    · exact start _ (by kernel_rfl) (tail_0_1 ns ks)
    · exact start _ (by kernel_rfl) (tail_0_2 ns ks)
    · exact start _ (by kernel_rfl) (tail_1_0 ns ks)
    · exact start _ (by kernel_rfl) (tail_1_1 ns ks)
    · exact start _ (by kernel_rfl) (tail_1_2 ns ks)
    · exact start _ (by kernel_rfl) (tail_2_0 ns ks)
    · exact start _ (by kernel_rfl) (tail_2_1 ns ks)
    · exact start _ (by kernel_rfl) (tail_2_2 ns ks)
    · exact start _ (by kernel_rfl) (tail_3_0 ns ks)
    · exact start _ (by kernel_rfl) (tail_3_1 ns ks)
    · exact start _ (by kernel_rfl) (tail_3_2 ns ks)
  obtain ⟨s', m', h⟩ := main
  exact ⟨m', c_rt (fn := ⟨1, 9, b_law⟩) rfl rfl h⟩
end RA.St

namespace RA
theorem law_true (ns : List Int) (_ : ns.length ≤ 63) : ∃ m, callN gv (fis.map FI.fn) 60 16 [.fro ns] (tcs (lkL fis).length) = .ok (.bl true) m := by
  have e : (lkL fis).length = 2 := by decide +kernel
  rw [e]
  exact St.law_true21 ns
end RA

namespace RA
open PySem L2
abbrev PP : Program := PySem.W.OpenLaw.prog PySem.Challenge.rw_readagain_k21_wrong_sources
def ro0 : List PySem.Str := [("check_format" : PySem.Str), ("check_sort" : PySem.Str), ("end_of" : PySem.Str), ("quoted_at" : PySem.Str), ("number_at" : PySem.Str), ("piece_at" : PySem.Str), ("pieces_of" : PySem.Str), ("read_whole" : PySem.Str), ("read_sort" : PySem.Str), ("read_format" : PySem.Str), ("_law_cell_at" : PySem.Str), ("_law_draw" : PySem.Str), ("_law_number" : PySem.Str), ("_law_next" : PySem.Str), ("_law_pick" : PySem.Str), ("_law_place" : PySem.Str), ("law" : PySem.Str), ("Piece" : PySem.Str), ("SourceReader" : PySem.Str), ("BadSource" : PySem.Str), ("SIGNS" : PySem.Str), ("LETTERS" : PySem.Str), ("FIGURES_sources" : PySem.Str), ("MARKS" : PySem.Str), ("MOST_FIGURES" : PySem.Str)]
def md : Md := ⟨PP, fis, tx, gv, [true, true], [("BadSource", "BadSource.__init__", ["line", "column"])], ro0, [("BadSource", fv "__init__" "BadSource.__init__" (inn 4 0) ["__class__"])]⟩
def nm0 : List PySem.Str := [("__name__" : PySem.Str), ("FormatError" : PySem.Str), ("BadSort" : PySem.Str), ("BadFormat" : PySem.Str), ("BadSource" : PySem.Str), ("SIGNS" : PySem.Str), ("FIGURES_words" : PySem.Str), ("is_whole" : PySem.Str), ("is_from" : PySem.Str), ("is_text" : PySem.Str), ("is_sign" : PySem.Str), ("is_row" : PySem.Str), ("are_rising" : PySem.Str), ("MOST_BASE" : PySem.Str), ("MOST_POWER_BASE" : PySem.Str), ("MOST_LEAST_formats" : PySem.Str), ("MOST_SHORT" : PySem.Str), ("MOST_TEXT" : PySem.Str), ("MOST_WIDTH" : PySem.Str), ("MOST_IN_ROW" : PySem.Str), ("MOST_DEEP_formats" : PySem.Str), ("MOST_FORMATS" : PySem.Str), ("WRITTEN" : PySem.Str), ("SIDES" : PySem.Str), ("MOST_MODULUS" : PySem.Str), ("is_figures" : PySem.Str), ("is_powers" : PySem.Str), ("is_spelled" : PySem.Str), ("is_quoted" : PySem.Str), ("is_around" : PySem.Str), ("is_row_told" : PySem.Str), ("is_many_told" : PySem.Str), ("is_told" : PySem.Str), ("is_told_formats" : PySem.Str), ("within" : PySem.Str), ("within_formats" : PySem.Str), ("count_of" : PySem.Str), ("count_of_formats" : PySem.Str), ("is_format" : PySem.Str), ("check_format" : PySem.Str)]
def nm1 : List PySem.Str := [("MOST_INT" : PySem.Str), ("MOST_SIGNS" : PySem.Str), ("MOST_LEAST_sorts" : PySem.Str), ("MOST_LONG" : PySem.Str), ("MOST_NAMES" : PySem.Str), ("MOST_PARTS" : PySem.Str), ("MOST_DEEP_sorts" : PySem.Str), ("MOST_SORTS" : PySem.Str), ("is_bound" : PySem.Str), ("are_sizes" : PySem.Str), ("within_sorts" : PySem.Str), ("is_told_sorts" : PySem.Str), ("count_of_sorts" : PySem.Str), ("is_sort" : PySem.Str), ("check_sort" : PySem.Str), ("LETTERS" : PySem.Str), ("FIGURES_sources" : PySem.Str), ("MARKS" : PySem.Str), ("MOST_FIGURES" : PySem.Str), ("Piece" : PySem.Str), ("end_of" : PySem.Str), ("quoted_at" : PySem.Str), ("number_at" : PySem.Str), ("piece_at" : PySem.Str), ("pieces_of" : PySem.Str), ("SourceReader" : PySem.Str), ("read_whole" : PySem.Str), ("read_sort" : PySem.Str), ("read_format" : PySem.Str), ("_law_cell_at" : PySem.Str), ("_law_draw" : PySem.Str), ("_law_number" : PySem.Str), ("_law_next" : PySem.Str), ("_law_pick" : PySem.Str), ("_law_place" : PySem.Str)]
def nms : List PySem.Str := nm0 ++ nm1
set_option maxHeartbeats 8000000 in
theorem pg5 {w : World} {K : PySem.W.Frag} {h : Heap} {mg : Str → Option Value} (X : K.In h) (G : h.Ns mainGlobals mg) (D : PgD md K) : PgOk PP w K mg (ctb PP w fis tx K) (ccl PP w fis tx K) gv fis tx := by
  have bltH : ∀ y ∈ bNames, mg y = none := fun x hx => He.free_ok X G (D.bns x hx)
  have gl : ∀ (c : Nat) x ks, tx.xcn[c]? = some (x, ks) → He.Fa.ok K (.glo x) = true := fun c x ks h => match c, x, ks, h with
    | 0, x, ks, h => by cases h; exact xglo (D.xcs 0 _ rfl)
    | c + 1, x, ks, h => by simp [tx] at h
  exact {
  hK := rfl
  pr := rfl
  wl := rfl
  xs := rfl
  nx := rfl
  fns := fun f I hI hl => match f, I, hI, hl with
    | 0, I, h, hl => by
      cases h
      exact fok_5 (I := f_check_format) X G rfl (D.fis 0 _ rfl rfl).1 (D.fis 0 _ rfl rfl).2 rfl fun _ _ _ _ _ _ us hl => match us, hl with | [_, _], _ => rfl
    | 1, I, h, hl => by
      cases h
      exact fok_5 (I := f_check_sort) X G rfl (D.fis 1 _ rfl rfl).1 (D.fis 1 _ rfl rfl).2 rfl fun _ _ _ _ _ _ us hl => match us, hl with | [_], _ => rfl
    | 2, I, h, hl => by
      cases h
      exact fok_5 (I := f_end_of) X G rfl (D.fis 2 _ rfl rfl).1 (D.fis 2 _ rfl rfl).2 rfl fun _ _ _ _ _ _ us hl => match us, hl with | [_, _, _], _ => rfl
    | 3, I, h, hl => by
      cases h
      exact fok_5 (I := f_quoted_at) X G rfl (D.fis 3 _ rfl rfl).1 (D.fis 3 _ rfl rfl).2 rfl fun _ _ _ _ _ _ us hl => match us, hl with | [_, _, _], _ => rfl
    | 4, I, h, hl => by
      cases h
      exact fok_5 (I := f_number_at) X G rfl (D.fis 4 _ rfl rfl).1 (D.fis 4 _ rfl rfl).2 rfl fun _ _ _ _ _ _ us hl => match us, hl with | [_, _, _, _], _ => rfl
    | 5, I, h, hl => by
      cases h
      exact fok_5 (I := f_piece_at) X G rfl (D.fis 5 _ rfl rfl).1 (D.fis 5 _ rfl rfl).2 rfl fun _ _ _ _ _ _ us hl => match us, hl with | [_, _, _, _], _ => rfl
    | 6, I, h, hl => by
      cases h
      exact fok_5 (I := f_pieces_of) X G rfl (D.fis 6 _ rfl rfl).1 (D.fis 6 _ rfl rfl).2 rfl fun _ _ _ _ _ _ us hl => match us, hl with | [_, _], _ => rfl
    | 7, I, h, hl => by
      cases h
      exact fok_5d (I := f_read_whole) X G rfl (D.fis 7 _ rfl rfl).1 (D.fis 7 _ rfl rfl).2 (by decide) rfl (fun _ _ _ _ _ _ _ us its hl hi => match us, hl, its, hi with | [u0, u1, u2], _, [d0], _ => ⟨_, rfl, rfl⟩) (fun _ _ _ _ _ _ _ us its hl hi => match us, hl, its, hi with | [u0, u1], _, [d0], _ => ⟨_, rfl, rfl⟩)
    | 8, I, h, hl => by
      cases h
      exact fok_5 (I := f_read_sort) X G rfl (D.fis 8 _ rfl rfl).1 (D.fis 8 _ rfl rfl).2 rfl fun _ _ _ _ _ _ us hl => match us, hl with | [_], _ => rfl
    | 9, I, h, hl => by
      cases h
      exact fok_5 (I := f_read_format) X G rfl (D.fis 9 _ rfl rfl).1 (D.fis 9 _ rfl rfl).2 rfl fun _ _ _ _ _ _ us hl => match us, hl with | [_, _], _ => rfl
    | 10, I, h, hl => by
      cases h
      exact fok_5 (I := f__law_cell_at) X G rfl (D.fis 10 _ rfl rfl).1 (D.fis 10 _ rfl rfl).2 rfl fun _ _ _ _ _ _ us hl => match us, hl with | [_, _], _ => rfl
    | 11, I, h, hl => by
      cases h
      exact fok_5 (I := f__law_draw) X G rfl (D.fis 11 _ rfl rfl).1 (D.fis 11 _ rfl rfl).2 rfl fun _ _ _ _ _ _ us hl => match us, hl with | [_, _, _], _ => rfl
    | 12, I, h, hl => by
      cases h
      exact fok_5 (I := f__law_number) X G rfl (D.fis 12 _ rfl rfl).1 (D.fis 12 _ rfl rfl).2 rfl fun _ _ _ _ _ _ us hl => match us, hl with | [_, _, _], _ => rfl
    | 13, I, h, hl => by
      cases h
      exact fok_5 (I := f__law_next) X G rfl (D.fis 13 _ rfl rfl).1 (D.fis 13 _ rfl rfl).2 rfl fun _ _ _ _ _ _ us hl => match us, hl with | [_, _], _ => rfl
    | 14, I, h, hl => by
      cases h
      exact fok_5 (I := f__law_pick) X G rfl (D.fis 14 _ rfl rfl).1 (D.fis 14 _ rfl rfl).2 rfl fun _ _ _ _ _ _ us hl => match us, hl with | [_, _], _ => rfl
    | 15, I, h, hl => by
      cases h
      exact fok_5 (I := f__law_place) X G rfl (D.fis 15 _ rfl rfl).1 (D.fis 15 _ rfl rfl).2 rfl fun _ _ _ _ _ _ us hl => match us, hl with | [_, _], _ => rfl
    | 16, I, h, hl => by
      cases h
      exact fok_5 (I := f_law) X G rfl (D.fis 16 _ rfl rfl).1 (D.fis 16 _ rfl rfl).2 rfl fun _ _ _ _ _ _ us hl => match us, hl with | [_], _ => rfl
    | 17, I, h, hl => by
      cases h
      exact fok_5 (I := f_Piece_init) X G rfl (D.fis 17 _ rfl rfl).1 (D.fis 17 _ rfl rfl).2 rfl fun _ _ _ _ _ _ us hl => match us, hl with | [_, _, _, _, _], _ => rfl
    | 18, I, h, hl => by
      cases h
      exact fok_5d (I := f_SourceReader_init) X G rfl (D.fis 18 _ rfl rfl).1 (D.fis 18 _ rfl rfl).2 (by decide) rfl (fun _ _ _ _ _ _ _ us its hl hi => match us, hl, its, hi with | [u0, u1, u2], _, [d0], _ => ⟨_, rfl, rfl⟩) (fun _ _ _ _ _ _ _ us its hl hi => match us, hl, its, hi with | [u0, u1], _, [d0], _ => ⟨_, rfl, rfl⟩)
    | 19, I, h, hl => by
      cases h
      exact fok_5 (I := f_SourceReader_is_next) X G rfl (D.fis 19 _ rfl rfl).1 (D.fis 19 _ rfl rfl).2 rfl fun _ _ _ _ _ _ us hl => match us, hl with | [_, _, _], _ => rfl
    | 20, I, h, hl => by
      cases h
      exact fok_5 (I := f_SourceReader_wrong) X G rfl (D.fis 20 _ rfl rfl).1 (D.fis 20 _ rfl rfl).2 rfl fun _ _ _ _ _ _ us hl => match us, hl with | [_], _ => rfl
    | 21, I, h, hl => by
      cases h
      exact fok_5 (I := f_SourceReader_take) X G rfl (D.fis 21 _ rfl rfl).1 (D.fis 21 _ rfl rfl).2 rfl fun _ _ _ _ _ _ us hl => match us, hl with | [_, _], _ => rfl
    | 22, I, h, hl => by
      cases h
      exact fok_5 (I := f_SourceReader_taken) X G rfl (D.fis 22 _ rfl rfl).1 (D.fis 22 _ rfl rfl).2 rfl fun _ _ _ _ _ _ us hl => match us, hl with | [_, _, _], _ => rfl
    | 23, I, h, hl => by
      cases h
      exact fok_5 (I := f_SourceReader_want) X G rfl (D.fis 23 _ rfl rfl).1 (D.fis 23 _ rfl rfl).2 rfl fun _ _ _ _ _ _ us hl => match us, hl with | [_, _, _], _ => rfl
    | 24, I, h, hl => by
      cases h
      exact fok_5 (I := f_SourceReader_rows) X G rfl (D.fis 24 _ rfl rfl).1 (D.fis 24 _ rfl rfl).2 rfl fun _ _ _ _ _ _ us hl => match us, hl with | [_, _], _ => rfl
    | 25, I, h, hl => by
      cases h
      exact fok_5 (I := f_SourceReader_span) X G rfl (D.fis 25 _ rfl rfl).1 (D.fis 25 _ rfl rfl).2 rfl fun _ _ _ _ _ _ us hl => match us, hl with | [_], _ => rfl
    | 26, I, h, hl => by
      cases h
      exact fok_5 (I := f_SourceReader_sizes) X G rfl (D.fis 26 _ rfl rfl).1 (D.fis 26 _ rfl rfl).2 rfl fun _ _ _ _ _ _ us hl => match us, hl with | [_], _ => rfl
    | 27, I, h, hl => by
      cases h
      exact fok_5 (I := f_SourceReader_next_sort) X G rfl (D.fis 27 _ rfl rfl).1 (D.fis 27 _ rfl rfl).2 rfl fun _ _ _ _ _ _ us hl => match us, hl with | [_], _ => rfl
    | 28, I, h, hl => by
      cases h
      exact fok_5 (I := f_SourceReader_next_form) X G rfl (D.fis 28 _ rfl rfl).1 (D.fis 28 _ rfl rfl).2 rfl fun _ _ _ _ _ _ us hl => match us, hl with | [_], _ => rfl
    | 29, I, h, hl => by
      cases h
      exact fok_5 (I := f_SourceReader_text) X G rfl (D.fis 29 _ rfl rfl).1 (D.fis 29 _ rfl rfl).2 rfl fun _ _ _ _ _ _ us hl => match us, hl with | [_], _ => rfl
    | 30, I, h, hl => by
      cases h
      exact fok_5 (I := f_SourceReader_pair) X G rfl (D.fis 30 _ rfl rfl).1 (D.fis 30 _ rfl rfl).2 rfl fun _ _ _ _ _ _ us hl => match us, hl with | [_], _ => rfl
    | 31, I, h, hl => by
      cases h
      exact fok_5 (I := f_SourceReader_part) X G rfl (D.fis 31 _ rfl rfl).1 (D.fis 31 _ rfl rfl).2 rfl fun _ _ _ _ _ _ us hl => match us, hl with | [_], _ => rfl
    | 32, I, h, hl => by
      cases h
      exact fok_5 (I := f_SourceReader_numbered) X G rfl (D.fis 32 _ rfl rfl).1 (D.fis 32 _ rfl rfl).2 rfl fun _ _ _ _ _ _ us hl => match us, hl with | [_, _], _ => rfl
    | 33, I, h, hl => by
      cases h
      exact fok_5 (I := f_SourceReader_numbers) X G rfl (D.fis 33 _ rfl rfl).1 (D.fis 33 _ rfl rfl).2 rfl fun _ _ _ _ _ _ us hl => match us, hl with | [_, _], _ => rfl
    | 34, I, h, hl => by
      cases h
      cases hl
    | 35, I, h, hl => by
      cases h
      cases hl
    | f + 36, I, h, hl => by simp [fis] at h
  fa := fun f a h => fa_in chk_all h
  lm := fun f ld => Iff.rfl
  tbs := fun f I a fd k hI O ha hk => tb_5 D.tbs hI (lk_5 (by decide +kernel) hI hk) O ha
  bms := fun f I c n hI hm hb => match f, I, hI with
    | 0, I, h => by cases h; cases hm
    | 1, I, h => by cases h; cases hm
    | 2, I, h => by cases h; cases hm
    | 3, I, h => by cases h; cases hm
    | 4, I, h => by cases h; cases hm
    | 5, I, h => by cases h; cases hm
    | 6, I, h => by cases h; cases hm
    | 7, I, h => by cases h; cases hm
    | 8, I, h => by cases h; cases hm
    | 9, I, h => by cases h; cases hm
    | 10, I, h => by cases h; cases hm
    | 11, I, h => by cases h; cases hm
    | 12, I, h => by cases h; cases hm
    | 13, I, h => by cases h; cases hm
    | 14, I, h => by cases h; cases hm
    | 15, I, h => by cases h; cases hm
    | 16, I, h => by cases h; cases hm
    | 17, I, h => by
      cases h
      cases hm
      first
        | (exact absurd hb (by decide +kernel))
        | exact bm_5 (x := "Piece") D.tbs rfl rfl hb rfl (D.fis 17 _ rfl rfl).1 (D.cls 0 "Piece" true ["kind", "thing", "line", "column"] rfl rfl rfl)
    | 18, I, h => by
      cases h
      cases hm
      first
        | (exact absurd hb (by decide +kernel))
        | exact bm_5 (x := "SourceReader") D.tbs rfl rfl hb rfl (D.fis 18 _ rfl rfl).1 (D.cls 1 "SourceReader" true ["pieces", "at"] rfl rfl rfl)
    | 19, I, h => by
      cases h
      cases hm
      first
        | (exact absurd hb (by decide +kernel))
        | exact bm_5 (x := "SourceReader") D.tbs rfl rfl hb rfl (D.fis 19 _ rfl rfl).1 (D.cls 1 "SourceReader" true ["pieces", "at"] rfl rfl rfl)
    | 20, I, h => by
      cases h
      cases hm
      first
        | (exact absurd hb (by decide +kernel))
        | exact bm_5 (x := "SourceReader") D.tbs rfl rfl hb rfl (D.fis 20 _ rfl rfl).1 (D.cls 1 "SourceReader" true ["pieces", "at"] rfl rfl rfl)
    | 21, I, h => by
      cases h
      cases hm
      first
        | (exact absurd hb (by decide +kernel))
        | exact bm_5 (x := "SourceReader") D.tbs rfl rfl hb rfl (D.fis 21 _ rfl rfl).1 (D.cls 1 "SourceReader" true ["pieces", "at"] rfl rfl rfl)
    | 22, I, h => by
      cases h
      cases hm
      first
        | (exact absurd hb (by decide +kernel))
        | exact bm_5 (x := "SourceReader") D.tbs rfl rfl hb rfl (D.fis 22 _ rfl rfl).1 (D.cls 1 "SourceReader" true ["pieces", "at"] rfl rfl rfl)
    | 23, I, h => by
      cases h
      cases hm
      first
        | (exact absurd hb (by decide +kernel))
        | exact bm_5 (x := "SourceReader") D.tbs rfl rfl hb rfl (D.fis 23 _ rfl rfl).1 (D.cls 1 "SourceReader" true ["pieces", "at"] rfl rfl rfl)
    | 24, I, h => by
      cases h
      cases hm
      first
        | (exact absurd hb (by decide +kernel))
        | exact bm_5 (x := "SourceReader") D.tbs rfl rfl hb rfl (D.fis 24 _ rfl rfl).1 (D.cls 1 "SourceReader" true ["pieces", "at"] rfl rfl rfl)
    | 25, I, h => by
      cases h
      cases hm
      first
        | (exact absurd hb (by decide +kernel))
        | exact bm_5 (x := "SourceReader") D.tbs rfl rfl hb rfl (D.fis 25 _ rfl rfl).1 (D.cls 1 "SourceReader" true ["pieces", "at"] rfl rfl rfl)
    | 26, I, h => by
      cases h
      cases hm
      first
        | (exact absurd hb (by decide +kernel))
        | exact bm_5 (x := "SourceReader") D.tbs rfl rfl hb rfl (D.fis 26 _ rfl rfl).1 (D.cls 1 "SourceReader" true ["pieces", "at"] rfl rfl rfl)
    | 27, I, h => by
      cases h
      cases hm
      first
        | (exact absurd hb (by decide +kernel))
        | exact bm_5 (x := "SourceReader") D.tbs rfl rfl hb rfl (D.fis 27 _ rfl rfl).1 (D.cls 1 "SourceReader" true ["pieces", "at"] rfl rfl rfl)
    | 28, I, h => by
      cases h
      cases hm
      first
        | (exact absurd hb (by decide +kernel))
        | exact bm_5 (x := "SourceReader") D.tbs rfl rfl hb rfl (D.fis 28 _ rfl rfl).1 (D.cls 1 "SourceReader" true ["pieces", "at"] rfl rfl rfl)
    | 29, I, h => by
      cases h
      cases hm
      first
        | (exact absurd hb (by decide +kernel))
        | exact bm_5 (x := "SourceReader") D.tbs rfl rfl hb rfl (D.fis 29 _ rfl rfl).1 (D.cls 1 "SourceReader" true ["pieces", "at"] rfl rfl rfl)
    | 30, I, h => by
      cases h
      cases hm
      first
        | (exact absurd hb (by decide +kernel))
        | exact bm_5 (x := "SourceReader") D.tbs rfl rfl hb rfl (D.fis 30 _ rfl rfl).1 (D.cls 1 "SourceReader" true ["pieces", "at"] rfl rfl rfl)
    | 31, I, h => by
      cases h
      cases hm
      first
        | (exact absurd hb (by decide +kernel))
        | exact bm_5 (x := "SourceReader") D.tbs rfl rfl hb rfl (D.fis 31 _ rfl rfl).1 (D.cls 1 "SourceReader" true ["pieces", "at"] rfl rfl rfl)
    | 32, I, h => by
      cases h
      cases hm
      first
        | (exact absurd hb (by decide +kernel))
        | exact bm_5 (x := "SourceReader") D.tbs rfl rfl hb rfl (D.fis 32 _ rfl rfl).1 (D.cls 1 "SourceReader" true ["pieces", "at"] rfl rfl rfl)
    | 33, I, h => by
      cases h
      cases hm
      first
        | (exact absurd hb (by decide +kernel))
        | exact bm_5 (x := "SourceReader") D.tbs rfl rfl hb rfl (D.fis 33 _ rfl rfl).1 (D.cls 1 "SourceReader" true ["pieces", "at"] rfl rfl rfl)
    | 34, I, h => by cases h; cases hm
    | 35, I, h => by cases h; cases hm
    | f + 36, I, h => by simp [fis] at h
  bf := fun f a hb ha => bf_5 D.tbs (fun j I hj hl => (D.fis j I hj hl).1) chk_all f a hb ha
  sc := sc_all
  chk := chk_all
  chkH := chkH_all
  glob := fun g x hx => gv_ok rfl X G gn gv D.gvs g x hx
  mts := fun f I c n hI hm => match f, I, hI with
    | 0, I, h => by cases h; cases hm
    | 1, I, h => by cases h; cases hm
    | 2, I, h => by cases h; cases hm
    | 3, I, h => by cases h; cases hm
    | 4, I, h => by cases h; cases hm
    | 5, I, h => by cases h; cases hm
    | 6, I, h => by cases h; cases hm
    | 7, I, h => by cases h; cases hm
    | 8, I, h => by cases h; cases hm
    | 9, I, h => by cases h; cases hm
    | 10, I, h => by cases h; cases hm
    | 11, I, h => by cases h; cases hm
    | 12, I, h => by cases h; cases hm
    | 13, I, h => by cases h; cases hm
    | 14, I, h => by cases h; cases hm
    | 15, I, h => by cases h; cases hm
    | 16, I, h => by cases h; cases hm
    | 17, I, h => by
      cases h
      cases hm
      exact mt_5 (x := "Piece") rfl rfl rfl (D.fis 17 _ rfl rfl).1 (D.cls 0 "Piece" true ["kind", "thing", "line", "column"] rfl rfl rfl) (fun _ => rfl)
    | 18, I, h => by
      cases h
      cases hm
      exact mt_5 (x := "SourceReader") rfl rfl rfl (D.fis 18 _ rfl rfl).1 (D.cls 1 "SourceReader" true ["pieces", "at"] rfl rfl rfl) (fun _ => rfl)
    | 19, I, h => by
      cases h
      cases hm
      exact mt_5 (x := "SourceReader") rfl rfl rfl (D.fis 19 _ rfl rfl).1 (D.cls 1 "SourceReader" true ["pieces", "at"] rfl rfl rfl) (fun _ => rfl)
    | 20, I, h => by
      cases h
      cases hm
      exact mt_5 (x := "SourceReader") rfl rfl rfl (D.fis 20 _ rfl rfl).1 (D.cls 1 "SourceReader" true ["pieces", "at"] rfl rfl rfl) (fun _ => rfl)
    | 21, I, h => by
      cases h
      cases hm
      exact mt_5 (x := "SourceReader") rfl rfl rfl (D.fis 21 _ rfl rfl).1 (D.cls 1 "SourceReader" true ["pieces", "at"] rfl rfl rfl) (fun _ => rfl)
    | 22, I, h => by
      cases h
      cases hm
      exact mt_5 (x := "SourceReader") rfl rfl rfl (D.fis 22 _ rfl rfl).1 (D.cls 1 "SourceReader" true ["pieces", "at"] rfl rfl rfl) (fun _ => rfl)
    | 23, I, h => by
      cases h
      cases hm
      exact mt_5 (x := "SourceReader") rfl rfl rfl (D.fis 23 _ rfl rfl).1 (D.cls 1 "SourceReader" true ["pieces", "at"] rfl rfl rfl) (fun _ => rfl)
    | 24, I, h => by
      cases h
      cases hm
      exact mt_5 (x := "SourceReader") rfl rfl rfl (D.fis 24 _ rfl rfl).1 (D.cls 1 "SourceReader" true ["pieces", "at"] rfl rfl rfl) (fun _ => rfl)
    | 25, I, h => by
      cases h
      cases hm
      exact mt_5 (x := "SourceReader") rfl rfl rfl (D.fis 25 _ rfl rfl).1 (D.cls 1 "SourceReader" true ["pieces", "at"] rfl rfl rfl) (fun _ => rfl)
    | 26, I, h => by
      cases h
      cases hm
      exact mt_5 (x := "SourceReader") rfl rfl rfl (D.fis 26 _ rfl rfl).1 (D.cls 1 "SourceReader" true ["pieces", "at"] rfl rfl rfl) (fun _ => rfl)
    | 27, I, h => by
      cases h
      cases hm
      exact mt_5 (x := "SourceReader") rfl rfl rfl (D.fis 27 _ rfl rfl).1 (D.cls 1 "SourceReader" true ["pieces", "at"] rfl rfl rfl) (fun _ => rfl)
    | 28, I, h => by
      cases h
      cases hm
      exact mt_5 (x := "SourceReader") rfl rfl rfl (D.fis 28 _ rfl rfl).1 (D.cls 1 "SourceReader" true ["pieces", "at"] rfl rfl rfl) (fun _ => rfl)
    | 29, I, h => by
      cases h
      cases hm
      exact mt_5 (x := "SourceReader") rfl rfl rfl (D.fis 29 _ rfl rfl).1 (D.cls 1 "SourceReader" true ["pieces", "at"] rfl rfl rfl) (fun _ => rfl)
    | 30, I, h => by
      cases h
      cases hm
      exact mt_5 (x := "SourceReader") rfl rfl rfl (D.fis 30 _ rfl rfl).1 (D.cls 1 "SourceReader" true ["pieces", "at"] rfl rfl rfl) (fun _ => rfl)
    | 31, I, h => by
      cases h
      cases hm
      exact mt_5 (x := "SourceReader") rfl rfl rfl (D.fis 31 _ rfl rfl).1 (D.cls 1 "SourceReader" true ["pieces", "at"] rfl rfl rfl) (fun _ => rfl)
    | 32, I, h => by
      cases h
      cases hm
      exact mt_5 (x := "SourceReader") rfl rfl rfl (D.fis 32 _ rfl rfl).1 (D.cls 1 "SourceReader" true ["pieces", "at"] rfl rfl rfl) (fun _ => rfl)
    | 33, I, h => by
      cases h
      cases hm
      exact mt_5 (x := "SourceReader") rfl rfl rfl (D.fis 33 _ rfl rfl).1 (D.cls 1 "SourceReader" true ["pieces", "at"] rfl rfl rfl) (fun _ => rfl)
    | 34, I, h => by cases h; cases hm
    | 35, I, h => by cases h; cases hm
    | f + 36, I, h => by simp [fis] at h
  cls := fun c x h => match c, x, h with
      | 0, x, h => by
        cases h
        exact cg_5 X G rfl (D.cls 0 "Piece" true ["kind", "thing", "line", "column"] rfl rfl rfl)
      | 1, x, h => by
        cases h
        exact cg_5 X G rfl (D.cls 1 "SourceReader" true ["pieces", "at"] rfl rfl rfl)
      | c + 2, x, h => by simp [tx] at h
  atr := fun c ns h => match c, ns, h with
      | 0, ns, h => by
        cases h
        exact at_5 (x := "Piece") rfl rfl (D.cls 0 "Piece" true ["kind", "thing", "line", "column"] rfl rfl rfl) (by decide) (by decide)
      | 1, ns, h => by
        cases h
        exact at_5 (x := "SourceReader") rfl rfl (D.cls 1 "SourceReader" true ["pieces", "at"] rfl rfl rfl) (by decide) (by decide)
      | c + 2, ns, h => by simp [tx] at h
  nom := fun I h c n hm => by
    simp only [fis, List.mem_cons, List.not_mem_nil, or_false] at h
    rcases h with rfl | rfl | rfl | rfl | rfl | rfl | rfl | rfl | rfl | rfl | rfl | rfl | rfl | rfl | rfl | rfl | rfl | rfl | rfl | rfl | rfl | rfl | rfl | rfl | rfl | rfl | rfl | rfl | rfl | rfl | rfl | rfl | rfl | rfl | rfl | rfl
    all_goals first
      | (cases hm; done)
      | (cases hm; show ("__init__" : Str) ∉ (tx.atn[0]?).getD []; decide)
      | (cases hm; show ("__init__" : Str) ∉ (tx.atn[1]?).getD []; decide)
      | (cases hm; show ("is_next" : Str) ∉ (tx.atn[1]?).getD []; decide)
      | (cases hm; show ("wrong" : Str) ∉ (tx.atn[1]?).getD []; decide)
      | (cases hm; show ("take" : Str) ∉ (tx.atn[1]?).getD []; decide)
      | (cases hm; show ("taken" : Str) ∉ (tx.atn[1]?).getD []; decide)
      | (cases hm; show ("want" : Str) ∉ (tx.atn[1]?).getD []; decide)
      | (cases hm; show ("rows" : Str) ∉ (tx.atn[1]?).getD []; decide)
      | (cases hm; show ("span" : Str) ∉ (tx.atn[1]?).getD []; decide)
      | (cases hm; show ("sizes" : Str) ∉ (tx.atn[1]?).getD []; decide)
      | (cases hm; show ("next_sort" : Str) ∉ (tx.atn[1]?).getD []; decide)
      | (cases hm; show ("next_form" : Str) ∉ (tx.atn[1]?).getD []; decide)
      | (cases hm; show ("text" : Str) ∉ (tx.atn[1]?).getD []; decide)
      | (cases hm; show ("pair" : Str) ∉ (tx.atn[1]?).getD []; decide)
      | (cases hm; show ("part" : Str) ∉ (tx.atn[1]?).getD []; decide)
      | (cases hm; show ("numbered" : Str) ∉ (tx.atn[1]?).getD []; decide)
      | (cases hm; show ("numbers" : Str) ∉ (tx.atn[1]?).getD []; decide)
  xcs := fun c x ks h => by
    have key : ∀ (c : Nat) x ks, tx.xcn[c]? = some (x, ks) → XcAt PP w K mg (ctb PP w fis tx K) (ccl PP w fis tx K) c x ks := fun c x ks h => match c, x, ks, h with
      | 0, x, ks, h => by
        cases h
        have hx : (ctb PP w fis tx K).xca 0 = He.ga K "BadSource" := xa_5 (ks := [true, true]) rfl (gl 0 _ _ rfl)
        exact xc_5 (st := inn 4 0) (sup := sup0) (L := [("line", 1), ("column", 2)]) (N := ["self", "line", "column"]) (ps := ["self", "line", "column"]) X G rfl bltH (D.xcs 0 _ rfl) (D.xas (by intro h; cases h)) (D.xfs 0 _ rfl) rfl
          ⟨rfl, rfl, rfl, by decide +kernel, rfl, by decide +kernel, by decide +kernel, by decide +kernel, rfl, rfl⟩ rfl rfl rfl rfl rfl rfl rfl (by simp) (by decide) (by decide +kernel)
          (fun _ _ _ _ _ _ _ _ _ => ⟨_, _, rfl, ⟨"line", _, _, _, _, rfl, rfl, .inl rfl, by decide, by decide⟩, ⟨_, _, rfl, ⟨"column", _, _, _, _, rfl, rfl, .inl rfl, by decide, by decide⟩, rfl⟩⟩) (by decide +kernel) (fun us h => sup_line (by decide) (by decide) h) (fun _ => rfl) (fun _ _ => rfl) _ (fun _ => rfl)
          (fun _ _ _ _ _ _ _ us hl => match us, hl with | [_, _, _], _ => rfl) hx (congrArg Value.ref hx)
      | c + 1, x, ks, h => by simp [tx] at h
    exact key c x ks h
  exm := fun c c' h1 h2 => em_5 D.ems gl c c' h1 h2
  xfl := fun c ns h => by
    show (tx.xfl[c]?).getD [] = ns
    rw [h]; rfl
  icl := fun k y tb h => ic_5 D.ics X G gl k y tb h
  blt := bltH }
theorem bind_law {K : PySem.W.Frag} {mg : Str → Option Value} (s : Shared) (v : Value) {a : Addr} (fd : FuncData) (F : FOk K mg a fd f_law) {h : Heap} (X : K.In h) (G : h.Ns mainGlobals mg) (D : PgD md K) : BindsTo s fd ⟨[v], []⟩ [("script", v)] := by
  obtain ⟨h1, h2, h3, oc', od', sl', dV', kV', dc', pm', an', cd', ct', lk', lc', hdf'⟩ := fi_5 (I := f_law) (D.fis 16 _ rfl rfl).1 (D.fis 16 _ rfl rfl).2 X G
  obtain ⟨oc, od, dV, kV, doc, pm, an, cdv, ct, osl, hfd, hlk, hcd⟩ := F.F.ex
  have e1 := h2 "law" rfl
  have e2 := F.m "law" rfl
  rw [e1] at e2
  have e3 : pathI md.tx f_law K = a := Value.ref.inj (Option.some.inj e2)
  rw [e3, hlk] at lk'
  have e4 := congrArg Obj.data (Option.some.inj lk')
  have e5 := congrArg FuncData.defaults (Data.func.inj e4)
  have e6 : fd.defaults = dV' := e5
  rw [hfd] at e6
  have e7 : dV = dV' := e6
  have e8 : dV' = .none := dfB_nil hdf'
  subst hfd
  rw [e7, e8]
  exact .of_eq rfl
abbrev RO : PySem.W.OpenRow := PySem.W.OpenLaw.row PySem.Challenge.rw_readagain_k21_wrong_sources
set_option maxHeartbeats 0 in
theorem run5 (w : World) : HandSHeadRun.RunEq RO (PySem.W.view RO.prog [83]) md.hk md.ob 9000 nms w := by
  intro os
  kernel_rfl
theorem walk5 {q : Program} {loose : List Str} {XP : (Str → Option Value) → Heap → Prop} {d : DefRec} (hdf : d.params.defaults = []) (hdn : d.name = "law") : PySem.W.WalkO q loose XP md.hk.says (PySem.W.OpenLaw.row PySem.Challenge.rw_readagain_k21_wrong_sources).toRowW d [] (fun f vs => PySem.call f vs) := by
  refine law_walkT (Is := fis) (tx := tx) (gv := gv) (n := 16) (I := f_law) (l := PySem.Challenge.rw_readagain_k21_wrong_sources) rfl rfl rfl rfl hdf hdn (fun w mg fa h Y G hmg => ?_) rfl law_true
  obtain ⟨K, KX, c, E⟩ := Y
  have D := Md.says c
  obtain ⟨t1, t2, t3, t4⟩ := tp_5 (P := PP) (wl := w) KX D.tbs E
  exact ⟨K, KX, pg5 KX G D, t1, t2, t3, t4, fun s v {a} fd F => bind_law s v fd F KX G D⟩
end RA
open PySem PySem.W PySem.Calls PyProof.Rows
set_option maxHeartbeats 0 in
theorem PySem.Challenge.cw_readagain_k21_wrong_sources_holds : PySem.Challenge.rw_readagain_k21_wrong_sources.Holds := by
  w_on; o_law
  refine HandSHeadRun.head_any (r := OpenLaw.row PySem.Challenge.rw_readagain_k21_wrong_sources) (q := view (OpenLaw.row PySem.Challenge.rw_readagain_k21_wrong_sources).prog [83]) (H := RA.md.hk) (ob := RA.md.ob) (M := 9000) (loose := RA.nms) (d := HandSHeadRun.topDef (OpenLaw.row PySem.Challenge.rw_readagain_k21_wrong_sources).prog 83) (kwd := []) RA.md.ob_eq
    (by kernel_rfl) (fun s => by kernel_rfl) RA.run5 (by kernel_rfl) (by kernel_rfl) (by kernel_rfl) (by rfl) (by first | assumption | decide +kernel) (by decide +kernel) ⟨rfl, rfl, rfl, rfl, rfl, by decide +kernel⟩ ?hw ?hc
  case hw => w_witness2
  case hc => exact RA.walk5 (by kernel_rfl) (by kernel_rfl)

