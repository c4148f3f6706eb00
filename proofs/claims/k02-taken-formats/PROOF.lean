import PyProof.Rows.All
import Wide.All
import OpenK.AllK
import Wide.FinOn
import PySem.Challenge.RW_readagain_k02_taken_formats
import HandS.TupAny
import HandS.Conv
import HandS.TupMul
import HandS.Iter
import HandS.Zip
import KE.GoesEnum
import PySem.Syntax
import HandS.ForMost
import HandS.ForExc
import HandS.ExcInit
import HandS.Wide
import HandS.Walk
import HandS.Flow
import HandS.Style
import HandS.Codes
import HandS.StrMore
import KE.DataEq
import KE.DataIsa
import PyProof.Rows.StrMul
import HandS.ExcCtx
import HandS.Hot
import HandS.HotCalls
import HandS.NestedHot
import HandS.Comp
import HandS.List
import HandS.SuiteRaise
import PyProof.ListRange
import HandS.CallSlots
import HandS.TryMany
import HandS.ExcField
import KE.KExcIs
import HandS.Replace
import PyProof.ListStr
import PyProof.SumAny
import PyProof.StrLawsChain
import PyProof.ListOps
import HandS.Dict
import KE.KDictPairs
import KE.KRevSl
import HandS.CallLocal
import HandS.Star
import HandS.Words
import PyProof.RulesMatch
import HandS.TryOnly
import HandS.WordsExc
import KE.KExcSuper
import PyProof.TableCode
import KE.RegKIsAll
import KE.RegKSuper
import HandS.ExcIs
set_option autoImplicit false
set_option Elab.async false
set_option linter.all false
set_option maxRecDepth 100000
set_option maxHeartbeats 4000000
/-! Tuples that are made here: frozen, with a plain object. -/
namespace RA
open PySem PySem.Spec PyProof.Rows L2
/-- a plain tuple's object -/
def TPl (o : Obj) : Prop := o.dict = none ∧ o.cls = .type "tuple"
def newTup (us : List Value) : Obj := { cls := .type "tuple", data := .seq us.toArray }
theorem newTup_pl (us : List Value) : TPl (newTup us) := ⟨rfl, rfl⟩
/-- a new tuple at the heap's end -/
theorem newTup_ok {prog : Program} {w : World} {H : Hp} {h : Heap} {xs : List V} {us : List Value} (hz : xs.length ≤ sizeLine) (r : Vals xs us) : ObjOk prog w H (h.push (newTup us)) h.objs.size (.frz (newTup us) (.tup xs)) :=
  ⟨Heap.get?_push_size _ rfl, hz, us, r, IsTup.new _ _⟩
section
variable {X : Cx} {es : List Expr} {t : TA} {pos : Pos}
def tTupP (t : TA) : TE := fun σ H Q => t σ H fun xs H1 => xs.length ≤ sizeLine ∧ ∀ p O, H1 p = none → TPl O → Q (.ref p) (upd H1 p (.frz O (.tup xs)))
theorem pe_tupP {x1} (h : PA X es t) : PE X (.Tuple es x1 pos) (tTupP t) := by
  refine ⟨fun pins s σ H Q I hq => ?_⟩
  refine wpAny_Tuple_spliced (thn (h.run _ pins s σ H _ I hq) fun us s1 ⟨xs, H1, I1, r, z, q⟩ => ⟨by rw [← r.length]; exact z, ?_⟩)
  have hf : H1 s1.heap.objs.size = none := I1.hok.fresh (Nat.le_refl _)
  exact ⟨.ref s1.heap.objs.size, upd H1 s1.heap.objs.size (.frz (newTup us) (.tup xs)), I1.laid (t' := s1.toks) (fun b u e => Heap.get?_push_of_some _ e) (Nat.le_refl _) (newTup_ok z r), rfl, q _ _ hf (newTup_pl us)⟩
def rCatP (K : PySem.W.Frag) : R2 := fun x y H Q => ∃ a b xs ys, x = .ref a ∧ y = .ref b ∧ SqT K H a xs ∧ SqT K H b ys ∧ xs.length + ys.length ≤ sizeLine ∧
  (xs = [] → Q (.ref b) H) ∧ (xs ≠ [] → ys = [] → Q (.ref a) H) ∧ (xs ≠ [] → ys ≠ [] → ∀ p O, H p = none → TPl O → Q (.ref p) (upd H p (.frz O (.tup (xs ++ ys)))))
theorem op_catP : OpR X (binaryOp .Add) (rCatP X.K) := by
  intro pins s σ H x y v u Q I rx ry h
  obtain ⟨a, b, xs, ys, rfl, rfl, ha, hb, hz, q0, q1, q2⟩ := h
  by_cases hx : xs = []
  · subst hx
    cases rx
    cases ry
    obtain ⟨its, r1, p1, _⟩ := I.tuple ha
    obtain ⟨its2, r2, p2, _⟩ := I.tuple hb
    cases r1
    exact cat_tup0 p1 p2 ⟨.ref b, H, I, rfl, q0 rfl⟩
  · cases rx
    cases ry
    obtain ⟨its, r1, p1, _⟩ := I.tuple ha
    obtain ⟨its2, r2, p2, _⟩ := I.tuple hb
    refine HT.cat_tup p1 p2 (fun z => hx (r1.nil_iff.mp z)) (fun z => ⟨.ref a, H, I, rfl, q1 hx (r2.nil_iff.mp z)⟩) (fun z => ?_) (by rw [← r1.length, ← r2.length]; exact hz)
    refine ⟨.ref s.heap.objs.size, _, I.laid (t' := s.toks) (o := .frz (newTup (its ++ its2)) (.tup (xs ++ ys))) (fun b ob q => Heap.get?_push_of_some _ q) (Nat.le_refl _) ?_, rfl, q2 hx (fun w => z (r2.nil_iff.mpr w)) _ _ (I.hok.fresh (Nat.le_refl _)) (newTup_pl _)⟩
    exact newTup_ok (by rw [List.length_append]; exact hz) (r1.append r2)
def rSlP' (K : PySem.W.Frag) : V → Option Int → Option Int → Hp → VK → Prop := fun x lo hi H Q => ∃ a xs, x = .ref a ∧ SqT K H a xs ∧
  (HT.sIx xs.length 0 lo = 0 ∧ HT.sIx xs.length xs.length hi = xs.length → Q (.ref a) H) ∧ (¬ (HT.sIx xs.length 0 lo = 0 ∧ HT.sIx xs.length xs.length hi = xs.length) → ∀ p O, H p = none → TPl O → Q (.ref p) (upd H p (.frz O (.tup (cutV xs lo hi)))))
theorem sl_tupP : SlR X (rSlP' X.K) := by
  intro pins s σ H x v vl vu lo hi sl Q I rx hs pl pu h
  obtain ⟨a, xs, rfl, hx, q1, q2⟩ := h
  cases rx
  obtain ⟨its, r, ht, hz⟩ := I.tuple hx
  have hlen : its.toArray.size = xs.length := by rw [List.size_toArray]; exact r.length.symm
  refine ⟨"tuple", _, PyProof.Rows.slot_tuple_getitem.lookup, ht.typeIs, ?_⟩
  by_cases hw : HT.sIx xs.length 0 lo = 0 ∧ HT.sIx xs.length xs.length hi = xs.length
  · exact getItem_tuple_whole ht hs pl pu (by rw [hlen]; exact hw) ⟨.ref a, H, I, rfl, q1 hw⟩
  · refine HT.getItem_tuple_cut ht hs pl pu (by rw [hlen]; exact hw) ?_ (by rw [hlen]; exact hz)
    rw [hlen]
    refine ⟨.ref s.heap.objs.size, _, I.laid (t' := s.toks) (o := .frz (newTup ((its.drop (HT.sIx xs.length 0 lo)).take (HT.sIx xs.length xs.length hi - HT.sIx xs.length 0 lo))) (.tup (cutV xs lo hi))) (fun b ob q => Heap.get?_push_of_some _ q) (Nat.le_refl _) ?_, rfl, q2 hw _ _ (I.hok.fresh (Nat.le_refl _)) (newTup_pl _)⟩
    exact newTup_ok (Nat.le_trans (cutV_length xs lo hi) hz) ((r.drop (HT.sIx xs.length 0 lo)).take (HT.sIx xs.length xs.length hi - HT.sIx xs.length 0 lo))
theorem call_tupleP : CallR X (.type "tuple") (fun xs H Q => ∃ p ys, xs = [.ref p] ∧ ((SqL X.K H p ys ∧ ∀ l O, H l = none → TPl O → Q (.ref l) (upd H l (.frz O (.tup ys)))) ∨ (SqT X.K H p ys ∧ Q (.ref p) H))) := by
  intro pins s σ H xs us Q I r h
  obtain ⟨p, ys, rfl, h⟩ := h
  obtain ⟨u, rfl, rx⟩ := vals1 r
  cases rx
  rcases h with ⟨hq, q⟩ | ⟨hq, q⟩
  · obtain ⟨its, r', pl, hz⟩ := I.list hq
    have hlen := r'.length
    refine call_tuple_list pl.isList (fun h' kp => ?_) (by simp only [List.size_toArray] <;> omega)
    have I1 : Inv X pins σ H { s with heap := h' } := I.kept (t' := s.toks) kp
    exact ⟨.ref h'.objs.size, _, I1.laid (t' := s.toks) (o := .frz (newTup its) (.tup ys)) (fun b o e => Heap.get?_push_of_some _ e) (Nat.le_refl _) (newTup_ok hz r'), rfl, q _ _ (I1.hok.fresh (Nat.le_refl _)) (newTup_pl _)⟩
  · obtain ⟨its, r', pl, hz⟩ := I.tuple hq
    exact call_tuple_same pl ⟨.ref p, H, I, rfl, q⟩
def rRepP (K : PySem.W.Frag) : R2 := fun x y H Q => ∃ l k xs, x = .ref l ∧ y = .int k ∧ SqT K H l xs ∧ xs ≠ [] ∧ 2 ≤ k ∧ k ≤ 1000 ∧ xs.length ≤ 1000 ∧ ∀ p O, H p = none → TPl O → Q (.ref p) (upd H p (.frz O (.tup (List.replicate k.toNat xs).flatten)))
theorem op_repP : OpR X (binaryOp .Mult) (rRepP X.K) := by
  intro pins s σ H x y v u Q I rx ry h
  obtain ⟨l, k, xs, rfl, rfl, hT, hne, h1, h2, hz, q⟩ := h
  cases rx
  obtain ⟨t, rfl⟩ := ry
  obtain ⟨its, r, ⟨⟨cls, dd, data, sl⟩, ho, hc, n, hd⟩, hs⟩ := I.tuple hT
  simp only at hc hd
  subst hc hd
  have hle : its.length = xs.length := r.length.symm
  have hn : its ≠ [] := fun e => hne (by
    rw [e] at hle
    exact List.eq_nil_of_length_eq_zero hle.symm)
  have hi : its.toArray.isEmpty = false := by
    cases its with
    | nil => exact absurd rfl hn
    | cons a b => rfl
  have hsz0 : its.toArray.size = xs.length := by rw [List.size_toArray, hle]
  have hm : ((its.toArray.size : Nat) : Int) * k ≤ 1000000 := by
    rw [hsz0]
    have a1 : ((xs.length : Nat) : Int) * k ≤ 1000 * k := Int.mul_le_mul_of_nonneg_right (by omega) (by omega)
    omega
  have flen : (List.replicate k.toNat its).flatten.length ≤ sizeLine := by
    rw [PyProof.Rows.lm_len_rep_flat, hle, sizeLine_eq]
    have a1 : k.toNat * xs.length ≤ 1000 * 1000 := Nat.mul_le_mul (by omega) hz
    omega
  have c0 : (decide (k < -(2 ^ 63)) || decide (k ≥ 2 ^ 63)) = false := by
    rw [decide_eq_false (by omega), decide_eq_false (by omega)] <;> rfl
  have c1 : (its.toArray.isEmpty || k == 1) = false := by
    rw [hi, Bool.false_or]
    exact beq_eq_false_iff_ne.mpr (by omega)
  have c2 : (decide (k ≤ 0) || its.toArray.isEmpty) = false := by
    rw [hi, Bool.or_false]
    exact decide_eq_false (by omega)
  have c4 : Builtin.Tuple.tupleTooMany (((its.toArray.size : Nat) : Int) * k) = false := by
    unfold Builtin.Tuple.tupleTooMany
    rw [sizeLine_eq]
    exact decide_eq_false (by omega)
  refine wpAny_binaryOp_repeat_ref (T := "tuple") (U := "int") (by decide) ⟨_, ho, rfl⟩ (fun s' => typeIs_int s' k t) noFill_tuple_mul F.fills_int_mul F.slot_int_rmul repeat_tuple F.slot_int_index.lookup
    (call_meets F.slot_int_rmul (typeIs_int s k t) F.entry_int_rmul (F.args_int_rmul_2 _ _) (int_rmul_tuple k t l its.toArray n dd sl)
      ⟨ho, rfl, ⟨_, ho, rfl⟩, call_meets F.slot_tuple_mul ⟨_, ho, rfl⟩ F.entry_tuple_mul (F.args_tuple_mul_2 _ _) (tuple_mulW l its.toArray n dd sl k t c0 c1 c2 (by omega) c4 (by rw [size_rep, List.size_toArray]; exact flen)) ⟨ho, ?_⟩⟩)
  rw [size_rep]
  refine ⟨.ref s.heap.objs.size, _, I.laid (t' := s.toks) (o := .frz (newTup (List.replicate k.toNat its).flatten) (.tup (List.replicate k.toNat xs).flatten)) (fun b ob q => Heap.get?_push_of_some _ q) (Nat.le_refl _) ?_, rfl, q _ _ (I.hok.fresh (Nat.le_refl _)) (newTup_pl _)⟩
  exact newTup_ok (by rw [PyProof.Rows.lm_len_rep_flat, sizeLine_eq]; have a1 : k.toNat * xs.length ≤ 1000 * 1000 := Nat.mul_le_mul (by omega) hz; omega) (r.rep k.toNat)
end
end RA

set_option maxHeartbeats 2000000
/-! tuple * 1: the tuple itself. -/
namespace RA
open PySem PySem.Spec PyProof.Rows L2
theorem tuple_mul1 (l : Addr) (items : Array Value) (n : Nat) (dd : Option Addr) (sl : Array (Option Value)) (u : Tok) :
    Meets (Builtin.«tuple.__mul__» ⟨[.ref l, .int 1 u], []⟩) (fun _ R s => s.heap.get? l = some { cls := .type "tuple", dict := dd, data := .seq items n, slots := sl } ∧ R (.ok (.ret (Value.ref l))) s) :=
  .of_wp fun prog w A R s h => by
    obtain ⟨hp, g, d, tk, os⟩ := s
    obtain ⟨hl, h⟩ := h
    have f1 := AutoSeq1.idx_int
    wp_walk using wpAny_loadPart' hl
    repeat (first
      | (refine wpAny_ite_false (decide_eq_false (by decide)) ?_; wp_walk using wpAny_loadPart' hl)
      | (refine wpAny_ite_true (by simp) ?_; wp_walk using wpAny_loadPart' hl))
    exact ⟨_, rfl, h⟩
def rRep1 (K : PySem.W.Frag) : R2 := fun x y H Q => ∃ l xs, x = .ref l ∧ y = .int 1 ∧ SqT K H l xs ∧ Q (.ref l) H
section
variable {X : Cx}
theorem op_rep1 : OpR X (binaryOp .Mult) (rRep1 X.K) := by
  intro pins s σ H x y v u Q I rx ry h
  obtain ⟨l, xs, rfl, rfl, hT, q⟩ := h
  cases rx
  obtain ⟨t, rfl⟩ := ry
  obtain ⟨its, r, ⟨⟨cls, dd, data, sl⟩, ho, hc, n, hd⟩, hs⟩ := I.tuple hT
  simp only at hc hd
  subst hc hd
  exact wpAny_binaryOp_repeat_ref (T := "tuple") (U := "int") (by decide) ⟨_, ho, rfl⟩ (fun s' => typeIs_int s' 1 t) noFill_tuple_mul F.fills_int_mul F.slot_int_rmul repeat_tuple F.slot_int_index.lookup
    (call_meets F.slot_int_rmul (typeIs_int s 1 t) F.entry_int_rmul (F.args_int_rmul_2 _ _) (int_rmul_tuple 1 t l its.toArray n dd sl)
      ⟨ho, rfl, ⟨_, ho, rfl⟩, call_meets F.slot_tuple_mul ⟨_, ho, rfl⟩ F.entry_tuple_mul (F.args_tuple_mul_2 _ _) (tuple_mul1 l its.toArray n dd sl t) ⟨ho, ⟨.ref l, H, I, rfl, q⟩⟩⟩)
end
end RA

/-! What a loop walks: zip and enumerate over lists, tuples and texts in any mix. -/
namespace RA
open PySem PySem.Spec PyProof.Rows L2

/-- where items come from -/
inductive Src where
  | li (a : Addr)
  | tu (a : Addr)
  | tx (x : Str) (tk : Tok)
def Src.adr : Src → List Addr
  | .li a => [a]
  | .tu a => [a]
  | .tx _ _ => []
def Src.val : Src → Value
  | .li a => .ref a
  | .tu a => .ref a
  | .tx x t => .str x t
def Src.ob : Src → Obj
  | .li a => { cls := .type "list_iterator", data := .fields #[.ref a, .int 0 0] }
  | .tu a => { cls := .type "tuple_iterator", data := .fields #[.ref a, .int 0 0] }
  | .tx x t => { cls := .type (strIterType x), data := .fields #[.str x t, .int 0 0] }
def Src.has (K : PySem.W.Frag) (H : Hp) : Src → List V → Prop
  | .li a, xs => SqL K H a xs
  | .tu a, xs => SqT K H a xs
  | .tx x _, xs => xs = x.cps.toList.map fun c => V.str ⟨#[c]⟩
def Src.at (it : Addr) (i : Nat) (h : Heap) : Src → Prop
  | .li a => h.IsListIter it a i
  | .tu a => h.IsTupleIter it a i
  | .tx x tk => h.IsStrIter it (strIterType x) x tk i

theorem vals_get {xs : List V} {its : List Value} (r : Vals xs its) {j : Nat} {u : Value} (h : its[j]? = some u) : ∃ x, xs[j]? = some x ∧ RelV x u := by
  induction r generalizing j with
  | nil => simp at h
  | cons a b ih =>
    cases j with
    | zero => simp at h; subst h; exact ⟨_, rfl, a⟩
    | succ j => simpa using ih (by simpa using h)
theorem Src.at_obj {it : Addr} {i : Nat} {h : Heap} : ∀ {r : Src}, r.at it i h → ∃ o, h.get? it = some o ∧ ∀ v, o.data ≠ .cell v
  | .li _, st => by obtain ⟨o, e, c, d⟩ := st; exact ⟨o, e, fun v z => by rw [d] at z; cases z⟩
  | .tu _, st => by obtain ⟨o, e, c, d⟩ := st; exact ⟨o, e, fun v z => by rw [d] at z; cases z⟩
  | .tx _ _, st => by obtain ⟨o, e, c, d⟩ := st; exact ⟨o, e, fun v z => by rw [d] at z; cases z⟩
theorem Src.at_keep {it : Addr} {i : Nat} {h h' : Heap} (k : ∀ o, h.get? it = some o → h'.get? it = some o) : ∀ {r : Src}, r.at it i h → r.at it i h'
  | .li _, st => by obtain ⟨o, e, c⟩ := st; exact ⟨o, k o e, c⟩
  | .tu _, st => by obtain ⟨o, e, c⟩ := st; exact ⟨o, k o e, c⟩
  | .tx _ _, st => by obtain ⟨o, e, c⟩ := st; exact ⟨o, k o e, c⟩
theorem Src.has_inj {X : Cx} {pins : List (Addr × Obj)} {σ : L2.St} {H : Hp} {s : Shared} (I : Inv X pins σ H s) : ∀ {r : Src} {xs ys : List V}, r.has X.K H xs → r.has X.K H ys → xs = ys
  | .li _, _, _, h, k => I.list_inj h k
  | .tu _, _, _, h, k => I.tuple_inj h k
  | .tx _ _, _, _, h, k => h.trans k.symm
theorem Src.draws {X : Cx} {pins : List (Addr × Obj)} {σ : L2.St} {H : Hp} {s : Shared} {A : Around} {it : Addr} {i : Nat} {xs : List V} (I : Inv X pins σ H s) (hh : A.handled = none) : ∀ {r : Src}, (∀ a ∈ r.adr, a ≠ it) → r.has X.K H xs → r.at it i s.heap →
    ∃ (P : Nat → Value → Prop) (S : Nat → Heap → Prop), Draws X.prog X.w A it (it :: r.adr) xs.length P S ∧ S i s.heap ∧ (∀ j u, P j u → ∃ x, xs[j]? = some x ∧ RelV x u) ∧ ∀ j h, S j h → r.at it j h
  | .li a, hn, hq, st => by
    obtain ⟨its, rv, p, hz⟩ := I.list hq
    have e : xs.length = its.toArray.size := by rw [rv.length]; simp
    have D := Draws.list (prog := X.prog) (w := X.w) hh it a (hn a (by simp [Src.adr])) its.toArray
    rw [← e] at D
    refine ⟨_, _, D, ⟨st, p.isList⟩, fun j u hu => ?_, fun j h z => z.1⟩
    have hu' : its[j]? = some u := by simpa using hu
    exact vals_get rv hu'
  | .tu a, hn, hq, st => by
    obtain ⟨its, rv, p, hz⟩ := I.tuple hq
    have e : xs.length = its.toArray.size := by rw [rv.length]; simp
    have D := Draws.tuple (prog := X.prog) (w := X.w) hh it a (hn a (by simp [Src.adr])) its.toArray
    rw [← e] at D
    refine ⟨_, _, D, ⟨st, p⟩, fun j u hu => ?_, fun j h z => z.1⟩
    have hu' : its[j]? = some u := by simpa using hu
    exact vals_get rv hu'
  | .tx x t, hn, hq, st => by
    have hq : xs = x.cps.toList.map fun c => V.str ⟨#[c]⟩ := hq
    have e : xs.length = x.cps.size := by rw [hq]; simp
    have D := Draws.text (prog := X.prog) (w := X.w) hh it x t
    rw [← e] at D
    refine ⟨_, _, D, st, fun j u hu => ?_, fun j h z => z⟩
    obtain ⟨c, k, hc, rfl⟩ := hu
    refine ⟨.str ⟨#[c]⟩, by rw [hq]; simp [hc], k, rfl⟩
theorem Src.begins {X : Cx} {pins : List (Addr × Obj)} {σ : L2.St} {H : Hp} {s : Shared} {xs : List V} (I : Inv X pins σ H s) : ∀ {r : Src}, r.has X.K H xs → ∃ P : Heap → Prop, Begins r.val r.ob P ∧ P s.heap ∧ ∀ b ∈ r.adr, b < s.heap.objs.size
  | .li a, hq => by
    obtain ⟨its, rv, p, hz⟩ := I.list hq
    exact ⟨_, begins_list a its.toArray, p.isList, fun b hb => by rw [List.mem_singleton.mp hb]; exact p.lt⟩
  | .tu a, hq => by
    obtain ⟨its, rv, p, hz⟩ := I.tuple hq
    obtain ⟨o1, ho1, _⟩ := id p
    exact ⟨_, begins_tuple a its.toArray, p, fun b hb => by rw [List.mem_singleton.mp hb]; exact Heap.lt_size ho1⟩
  | .tx x t, _ => ⟨_, begins_text x t, trivial, fun b hb => by cases hb⟩
theorem Src.at_zero {it : Addr} {h : Heap} : ∀ {r : Src}, h.get? it = some r.ob → r.at it 0 h
  | .li _, e => ⟨_, e, rfl, rfl⟩
  | .tu _, e => ⟨_, e, rfl, rfl⟩
  | .tx _ _, e => ⟨_, e, rfl, rfl⟩

/-! ### zip -/
def ItZ (K : PySem.W.Frag) (r1 r2 : Src) : It :=
  ⟨fun i H => ∃ (xs ys : List V) (x y : V), r1.has K H xs ∧ r2.has K H ys ∧ xs[i]? = some x ∧ ys[i]? = some y,
    fun i H v H' => ∃ T O x y, v = .ref T ∧ H T = none ∧ TPl O ∧ H' = upd H T (.frz O (.tup [x, y])) ∧ (∀ xs, r1.has K H xs → xs[i]? = some x) ∧ ∀ ys, r2.has K H ys → ys[i]? = some y,
    fun i H => ∃ xs ys : List V, r1.has K H xs ∧ r2.has K H ys ∧ i ≤ xs.length ∧ i ≤ ys.length ∧ (i = xs.length ∨ i = ys.length)⟩
theorem turn_zipZ {P : Program} {w : World} {K : PySem.W.Frag} {elts : List Expr} {kk : Nat} {tpos : Pos} {r1 r2 : Src} {z TI TO i1 i2 : Addr} (D : ZipSep2 z TI TO i1 i2 (i1 :: r1.adr) (i2 :: r2.adr)) (hn1 : ∀ a ∈ r1.adr, a ≠ i1) (hn2 : ∀ a ∈ r2.adr, a ≠ i2) :
    Turn P w K (.Tuple elts kk tpos) (ItZ K r1 r2) [z, TI, TO, i1, i2] z (fun i h => IsZip h z TI TO .none ∧ IsTupOf2 h TI (.ref i1) (.ref i2) ∧ (∃ x y, IsTupOf2 h TO x y) ∧ r1.at i1 i h ∧ r2.at i2 i h) where
  mem := by simp
  obj := fun i h st c hc => by
    obtain ⟨hz, hTI, ⟨x, y, hTO⟩, h1, h2⟩ := st
    have e' : c = z ∨ c = TI ∨ c = TO ∨ c = i1 ∨ c = i2 := by simpa using hc
    rcases e' with q | q | q | q | q
    · rw [q]; exact ⟨_, hz, fun v q => nomatch q⟩
    · rw [q]; exact ⟨_, hTI, fun v q => nomatch q⟩
    · rw [q]; exact ⟨_, hTO, fun v q => nomatch q⟩
    · rw [q]; exact (Src.at_obj h1)
    · rw [q]; exact (Src.at_obj h2)
  keep := fun i h h' st k => by
    obtain ⟨hz, hTI, ⟨x, y, hTO⟩, h1, h2⟩ := st
    exact ⟨k z (by simp) _ hz, k TI (by simp) _ hTI, ⟨x, y, k TO (by simp) _ hTO⟩, Src.at_keep (fun o q => k i1 (by simp) o q) h1, Src.at_keep (fun o q => k i2 (by simp) o q) h2⟩
  item := by
    intro X hP hw hK hc i pins s σ H E I hf st hg
    subst hP hw hK
    obtain ⟨hz, hTI, ⟨x0, y0, hTO⟩, h1, h2⟩ := st
    obtain ⟨xs, ys, x, y, hqx, hqy, hx, hy⟩ := hg
    have hh : X.A.in1.handled = none := I.ok.hd hc
    obtain ⟨P1, S1, D1, st1, p1, n1⟩ := Src.draws I hh hn1 hqx h1
    obtain ⟨P2, S2, D2, st2, p2, n2⟩ := Src.draws I hh hn2 hqy h2
    have hzl : z < s.heap.objs.size := Heap.lt_size hz
    refine wpAny_pyNext_zipD2_item D D1 D2 hz hTI hTO st1 st2 (List.getElem?_eq_some_iff.mp hx).1 (List.getElem?_eq_some_iff.mp hy).1 fun u u2 h' tk hu hu2 z' TO' h1' h2' hT hsz hk => ?_
    obtain ⟨x', hx', ru⟩ := p1 _ _ hu
    obtain ⟨y', hy', ru2⟩ := p2 _ _ hu2
    rw [hx] at hx'; cases hx'
    rw [hy] at hy'; cases hy'
    refine ⟨_, rfl, wpAny_letOwnedTupleGo_zip (s := { s with heap := h', toks := tk }) z' fun h'' z'' sb => ?_⟩
    have hT2 : h''.get? s.heap.objs.size = some { cls := .type "tuple", data := .seq #[u, u2] } := (sb.2 _ (Nat.ne_of_gt hzl)).trans hT
    have new : ObjOk X.prog X.w (upd H s.heap.objs.size (.frz { cls := .type "tuple", data := .seq #[u, u2] } (.tup [x, y]))) h'' s.heap.objs.size (.frz { cls := .type "tuple", data := .seq #[u, u2] } (.tup [x, y])) :=
      ⟨hT2, by show 2 ≤ sizeLine; decide, [u, u2], .cons ru (.cons ru2 .nil), ⟨_, hT2, rfl, _, rfl⟩⟩
    have I1 : Inv X pins σ (upd H s.heap.objs.size (.frz { cls := .type "tuple", data := .seq #[u, u2] } (.tup [x, y]))) { s with heap := h'', toks := tk } :=
      I.turnedNew (t' := tk) (ch := [z, TI, TO, i1, i2]) (fun c o hb q => (sb.2 c (fun q' => hb (by simp [q']))).trans (hk c o (fun q' => hb (by simp [q'])) (fun q' => hb (by simp [q'])) (fun q' => hb (by simp [q'])) (fun q' => hb (by simp [q'])) q)) hf (Nat.le_refl _) new
    refine ⟨.ref s.heap.objs.size, _, I1, rfl, ⟨_, _, x, y, rfl, I.hok.fresh (Nat.le_refl _), ⟨rfl, rfl⟩, rfl, fun l hl => by rw [Src.has_inj I hl hqx]; exact hx, fun l hl => by rw [Src.has_inj I hl hqy]; exact hy⟩, ⟨z'', ?_, ⟨u, u2, ?_⟩, ?_, ?_⟩, fun c hcm => ?_⟩
    · exact (sb.2 _ D.TIz).trans (hk _ _ D.TIz D.TITO D.TIi1 D.TIi2 hTI)
    · exact (sb.2 _ D.TOz).trans TO'
    · exact Src.at_keep (fun o q => (sb.2 _ (fun e => D.zi1 e.symm)).trans q) (n1 _ _ h1')
    · exact Src.at_keep (fun o q => (sb.2 _ (fun e => D.zi2 e.symm)).trans q) (n2 _ _ h2')
    · have hlt : c < s.heap.objs.size := by
        have e' : c = z ∨ c = TI ∨ c = TO ∨ c = i1 ∨ c = i2 := by simpa using hcm
        rcases e' with q | q | q | q | q
        · rw [q]; exact hzl
        · rw [q]; exact Heap.lt_size hTI
        · rw [q]; exact Heap.lt_size hTO
        · rw [q]; obtain ⟨_, e1, _⟩ := (Src.at_obj h1); exact Heap.lt_size e1
        · rw [q]; obtain ⟨_, e2, _⟩ := (Src.at_obj h2); exact Heap.lt_size e2
      rw [upd_ne (Nat.ne_of_lt hlt)]
      exact (hf c hcm).1
  done := by
    intro X hP hw hK hc i pins s σ H E I hf st hg
    subst hP hw hK
    obtain ⟨hz, hTI, ⟨x0, y0, hTO⟩, h1, h2⟩ := st
    obtain ⟨xs, ys, hqx, hqy, l1, l2, hend⟩ := hg
    have hh : X.A.in1.handled = none := I.ok.hd hc
    obtain ⟨P1, S1, D1, st1, p1, n1⟩ := Src.draws I hh hn1 hqx h1
    obtain ⟨P2, S2, D2, st2, p2, n2⟩ := Src.draws I hh hn2 hqy h2
    exact wpAny_pyNext_zipD2_end D D1 D2 hz hTI hTO st1 st2 l1 l2 hend fun h' tk hk => ⟨rfl, I.turnedL (t' := tk) (ch := [z, TI, TO, i1, i2]) (fun c o hb q =>
      hk c o (fun q' => hb (by simp [q'])) (fun q' => hb (by simp [q'])) (fun q' => hb (by simp [q'])) (fun q' => hb (by simp [q'])) q) hf⟩
  self := fun A i s Q E st h => wpAny_pyIter_zip st.1 h


/-! ### enumerate -/
def ItE (K : PySem.W.Frag) (r : Src) (k : Int) : It :=
  ⟨fun i H => ∃ (xs : List V) (x : V), r.has K H xs ∧ xs[i]? = some x,
    fun i H v H' => ∃ T O x, v = .ref T ∧ H T = none ∧ TPl O ∧ H' = upd H T (.frz O (.tup [.int (k + (i : Nat)), x])) ∧ ∀ xs, r.has K H xs → xs[i]? = some x,
    fun i H => ∃ xs : List V, r.has K H xs ∧ i = xs.length⟩
theorem turn_enumE {P : Program} {w : World} {K : PySem.W.Frag} {elts : List Expr} {kk : Nat} {tpos : Pos} {r : Src} {e it : Addr} {k : Int} (hne : e ≠ it) (hea : e ∉ r.adr) (hn : ∀ a ∈ r.adr, a ≠ it) :
    Turn P w K (.Tuple elts kk tpos) (ItE K r k) [e, it] e (fun i h => (∃ old, IsEnum h e it (k + (i : Nat)) old) ∧ r.at it i h) where
  mem := by simp
  obj := fun i h st c hc => by
    obtain ⟨⟨old, he⟩, hit⟩ := st
    have e' : c = e ∨ c = it := by simpa using hc
    rcases e' with q | q
    · rw [q]; exact ⟨_, he, fun v q => nomatch q⟩
    · rw [q]; exact (Src.at_obj hit)
  keep := fun i h h' st kp => by
    obtain ⟨⟨old, he⟩, hit⟩ := st
    exact ⟨⟨old, kp e (by simp) _ he⟩, Src.at_keep (fun o q => kp it (by simp) o q) hit⟩
  item := by
    intro X hP hw hK hc i pins s σ H E I hf st hg
    subst hP hw hK
    obtain ⟨⟨old, he⟩, hit⟩ := st
    obtain ⟨xs, x, hq, hx⟩ := hg
    have hh : X.A.in1.handled = none := I.ok.hd hc
    obtain ⟨P1, S1, D1, st1, p1, n1⟩ := Src.draws I hh hn hq hit
    have hel : e < s.heap.objs.size := Heap.lt_size he
    have hil : it < s.heap.objs.size := by obtain ⟨_, q, _⟩ := (Src.at_obj hit); exact Heap.lt_size q
    have hef : e ∉ it :: r.adr := fun z => (List.mem_cons.mp z).elim hne hea
    refine wpAny_pyNext_enum_itemC D1 he st1 (List.getElem?_eq_some_iff.mp hx).1 hne hef fun u h' tk hu ho hit' hT hsz hk => ?_
    obtain ⟨x', hx', ru⟩ := p1 _ _ hu
    rw [hx] at hx'; cases hx'
    refine ⟨_, rfl, wpAny_letOwnedTupleGo_enum (s := { s with heap := h', toks := tk + 1 }) ho fun h'' he' sb => ?_⟩
    have hT2 : h''.get? s.heap.objs.size = some { cls := .type "tuple", data := .seq #[.int (k + (i : Nat)) tk, u] } := (sb.2 _ (Nat.ne_of_gt hel)).trans hT
    have new : ObjOk X.prog X.w (upd H s.heap.objs.size (.frz { cls := .type "tuple", data := .seq #[.int (k + (i : Nat)) tk, u] } (.tup [.int (k + (i : Nat)), x]))) h'' s.heap.objs.size (.frz { cls := .type "tuple", data := .seq #[.int (k + (i : Nat)) tk, u] } (.tup [.int (k + (i : Nat)), x])) :=
      ⟨hT2, by show 2 ≤ sizeLine; decide, [.int (k + (i : Nat)) tk, u], .cons ⟨_, rfl⟩ (.cons ru .nil), ⟨_, hT2, rfl, _, rfl⟩⟩
    have I1 : Inv X pins σ (upd H s.heap.objs.size (.frz { cls := .type "tuple", data := .seq #[.int (k + (i : Nat)) tk, u] } (.tup [.int (k + (i : Nat)), x]))) { s with heap := h'', toks := tk + 1 } :=
      I.turnedNew (t' := tk + 1) (ch := [e, it]) (fun b ob hb q => (sb.2 b (fun z => hb (by simp [z]))).trans (hk b ob (fun z => hb (by simp [z])) (fun z => hb (by simp [z])) q)) hf (Nat.le_refl _) new
    refine ⟨.ref s.heap.objs.size, _, I1, rfl, ⟨_, _, x, rfl, I.hok.fresh (Nat.le_refl _), ⟨rfl, rfl⟩, rfl, fun ys hy => by rw [Src.has_inj I hy hq]; exact hx⟩, ⟨⟨u, ?_⟩, Src.at_keep (fun o q => (sb.2 it (Ne.symm hne)).trans q) (n1 _ _ hit')⟩, fun b hb => ?_⟩
    · have e1 : k + ((i + 1 : Nat) : Int) = k + (i : Int) + 1 := by omega
      rw [e1]; exact he'
    · have hb' : b < s.heap.objs.size := by
        have e' : b = e ∨ b = it := by simpa using hb
        rcases e' with z | z
        · rw [z]; exact hel
        · rw [z]; exact hil
      rw [upd_ne (Nat.ne_of_lt hb')]
      exact (hf b hb).1
  done := by
    intro X hP hw hK hc i pins s σ H E I hf st hg
    subst hP hw hK
    obtain ⟨⟨old, he⟩, hit⟩ := st
    obtain ⟨xs, hq, rfl⟩ := hg
    obtain ⟨f0, f1, f2, f3, f4, f5⟩ := hf it (by simp)
    have hh : X.A.in1.handled = none := I.ok.hd hc
    obtain ⟨P1, S1, D1, st1, p1, n1⟩ := Src.draws I hh hn hq hit
    exact wpAny_pyNext_enum_endD D1 he st1 fun h' eb => ⟨rfl, I.turned (t' := s.toks) (fun b o hb q => eb b o hb q) f0 f1 f3 f4 f5⟩
  self := fun A i s Q E st h => let ⟨⟨_, he⟩, _⟩ := st; wpAny_pyIter_enum he h

set_option maxHeartbeats 1000000 in
theorem meets_enumerate_new1 {v : Value} {o : Obj} {H : Heap → Prop} (B : Begins v o H) :
    Meets (Builtin.«enumerate.__new__» ⟨[.type "enumerate", v], []⟩) (fun _ R s => H s.heap ∧
      R (.ok (.ret (.ref (s.heap.push o).objs.size))) { s with heap := (s.heap.push o).push { cls := .type "enumerate", data := .fields #[.none, .bool false, .ref s.heap.objs.size, rawInt 0, .none, .none] } }) :=
  .of_wp fun prog w A R s h => by
    obtain ⟨hp, g, d, tk, os⟩ := s; obtain ⟨h1, h⟩ := h
    have hsub := sub_enumerate
    have q1 : ∀ {A' : Around} {E : Value → Shared → Prop} {Q : Value → Shared → Prop}, Q (.ref hp.objs.size) ⟨hp.push o, g, d, tk, os⟩ → wpAny (model prog w) A' (pyIter v) Q E ⟨hp, g, d, tk, os⟩ :=
      fun q => B.iter prog w _ _ ⟨hp, g, d, tk, os⟩ _ h1 q
    wp_walk using q1
    refine wpAny_stack_any fun st => wpAny_pure ?_
    split
    · rename_i c _ _ _ _ _
      cases (c == Value.type "enumerate")
      · wp_walk using q1
        exact ⟨_, rfl, h⟩
      · wp_walk using q1
        exact ⟨_, rfl, h⟩
    · wp_walk using q1
      exact ⟨_, rfl, h⟩
theorem enum_begins1 {prog : Program} {w : World} {A : Around} {E : Value → Shared → Prop} {s : Shared} {v : Value} {o : Obj} {H : Heap → Prop} {Q : Value → Shared → Prop} (B : Begins v o H) (h1 : H s.heap)
    (h : ∀ h', IsEnum h' (s.heap.objs.size + 1) s.heap.objs.size 0 .none → h'.get? s.heap.objs.size = some o → h'.objs.size = s.heap.objs.size + 2 →
      (∀ b o, s.heap.get? b = some o → h'.get? b = some o) → Q (.ref (s.heap.objs.size + 1)) { s with heap := h' }) :
    wpAny (model prog w) A (call (.type "enumerate") [v]) Q E s := by
  refine callType_new F.called_enumerate (by decide) (F.typeCall_enumerate_1 _) (F.newCall_enumerate_1 _) (fun obj => F.args_object_init_2 obj _) F.entry_enumerate_new
    (meets_enumerate_new1 B) ⟨h1, ?_⟩
  have hz : (s.heap.push o).objs.size = s.heap.objs.size + 1 := Heap.size_push ..
  show _ ∧ _
  rw [hz]
  have he : IsEnum ((s.heap.push o).push { cls := .type "enumerate", data := .fields #[.none, .bool false, .ref s.heap.objs.size, rawInt 0, .none, .none] }) (s.heap.objs.size + 1) s.heap.objs.size 0 .none := by
    have := Heap.get?_push_size (s.heap.push o) (o := { cls := .type "enumerate", data := .fields #[.none, .bool false, .ref s.heap.objs.size, rawInt 0, .none, .none] }) rfl
    rw [hz] at this; exact this
  refine ⟨⟨_, he, rfl⟩, h _ he (Heap.get?_push_of_some _ (Heap.get?_push_size _ B.free)) (by rw [Heap.size_push, hz]) fun b o x => Heap.get?_push_of_some _ (Heap.get?_push_of_some _ x)⟩

/-! ### as iterables -/
/-- a value of the kind that is walked, its items, its sources -/
inductive Walk (K : PySem.W.Frag) (H : Hp) : V → List V → (Src → Prop) → Prop where
  | l {a : Addr} {xs : List V} (h : SqL K H a xs) : Walk K H (.ref a) xs (· = .li a)
  | t {a : Addr} {xs : List V} (h : SqT K H a xs) : Walk K H (.ref a) xs (· = .tu a)
  | s {x : Str} : Walk K H (.str x) (x.cps.toList.map fun c => V.str ⟨#[c]⟩) (fun r => ∃ t, r = .tx x t)
theorem Walk.src {K : PySem.W.Frag} {H : Hp} {v : V} {u : Value} {xs : List V} {P : Src → Prop} (h : Walk K H v xs P) (r : RelV v u) : ∃ q : Src, q.val = u ∧ q.has K H xs ∧ P q := by
  cases h with
  | l h => cases r; exact ⟨.li _, rfl, h, rfl⟩
  | t h => cases r; exact ⟨.tu _, rfl, h, rfl⟩
  | s => obtain ⟨t, rfl⟩ := r; exact ⟨.tx _ t, rfl, rfl, t, rfl⟩
section
variable {X : Cx} {tg : Expr}
/-- one source -/
def ItO (K : PySem.W.Frag) (r : Src) : It :=
  ⟨fun i H => ∃ (xs : List V) (x : V), r.has K H xs ∧ xs[i]? = some x,
    fun i H v H' => H' = H ∧ ∀ xs, r.has K H xs → xs[i]? = some v,
    fun i H => ∃ xs : List V, r.has K H xs ∧ i = xs.length⟩
def iWalk (K : PySem.W.Frag) (te : TE) : TI := fun σ H R => te σ H fun v H1 => ∃ xs P, Walk K H1 v xs P ∧ ∀ r : Src, P r → R (ItO K r) H1
theorem turn_weak {P : Program} {w : World} {K : PySem.W.Frag} {J J' : It} {fp : List Addr} {it : Addr} {tn : Nat → Heap → Prop} (T : Turn P w K tg J fp it tn)
    (hg : ∀ i H, J'.go i H → J.go i H) (hy : ∀ i H x H', J'.go i H → J.yld i H x H' → J'.yld i H x H') (hs : ∀ i H, J'.stop i H → J.stop i H) : Turn P w K tg J' fp it tn where
  mem := T.mem
  obj := T.obj
  keep := T.keep
  item := fun X hP hw hK hc i pins s σ H E I hf st g => thn (T.item X hP hw hK hc i pins s σ H E I hf st (hg i H g)) fun r s1 ⟨u, hr, h⟩ =>
    ⟨u, hr, thn h fun _ s2 ⟨x, H', I2, r2, y, st2, n2⟩ => ⟨x, H', I2, r2, hy i H x H' g y, st2, n2⟩⟩
  done := fun X hP hw hK hc i pins s σ H E I hf st g => T.done X hP hw hK hc i pins s σ H E I hf st (hs i H g)
  self := T.self
theorem pi_walk {e : Expr} {te : TE} (he : PE X e te) : PI X tg e (iWalk X.K te) := by
  refine ⟨fun pins s σ H R I h => ?_⟩
  refine thn (he.run pins s σ H _ I h) fun v s1 ⟨x, H1, I1, r1, xs, P, hw, q⟩ => ?_
  cases hw with
  | l hq =>
    cases r1
    obtain ⟨its, rv, p, hz⟩ := I1.list hq
    refine wpAny_pyIter_list p.isList (pi_one (tk := s1.toks) I1 _ (turn_weak (J' := ItO X.K (.li _)) (turn_list _ _) (fun i H g => g) (fun i H x H' g y => y) fun i H ⟨xs, h1, h2⟩ => ⟨xs, h1, Nat.le_of_eq h2.symm⟩) ⟨_, Heap.get?_push_size _ rfl, rfl, rfl⟩ (q (.li _) rfl))
  | t hq =>
    cases r1
    obtain ⟨its, rv, p, hz⟩ := I1.tuple hq
    refine wpAny_pyIter_tuple (show s1.heap.IsTuple _ its.toArray from p) (pi_one (tk := s1.toks) I1 _ (turn_weak (J' := ItO X.K (.tu _)) (turn_tuple _ _) (fun i H g => g) (fun i H x H' g y => y) fun i H ⟨xs, h1, h2⟩ => ⟨xs, h1, Nat.le_of_eq h2.symm⟩) ⟨_, Heap.get?_push_size _ rfl, rfl, rfl⟩ (q (.tu _) rfl))
  | s =>
    rename_i x
    obtain ⟨t, rfl⟩ := r1
    have wk : ∀ {it : Addr} {tn : Nat → Heap → Prop}, Turn X.prog X.w X.K tg (Its x) [it] it tn → Turn X.prog X.w X.K tg (ItO X.K (.tx x t)) [it] it tn := fun T => by
      refine turn_weak T (fun i H ⟨xs, y, h1, h2⟩ => ?_) (fun i H y H' g z => ?_) fun i H ⟨xs, h1, h2⟩ => ?_
      · have h1 : xs = x.cps.toList.map fun c => V.str ⟨#[c]⟩ := h1
        have := (List.getElem?_eq_some_iff.mp h2).1
        rw [h1] at this
        show i < x.cps.size
        simpa using this
      · obtain ⟨z1, c, hc, rfl⟩ := z
        refine ⟨z1, fun xs h1 => ?_⟩
        have h1 : xs = x.cps.toList.map fun c => V.str ⟨#[c]⟩ := h1
        rw [h1]
        simp [hc]
      · have h1 : xs = x.cps.toList.map fun c => V.str ⟨#[c]⟩ := h1
        rw [h2, h1]
        show x.cps.size ≤ _
        simp
    have q' := q (.tx x t) ⟨t, rfl⟩
    cases ha : x.cps.all (· < 128)
    · exact wpAny_pyIter_wide ha (pi_one (tk := s1.toks) I1 _ (wk (turn_str _ x t "str_iterator" (.inr rfl))) ⟨_, Heap.get?_push_size _ rfl, rfl, rfl⟩ q')
    · exact wpAny_pyIter_ascii ha (pi_one (tk := s1.toks) I1 _ (wk (turn_str _ x t "str_ascii_iterator" (.inl rfl))) ⟨_, Heap.get?_push_size _ rfl, rfl, rfl⟩ q')
/-- zip(a, b) -/
def iZipW (K : PySem.W.Frag) (ta : TA) : TI := fun σ H R => ta σ H fun vs H1 => ∃ v u xs ys P1 P2, vs = [v, u] ∧ Walk K H1 v xs P1 ∧ Walk K H1 u ys P2 ∧ ∀ r1 r2 : Src, P1 r1 → P2 r2 → R (ItZ K r1 r2) H1
theorem pi_zipW {e e2 : Expr} {ta : TA} {p pos tpos : Pos} {elts : List Expr} {kk : Nat} (hg : Gl X "zip") (hm : X.mg "zip" = none) (ha : PA X [e, e2] ta)
    (hs : starEach [e, e2] X.env = (false, eval e X.env) :: starEach [e2] X.env) (hpl : (backTo pos (starEach [e2] X.env)).any (·.1) = false) :
    PI X (.Tuple elts kk tpos) (.Call (.Name "zip" p) [e, e2] [] pos) (iZipW X.K ta) := by
  refine ⟨fun pins s σ H R I h => ?_⟩
  refine Call_ (ld_blt I hg hm PyProof.Rows.boot_zip (PyProof.Rows.callWith_type1 (thn (ha.run pos pins s σ H _ I h) fun us s1 ⟨vs, H1, I1, r1, q1⟩ => ?_) hs hpl))
  obtain ⟨v, v2, xs, ys, Q1, Q2, ex, w1, w2, q⟩ := q1
  subst ex
  cases r1 with
  | cons r rr =>
    cases rr with
    | cons r' rr =>
      cases rr
      obtain ⟨r1, rfl, h1, m1⟩ := w1.src r
      obtain ⟨r2, rfl, h2, m2⟩ := w2.src r'
      obtain ⟨P1, B1, p1, lt1⟩ := Src.begins I1 h1
      obtain ⟨P2, B2, p2, lt2⟩ := Src.begins I1 h2
      refine zip_begins2 B1 B2 p1 p2 fun h' hz hTI hTO g1 g2 hsz hk => wpAny_pyIter_zip hz ?_
      have I2 : Inv X pins σ H1 { s1 with heap := h' } := I1.kept (t' := s1.toks) hk
      refine ⟨s1.heap.objs.size + 4, [s1.heap.objs.size + 4, s1.heap.objs.size + 2, s1.heap.objs.size + 3, s1.heap.objs.size, s1.heap.objs.size + 1], _, _, H1, rfl, I2,
        turn_zipZ (zip_sep2 lt1 lt2) (fun a ha => Nat.ne_of_lt (lt1 a ha)) (fun a ha => Nat.ne_of_lt (Nat.lt_succ_of_lt (lt2 a ha))), ⟨hz, hTI, ⟨_, _, hTO⟩, Src.at_zero g1, Src.at_zero g2⟩, fun c hcm => ?_, q r1 r2 m1 m2⟩
      have e' : c = s1.heap.objs.size + 4 ∨ c = s1.heap.objs.size + 2 ∨ c = s1.heap.objs.size + 3 ∨ c = s1.heap.objs.size ∨ c = s1.heap.objs.size + 1 := by simpa using hcm
      have hle : s1.heap.objs.size ≤ c := by
        rcases e' with z | z | z | z | z <;> rw [z] <;> first | exact Nat.le_add_right _ _ | exact Nat.le_refl _
      exact I1.fpOk hle (I1.hok.fresh hle)
/-- enumerate(a) -/
def iEnumW (K : PySem.W.Frag) (ta : TA) : TI := fun σ H R => ta σ H fun vs H1 => ∃ v xs P, vs = [v] ∧ Walk K H1 v xs P ∧ ∀ r : Src, P r → R (ItE K r 0) H1
theorem pi_enumW {e : Expr} {ta : TA} {p pos tpos : Pos} {elts : List Expr} {kk : Nat} (hg : Gl X "enumerate") (hm : X.mg "enumerate" = none) (ha : PA X [e] ta) (hs : starEach [e] X.env = [(false, eval e X.env)]) :
    PI X (.Tuple elts kk tpos) (.Call (.Name "enumerate" p) [e] [] pos) (iEnumW X.K ta) := by
  refine ⟨fun pins s σ H R I h => ?_⟩
  refine Call_ (ld_blt I hg hm boot_enumerate (PyProof.Rows.callWith_type1 (thn (ha.run pos pins s σ H _ I h) fun us s1 ⟨vs, H1, I1, r1, q1⟩ => ?_) hs rfl))
  obtain ⟨v, xs, Q1, ex, w1, q⟩ := q1
  subst ex
  cases r1 with
  | cons r rr =>
    cases rr
    obtain ⟨r1, rfl, h1, m1⟩ := w1.src r
    obtain ⟨P1, B1, p1, lt1⟩ := Src.begins I1 h1
    refine enum_begins1 B1 p1 fun h' he g1 hsz hk => wpAny_pyIter_enum he ?_
    have I2 : Inv X pins σ H1 { s1 with heap := h' } := I1.kept (t' := s1.toks) hk
    refine ⟨s1.heap.objs.size + 1, [s1.heap.objs.size + 1, s1.heap.objs.size], _, _, H1, rfl, I2, turn_enumE (Nat.succ_ne_self _) (fun z => absurd (lt1 _ z) (Nat.not_lt.mpr (Nat.le_succ _))) (fun a ha => Nat.ne_of_lt (lt1 a ha)), ⟨⟨.none, he⟩, Src.at_zero g1⟩, fun b hb => ?_, q r1 m1⟩
    have e' : b = s1.heap.objs.size + 1 ∨ b = s1.heap.objs.size := by simpa using hb
    have hle : s1.heap.objs.size ≤ b := by
      rcases e' with z | z <;> rw [z] <;> first | exact Nat.le_add_right _ _ | exact Nat.le_refl _
    exact I1.fpOk hle (I1.hok.fresh hle)
end
end RA

/-! Own values, own syntax (IR), an interpreter with fuel, and a checker of an IR against the given syntax. -/
namespace RA
open PySem

/-- most items, most signs -/
abbrev SZ : Nat := 16777216

/-- values: lists here never change; .ref is a cell of the store, .fro the script -/
inductive PV where
  | non
  | bl (b : Bool)
  | int (i : Int)
  | str (x : List Nat)
  | tup (l : List PV)
  | lst (l : List PV)
  | fro (l : List Int)
  | ref (n : Nat)
  | exc (c : Nat) (fs : List PV)
  | dic (ks vs : List PV)
  | fn (n : Nat)
  | cl (n : Nat)
  | obj (c : Nat) (fs : List PV)
  deriving Inhabited

mutual
/-- is it data (that == looks at) -/
def isD : PV → Bool
  | .non => true
  | .bl _ => true
  | .int _ => true
  | .str _ => true
  | .tup l => isDs l
  | .lst l => isDs l
  | _ => false
def isDs : List PV → Bool
  | [] => true
  | x :: r => isD x && isDs r
end
mutual
def dep : PV → Nat
  | .tup l => deps l + 1
  | .lst l => deps l + 1
  | _ => 0
def deps : List PV → Nat
  | [] => 0
  | x :: r => max (dep x) (deps r)
end
def b2i (b : Bool) : Int := if b then 1 else 0
mutual
def eqP : PV → PV → Bool
  | .non, b => (match b with | .non => true | _ => false)
  | .bl a, b => (match b with | .bl c => a == c | .int j => b2i a == j | _ => false)
  | .int i, b => (match b with | .bl c => i == b2i c | .int j => i == j | _ => false)
  | .str x, b => (match b with | .str y => x == y | _ => false)
  | .tup l, b => (match b with | .tup r => eqPs l r | _ => false)
  | .lst l, b => (match b with | .lst r => eqPs l r | _ => false)
  | _, _ => false
def eqPs : List PV → List PV → Bool
  | [], b => b.isEmpty
  | x :: l, b => (match b with | [] => false | y :: r => eqP x y && eqPs l r)
end
mutual
/-- the very same data -/
def sameP : PV → PV → Bool
  | .non, b => (match b with | .non => true | _ => false)
  | .bl a, b => (match b with | .bl c => a == c | _ => false)
  | .int i, b => (match b with | .int j => i == j | _ => false)
  | .str x, b => (match b with | .str y => x == y | _ => false)
  | .tup l, b => (match b with | .tup r => samePs l r | _ => false)
  | .lst l, b => (match b with | .lst r => samePs l r | _ => false)
  | _, _ => false
def samePs : List PV → List PV → Bool
  | [], b => b.isEmpty
  | x :: l, b => (match b with | [] => false | y :: r => sameP x y && samePs l r)
end
mutual
/-- data that repr shows at most so long -/
def shwL : PV → Nat
  | .str x => 10 * x.length + 2
  | .tup l => shwLs l + 3
  | .lst l => shwLs l + 2
  | _ => 6000
def shwLs : List PV → Nat
  | [] => 0
  | x :: r => shwL x + 2 + shwLs r
end
mutual
def smallI : PV → Bool
  | .int i => decide (i.natAbs.log2 < 1920)
  | .tup l => smallIs l
  | .lst l => smallIs l
  | _ => true
def smallIs : List PV → Bool
  | [] => true
  | x :: r => smallI x && smallIs r
end
def shw (p : PV) : Bool := smallI p && Nat.ble (dep p) 60 && Nat.ble (shwL p) SZ
/-- == where it is known -/
def eqC (a b : PV) : Option Bool := if isD a && isD b && Nat.ble (min (dep a) (dep b)) 64 then some (eqP a b) else none

/-- a def's slot: not set, a value, a container of one's own -/
inductive Sl where
  | un
  | va (p : PV)
  | ow (p : PV)
  | ex (c : Nat) (fs : List PV)
  deriving Inhabited

inductive Res (α : Type) where
  | stk
  | ok (a : α) (s : List Sl) (m : List PV)
  | exc (e : PV) (s : List Sl) (m : List PV)
inductive CR where
  | stk
  | ok (p : PV) (m : List PV)
  | exc (e : PV) (m : List PV)

def Res.bnd {α β : Type} (r : Res α) (f : α → List Sl → List PV → Res β) : Res β :=
  match r with
  | .stk => .stk
  | .ok a s m => f a s m
  | .exc e s m => .exc e s m
def lift {α : Type} (o : Option α) (s : List Sl) (m : List PV) : Res α :=
  match o with
  | some a => .ok a s m
  | none => .stk

inductive O2 where | add | sub | mul | fdv | mod | pow
  deriving DecidableEq
inductive C2 where | eq | ne | lt | le | gt | ge | inn | nin
  deriving DecidableEq
inductive Ty where | int | bool | str | tup | lst
  deriving DecidableEq
inductive Bi where | len | all | any | sum1 | sum2 | min | max | list | tuple | str | abs | int | lsth
  deriving DecidableEq
inductive Mt where | join | index
  deriving DecidableEq

abbrev B64 : Int := 18446744073709551616
abbrev BW : Nat := 2 ^ 9000
def addP : PV → PV → Option PV
  | .int i, .int j => some (.int (i + j))
  | .str x, .str y => if x.length + y.length ≤ SZ then some (.str (x ++ y)) else none
  | .lst x, .lst y => if x.length + y.length ≤ SZ then some (.lst (x ++ y)) else none
  | .tup x, .tup y => if x.length + y.length ≤ SZ then some (.tup (x ++ y)) else none
  | _, _ => none
def small (i : Int) : Bool := decide (-B64 < i) && decide (i < B64)
def mulP : PV → PV → Option PV
  | .int i, .int j => if small i || small j then some (.int (i * j)) else if i.natAbs < BW ∧ j.natAbs < BW then some (.int (i * j)) else none
  | .str x, .int j => if x.length * j.toNat ≤ SZ ∧ -9223372036854775808 ≤ j ∧ j < 9223372036854775808 then some (.str (List.replicate j.toNat x).flatten) else none
  | .tup x, .int j => if 0 < x.length ∧ 2 ≤ j ∧ j ≤ 1000 ∧ x.length ≤ 1000 then some (.tup (List.replicate j.toNat x).flatten) else if j = 1 then some (.tup x) else none
  | _, _ => none
def op2 : O2 → PV → PV → Option PV
  | .add, a, b => addP a b
  | .sub, .int i, .int j => some (.int (i - j))
  | .mul, a, b => mulP a b
  | .fdv, .int i, .int j => if 0 < j ∧ j.natAbs < BW then some (.int (i / j)) else none
  | .mod, .int i, .int j => if 0 < j then some (.int (i % j)) else none
  | .pow, .int i, .int j => if 0 ≤ j ∧ j ≤ 1000000 ∧ small i then some (.int (i ^ j.toNat)) else none
  | _, _, _ => none

/-- x op= y -/
def augP : O2 → PV → PV → Option PV
  | .add, .int i, .int j => some (.int (i + j))
  | .sub, .int i, .int j => some (.int (i - j))
  | .mul, .int i, .int j => if small i || small j then some (.int (i * j)) else none
  | .add, .str x, .str y => if x.length + y.length ≤ SZ then some (.str (x ++ y)) else none
  | _, _, _ => none

def ltS (x y : List Nat) : Bool := decide (x < y)
def inP (a b : PV) : Option Bool :=
  match b with
  | .str y => (match a with | .str [c] => some (y.contains c) | _ => none)
  | .tup l => if isD a && isDs l && Nat.ble (min (deps l) (dep a)) 64 then some (l.any fun z => eqP z a) else none
  | .lst l => if isD a && isDs l && Nat.ble (min (deps l) (dep a)) 64 then some (l.any fun z => eqP z a) else none
  | _ => none
def cmp : C2 → PV → PV → Option Bool
  | .eq, a, b => eqC a b
  | .ne, a, b => (eqC a b).map not
  | .lt, .int i, .int j => some (decide (i < j))
  | .le, .int i, .int j => some (decide (i ≤ j))
  | .gt, .int i, .int j => some (decide (j < i))
  | .ge, .int i, .int j => some (decide (j ≤ i))
  | .lt, .str x, .str y => some (ltS x y)
  | .inn, a, b => inP a b
  | .nin, a, b => (inP a b).map not
  | _, _, _ => none
def isTy : Ty → PV → Bool
  | .int, .int _ => true
  | .int, .bl _ => true
  | .bool, .bl _ => true
  | .str, .str _ => true
  | .tup, .tup _ => true
  | .lst, .lst _ => true
  | _, _ => false
def pIx (n : Nat) (i : Int) : Option Nat := if 0 ≤ i then (if i < n then some i.toNat else none) else if -(n : Int) ≤ i then some (i + n).toNat else none
def idxP : PV → PV → Option PV
  | .tup l, .int i => (pIx l.length i).bind fun j => l[j]?
  | .lst l, .int i => (pIx l.length i).bind fun j => l[j]?
  | .fro l, .int i => (pIx l.length i).bind fun j => (l[j]?).map .int
  | .str x, .int i => (pIx x.length i).bind fun j => (x[j]?).map fun c => .str [c]
  | _, _ => none
def sIx (n d : Nat) : Option Int → Nat
  | none => d
  | some i => if i < 0 then (i + (n : Int)).toNat else min i.toNat n
def cut {α : Type} (l : List α) (lo hi : Option Int) : List α := (l.drop (sIx l.length 0 lo)).take (sIx l.length l.length hi - sIx l.length 0 lo)
def sliP : PV → Option Int → Option Int → Option PV
  | .tup l, lo, hi => some (.tup (cut l lo hi))
  | .lst l, lo, hi => some (.lst (cut l lo hi))
  | .fro l, lo, hi => some (.lst ((cut l lo hi).map .int))
  | .str x, lo, hi => some (.str (cut x lo hi))
  | _, _, _ => none
def asBl : PV → Option Bool
  | .bl b => some b
  | _ => none
def pBls : List PV → Option (List Bool)
  | [] => some []
  | .bl b :: r => (pBls r).map (b :: ·)
  | _ :: _ => none
def pInts : List PV → Option (List Int)
  | [] => some []
  | .int i :: r => (pInts r).map (i :: ·)
  | _ :: _ => none
def pStrs : List PV → Option (List (List Nat))
  | [] => some []
  | .str x :: r => (pStrs r).map (x :: ·)
  | _ :: _ => none
def pLsts : List PV → Option (List (List PV))
  | [] => some []
  | .lst x :: r => (pLsts r).map (x :: ·)
  | _ :: _ => none
def minI : Int → List Int → Int
  | a, [] => a
  | a, b :: r => minI (if b < a then b else a) r
def maxI : Int → List Int → Int
  | a, [] => a
  | a, b :: r => maxI (if a < b then b else a) r
/-- joined texts -/
def joinS (s : List Nat) : List (List Nat) → List Nat
  | [] => []
  | [x] => x
  | x :: y :: r => x ++ (s ++ joinS s (y :: r))
/-- the figures of a number in base 10, by their signs -/
def decN : Nat → Nat → List Nat
  | 0, _ => []
  | f + 1, n => if n < 10 then [48 + n] else decN f (n / 10) ++ [48 + n % 10]
def bi : Bi → List PV → Option PV
  | .len, [.tup l] => some (.int l.length)
  | .len, [.lst l] => some (.int l.length)
  | .len, [.fro l] => some (.int l.length)
  | .len, [.str l] => some (.int l.length)
  | .all, [.lst l] => (pBls l).map fun bs => .bl (bs.all id)
  | .any, [.lst l] => (pBls l).map fun bs => .bl (bs.any id)
  | .sum1, [.lst l] => (pInts l).map fun ns => .int ns.sum
  | .sum2, [.lst l, .lst []] => (pLsts l).bind fun ls => if ls.flatten.length ≤ SZ then some (.lst ls.flatten) else none
  | .min, [.lst l] => (pInts l).bind fun ns => (match ns with | [] => none | a :: r => some (.int (minI a r)))
  | .max, [.lst l] => (pInts l).bind fun ns => (match ns with | [] => none | a :: r => some (.int (maxI a r)))
  | .list, [.lst l] => some (.lst l)
  | .list, [.tup l] => some (.lst l)
  | .list, [.str x] => some (.lst (x.map fun c => .str [c]))
  | .lsth, [.lst l] => some (.lst l)
  | .lsth, [.tup l] => some (.lst l)
  | .tuple, [.lst l] => some (.tup l)
  | .tuple, [.tup l] => some (.tup l)
  | .str, [.int i] => if 0 ≤ i ∧ i.toNat < 10 ^ 200 then some (.str (decN 200 i.toNat)) else none
  | .abs, [.int i] => some (.int (if i < 0 then -i else i))
  | .int, [.int i] => some (.int i)
  | .int, [.bl b] => some (.int (b2i b))
  | _, _ => none
def mt : Mt → PV → List PV → Option PV
  | .join, .str s, [.lst l] => (pStrs l).bind fun xs => if (xs.map List.length).sum + xs.length * s.length ≤ SZ then some (.str (joinS s xs)) else none
  | .join, .str s, [.tup l] => (pStrs l).bind fun xs => if (xs.map List.length).sum + xs.length * s.length ≤ SZ then some (.str (joinS s xs)) else none
  | .index, .str s, [.str [c]] => (s.findIdx? (· == c)).map fun (j : Nat) => .int j
  | _, _, _ => none
/-- is it a receiver of the method -/
def recv : Mt → PV → Bool
  | .join, .str _ => true
  | .index, .str _ => true
  | _, _ => false
def rng (lo hi : Int) : Option (List PV) := if (hi - lo).toNat ≤ SZ ∧ -4611686018427387904 ≤ lo ∧ lo < 4611686018427387904 ∧ -4611686018427387904 ≤ hi ∧ hi < 4611686018427387904 then some ((List.range (hi - lo).toNat).map fun (i : Nat) => PV.int (lo + (i : Int))) else none
def items : PV → Option (List PV)
  | .tup l => some l
  | .lst l => some l
  | .str x => some (x.map fun c => .str [c])
  | _ => none
def enum (i : Nat) : List PV → List PV
  | [] => []
  | x :: r => .tup [.int i, x] :: enum (i + 1) r
def zipP : List PV → List PV → List PV
  | x :: l, y :: r => .tup [x, y] :: zipP l r
  | _, _ => []

/-- a value in a dict of texts -/
def getD : List PV → List PV → List Nat → Option (Option PV)
  | [], vs, _ => (match vs with | [] => some none | _ => none)
  | k :: ks, vs, t => (match vs with | v :: vs => (match k with | .str x => if x == t then some (some v) else getD ks vs t | _ => none) | [] => none)
def hasD (ks : List PV) (t : List Nat) : Bool := ks.any fun k => match k with | .str x => x == t | _ => false
/-- a dict of texts from pairs: no key twice -/
def mkG : List (PV × PV) → List PV → Bool
  | [], _ => true
  | (k, _) :: r, seen => (match k with | .str t => !(hasD seen t) && mkG r (.str t :: seen) | _ => false)
def mkD (l : List (PV × PV)) : Option PV := if mkG l [] && Nat.ble l.length 15 then some (.dic (l.map (·.1)) (l.map (·.2))) else none
def prs : List PV → Option (List (PV × PV))
  | [] => some []
  | k :: r => (match r with | v :: r => (prs r).map ((k, v) :: ·) | [] => none)
def pPairs : List PV → Option (List (PV × PV))
  | [] => some []
  | p :: r => (match p with | .tup [k, v] => (pPairs r).map ((k, v) :: ·) | _ => none)
mutual
inductive Tg where
  | nm (i : Nat)
  | tp (ts : Tgs)
inductive Tgs where
  | nil
  | cons (t : Tg) (ts : Tgs)
end
def setS (s : List Sl) (i : Nat) (p : PV) : List Sl := s.set i (.va p)
mutual
def asg : Tg → PV → List Sl → Option (List Sl)
  | .nm i, p, s => some (setS s i p)
  | .tp ts, p, s => (match p with | .tup l => asgs ts l s | _ => none)
def asgs : Tgs → List PV → List Sl → Option (List Sl)
  | .nil, l, s => (match l with | [] => some s | _ => none)
  | .cons t ts, l, s => (match l with | x :: r => (asg t x s).bind fun s => asgs ts r s | [] => none)
end

mutual
inductive Ex where
  | non
  | bl (b : Bool)
  | int (i : Int)
  | str (x : List Nat)
  | loc (i : Nat)
  | glo (g : Nat)
  | tup (es : Exs)
  | lst (es : Exs)
  | op (o : O2) (a b : Ex)
  | neg (a : Ex)
  | and (a b : Ex)
  | or (a b : Ex)
  | nt (a : Ex)
  | cmp (o : C2) (a b : Ex)
  | chn (o o' : C2) (a b c : Ex)
  | isn (neg : Bool) (a : Ex)
  | isi (t : Ty) (a : Ex)
  | ife (t : Tt) (a b : Ex)
  | idx (a b : Ex)
  | sli (a : Ex) (lo hi : Oe)
  | call (f : Nat) (es : Exs)
  | bi (b : Bi) (es : Exs)
  | mt (m : Mt) (a : Ex) (es : Exs)
  | lc (own : List Nat) (elt : Ex) (tg : Tg) (it : It) (ifs : Tts)
  | lrg (it : It)
  | dcd (kvs : Exs)
  | dix (d k : Ex)
  | dof (e : Ex)
  | dgt (d k x : Ex)
  | rev (e : Ex)
  | stk
  | fnv (f : Nat)
  | clv (i : Nat) (es : Exs)
  | tst (bs : List Bool) (es : Exs)
  | new (c f : Nat) (es : Exs)
  | att (c x : Nat) (a : Ex)
  | mth (c f : Nat) (a : Ex) (es : Exs)
  | exf (i c x : Nat)
  | lsc (e : Ex)
  | pop (a : Ex)
  | rpe (a b : Ex)
  | xnw (c : Nat) (ks : List Bool) (es : Exs)
  | xat (tb : List (Nat × Nat)) (a : Ex)
  | xis (k : Nat) (tb : List (Nat × Bool)) (a : Ex)
  | xie (i k : Nat) (tb : List (Nat × Bool))
inductive It where
  | val (e : Ex)
  | rg1 (e : Ex)
  | rg2 (a b : Ex)
  | enu (e : Ex)
  | zip (a b : Ex)
inductive Exs where
  | nil
  | cons (e : Ex) (es : Exs)
inductive Tt where
  | v (e : Ex)
  | all (ts : Tts)
  | any (ts : Tts)
  | nt (t : Tt)
inductive Tts where
  | nil
  | cons (t : Tt) (ts : Tts)
inductive Oe where
  | no
  | so (e : Ex)
end
mutual
inductive Sm where
  | asg (i : Nat) (e : Ex)
  | cell (i : Nat) (es : Exs)
  | own (i : Nat) (es : Exs)
  | ast (tg : Tg) (e : Ex)
  | par (i j : Nat) (a b : Ex)
  | par3 (i j k : Nat) (a b c : Ex)
  | aug (i : Nat) (o : O2) (e : Ex)
  | stc (a k v : Ex)
  | ift (t : Tt) (a b : Sms)
  | whl (t : Tt) (b : Sms)
  | for (tg : Tg) (it : It) (b : Sms)
  | ret (e : Ex)
  | exp (e : Ex)
  | pas
  | brk
  | cnt
  | mat (e : Ex) (cs : Mcs)
  | rai (c : Nat) (ks : List Bool) (es : Exs)
  | try (b : Sms) (c : Nat) (i : Option Nat) (h : Sms)
  | app (i : Nat) (e : Ex)
  | sat (c x : Nat) (a v : Ex)
  | stk
  | frz (i : Nat)
inductive Sms where
  | nil
  | cons (s : Sm) (r : Sms)
inductive Mcs where
  | nil
  | cons (ks : List (List Nat)) (b : Sms) (r : Mcs)
end
structure Fn where
  np : Nat
  ns : Nat
  body : Sms

inductive Fl where
  | nx
  | rt (p : PV)
  | bk
  | ct

/-- what the arguments of an exception must be: true a number that is shown -/
def okX : List Bool → List PV → Bool
  | [], l => l.isEmpty
  | b :: bs, l => (match l with
    | x :: r => (if b then (match x with | .int i => decide (0 ≤ i) && decide (i.toNat < 10 ^ 200) | _ => false) else true) && okX bs r
    | [] => false)
/-- read a name: a container of one's own is one's own no more -/
def getS (s : List Sl) (i : Nat) (m : List PV) : Res PV :=
  match s[i]? with
  | some (.va p) => .ok p s m
  | some (.ow p) => .ok p (s.set i (.va p)) m
  | _ => .stk
def wipe (s : List Sl) : List Nat → List Sl
  | [] => s
  | v :: vs => (wipe s vs).set v .un
def rest (s0 s : List Sl) : List Nat → List Sl
  | [] => s
  | v :: vs => (rest s0 s vs).set v (match s0[v]? with | some (.va p) => .va p | _ => .un)
/-- a comprehension's turns -/
def lcL (g : PV → List Sl → List PV → Res (Option PV)) : List PV → List Sl → List PV → Res (List PV)
  | [], s, m => .ok [] s m
  | x :: r, s, m => (g x s m).bnd fun o s m => (lcL g r s m).bnd fun ys s m => .ok (match o with | some y => y :: ys | none => ys) s m
def forL (b : PV → List Sl → List PV → Res Fl) : List PV → List Sl → List PV → Res Fl
  | [], s, m => .ok .nx s m
  | x :: r, s, m => (b x s m).bnd fun f s m =>
    match f with
    | .nx => forL b r s m
    | .ct => forL b r s m
    | .bk => .ok .nx s m
    | .rt p => .ok (.rt p) s m
def whlN (t : List Sl → List PV → Res Bool) (b : List Sl → List PV → Res Fl) : Nat → List Sl → List PV → Res Fl
  | 0, _, _ => .stk
  | n + 1, s, m => (t s m).bnd fun c s m =>
    if c then (b s m).bnd fun f s m =>
      match f with
      | .nx => whlN t b n s m
      | .ct => whlN t b n s m
      | .bk => .ok .nx s m
      | .rt p => .ok (.rt p) s m
    else .ok .nx s m
/-- what a comprehension's element raises is not served -/
def Res.nox {α : Type} : Res α → Res α
  | .exc _ _ _ => .stk
  | r => r

section
variable (G : List PV) (cf : Nat → List PV → List PV → CR)
mutual
def ev : Ex → List Sl → List PV → Res PV
  | .non, s, m => .ok .non s m
  | .bl b, s, m => .ok (.bl b) s m
  | .int i, s, m => .ok (.int i) s m
  | .str x, s, m => .ok (.str x) s m
  | .loc i, s, m => getS s i m
  | .glo g, s, m => lift G[g]? s m
  | .tup es, s, m => (evs es s m).bnd fun l s m => .ok (.tup l) s m
  | .lst es, s, m => (evs es s m).bnd fun l s m => .ok (.lst l) s m
  | .op o a b, s, m => (ev a s m).bnd fun x s m => (ev b s m).bnd fun y s m => lift (op2 o x y) s m
  | .neg a, s, m => (ev a s m).bnd fun x s m => lift (match x with | .int i => some (.int (-i)) | _ => none) s m
  | .and a b, s, m => (ev a s m).bnd fun x s m => (match x with | .bl true => ev b s m | .bl false => .ok (.bl false) s m | _ => .stk)
  | .or a b, s, m => (ev a s m).bnd fun x s m => (match x with | .bl false => ev b s m | .bl true => .ok (.bl true) s m | _ => .stk)
  | .nt a, s, m => (ev a s m).bnd fun x s m => lift ((asBl x).map fun b => .bl !b) s m
  | .cmp o a b, s, m => (ev a s m).bnd fun x s m => (ev b s m).bnd fun y s m => lift ((cmp o x y).map .bl) s m
  | .chn o o' a b c, s, m => (ev a s m).bnd fun x s m => (ev b s m).bnd fun y s m => (lift (cmp o x y) s m).bnd fun k s m =>
    if k then (ev c s m).bnd fun z s m => lift ((cmp o' y z).map .bl) s m else .ok (.bl false) s m
  | .isn n a, s, m => (ev a s m).bnd fun x s m => .ok (.bl ((match x with | .non => true | _ => false) != n)) s m
  | .isi t a, s, m => (ev a s m).bnd fun x s m => if isD x then .ok (.bl (isTy t x)) s m else .stk
  | .ife t a b, s, m => (evt t s m).bnd fun c s m => if c then ev a s m else ev b s m
  | .idx a b, s, m => (ev a s m).bnd fun x s m => (ev b s m).bnd fun y s m => lift (match x with | .ref n => (m[n]?).bind fun c => idxP c y | _ => idxP x y) s m
  | .sli a lo hi, s, m => (ev a s m).bnd fun x s m => (evo lo s m).bnd fun l s m => (evo hi s m).bnd fun h s m => lift (sliP x l h) s m
  | .call f es, s, m => (evs es s m).bnd fun l s m => (match cf f l m with | .stk => .stk | .ok p m => .ok p s m | .exc e m => .exc e s m)
  | .bi b es, s, m => (evs es s m).bnd fun l s m => lift (bi b l) s m
  | .mt k a es, s, m => (ev a s m).bnd fun x s m => if recv k x then (evs es s m).bnd fun l s m => lift (mt k x l) s m else .stk
  | .lc own elt tg it ifs, s, m => (evi it s m).bnd fun xs s m => if Nat.ble xs.length SZ then
    ((lcL (fun x s1 m => (lift (asg tg x s1) s1 m).bnd fun s2 _ m => (evall ifs s2 m).bnd fun c s3 m => if c then (ev elt s3 m).bnd fun y s4 m => .ok (some y) (wipe s4 own) m else .ok none (wipe s3 own) m) xs (wipe s own) m).nox).bnd fun ys s1 m =>
      .ok (.lst ys) (rest s s1 own) m else .stk
  | .lrg it, s, m => (evi it s m).bnd fun xs s m => .ok (.lst xs) s m
  | .dcd kvs, s, m => (evs kvs s m).bnd fun l s m => lift ((prs l).bind mkD) s m
  | .dix d k, s, m => (ev d s m).bnd fun y s m => (ev k s m).bnd fun z s m => lift (match y, z with | .dic ks vs, .str t => (getD ks vs t).bind fun o => o | _, _ => none) s m
  | .dof e, s, m => (ev e s m).bnd fun x s m => lift (match x with | .tup l => (pPairs l).bind mkD | _ => none) s m
  | .dgt d k x, s, m => (ev d s m).bnd fun y s m => (match y with
    | .dic ks vs => (ev k s m).bnd fun z s m => (ev x s m).bnd fun w s m => lift (match z with | .str t => (getD ks vs t).map fun o => o.getD w | _ => none) s m
    | _ => .stk)
  | .rev e, s, m => (ev e s m).bnd fun x s m => lift (match x with | .str t => some (.str t.reverse) | _ => none) s m
  | .stk, _, _ => .stk
  | .fnv f, s, m => .ok (.fn f) s m
  | .clv i es, s, m => (match s[i]? with
    | some (.va (.fn f)) => (evs es s m).bnd fun l s m => (match cf f l m with | .stk => .stk | .ok p m => .ok p s m | .exc e m => .exc e s m)
    | _ => .stk)
  | .tst bs es, s, m => (evst es bs s m).bnd fun l s m => if l.length ≤ SZ then .ok (.tup l) s m else .stk
  | .new c f es, s, m => (evs es s m).bnd fun l s m => (match cf f (.ref m.length :: l) (m ++ [.obj c []]) with | .stk => .stk | .ok .non m1 => .ok (.ref m.length) s m1 | .ok _ _ => .stk | .exc e m1 => .exc e s m1)
  | .att c x a, s, m => (ev a s m).bnd fun v s m => lift (match v with
    | .ref n => (match m[n]? with
      | some (.obj c' fs) => if c' == c then fs[x]? else none
      | _ => none)
    | _ => none) s m
  | .mth c f a es, s, m => (ev a s m).bnd fun v s m => (match v with
    | .ref n => (match m[n]? with
      | some (.obj c' _) => if c' == c then (evs es s m).bnd fun l s m => (match cf f (.ref n :: l) m with | .stk => .stk | .ok p m => .ok p s m | .exc e m => .exc e s m) else .stk
      | _ => .stk)
    | _ => .stk)
  | .exf i c x, s, m => (match s[i]? with
    | some (.ex c' fs) => if c' == c then lift fs[x]? s m else .stk
    | _ => .stk)
  | .lsc e, s, m => (ev e s m).bnd fun v s m => (match v with
    | .tup l => .ok (.ref m.length) s (m ++ [.lst l])
    | .lst l => .ok (.ref m.length) s (m ++ [.lst l])
    | _ => .stk)
  | .pop a, s, m => (ev a s m).bnd fun v s m => (match v with
    | .ref n => (match m[n]? with
      | some (.lst (x :: r)) => .ok x s (m.set n (.lst r))
      | _ => .stk)
    | _ => .stk)
  | .xnw c ks es, s, m => (evs es s m).bnd fun l s m => if okX ks l then .ok (.exc c l.reverse) s m else .stk
  | .xat tb a, s, m => (ev a s m).bnd fun v s m => lift (match v with
    | .exc c fs => (tb.lookup c).bind fun x => fs[x]?
    | _ => none) s m
  | .xis _ tb a, s, m => (ev a s m).bnd fun v s m => lift (match v with
    | .exc c _ => (tb.lookup c).map .bl
    | _ => none) s m
  | .xie i _ tb, s, m => (match s[i]? with
    | some (.ex c _) => lift ((tb.lookup c).map .bl) s m
    | _ => .stk)
  | .rpe a b, s, m => (ev a s m).bnd fun x s m => (ev b s m).bnd fun y s m => lift (if isD x && isD y && sameP x y && shw x then some (.bl true) else none) s m
def evi : It → List Sl → List PV → Res (List PV)
  | .val e, s, m => (ev e s m).bnd fun x s m => lift (items x) s m
  | .rg1 e, s, m => (ev e s m).bnd fun x s m => lift (match x with | .int j => rng 0 j | _ => none) s m
  | .rg2 a b, s, m => (ev a s m).bnd fun x s m => (ev b s m).bnd fun y s m => lift (match x, y with | .int i, .int j => rng i j | _, _ => none) s m
  | .enu e, s, m => (ev e s m).bnd fun x s m => lift ((items x).map (enum 0)) s m
  | .zip a b, s, m => (ev a s m).bnd fun x s m => (ev b s m).bnd fun y s m => lift ((items x).bind fun l => (items y).map fun r => zipP l r) s m
def evs : Exs → List Sl → List PV → Res (List PV)
  | .nil, s, m => .ok [] s m
  | .cons e es, s, m => (ev e s m).bnd fun x s m => (evs es s m).bnd fun l s m => .ok (x :: l) s m
/-- items beside each other, some with a star -/
def evst : Exs → List Bool → List Sl → List PV → Res (List PV)
  | .nil, bs, s, m => (match bs with | [] => .ok [] s m | _ :: _ => .stk)
  | .cons e es, bs, s, m => (match bs with
    | [] => .stk
    | b :: bs => (ev e s m).bnd fun x s m => (match b with
      | false => (evst es bs s m).bnd fun l s m => .ok (x :: l) s m
      | true => (match x with
        | .tup y => (evst es bs s m).bnd fun l s m => .ok (y ++ l) s m
        | .lst y => (evst es bs s m).bnd fun l s m => .ok (y ++ l) s m
        | _ => .stk)))
def evt : Tt → List Sl → List PV → Res Bool
  | .v e, s, m => (ev e s m).bnd fun x s m => lift (asBl x) s m
  | .all ts, s, m => evall ts s m
  | .any ts, s, m => evany ts s m
  | .nt t, s, m => (evt t s m).bnd fun c s m => .ok (!c) s m
def evall : Tts → List Sl → List PV → Res Bool
  | .nil, s, m => .ok true s m
  | .cons t ts, s, m => (evt t s m).bnd fun c s m => if c then evall ts s m else .ok false s m
def evany : Tts → List Sl → List PV → Res Bool
  | .nil, s, m => .ok false s m
  | .cons t ts, s, m => (evt t s m).bnd fun c s m => if c then .ok true s m else evany ts s m
def evo : Oe → List Sl → List PV → Res (Option Int)
  | .no, s, m => .ok none s m
  | .so e, s, m => (ev e s m).bnd fun x s m => lift (match x with | .int i => some (some i) | _ => none) s m
end

/-- of a while's turns -/
abbrev WF : Nat := 1000000
mutual
def xs : Sm → List Sl → List PV → Res Fl
  | .asg i e, s, m => (ev G cf e s m).bnd fun x s m => .ok .nx (setS s i x) m
  | .cell i es, s, m => (evs G cf es s m).bnd fun l s m => .ok .nx (setS s i (.ref m.length)) (m ++ [.lst l])
  | .own i es, s, m => (evs G cf es s m).bnd fun l s m => .ok .nx (s.set i (.ow (.lst l))) m
  | .ast tg e, s, m => (ev G cf e s m).bnd fun x s m => (lift (asg tg x s) s m).bnd fun s' _ m => .ok .nx s' m
  | .par i j a b, s, m => (ev G cf a s m).bnd fun x s m => (ev G cf b s m).bnd fun y s m => .ok .nx (setS (setS s i x) j y) m
  | .par3 i j k a b c, s, m => (ev G cf a s m).bnd fun x s m => (ev G cf b s m).bnd fun y s m => (ev G cf c s m).bnd fun z s m => .ok .nx (setS (setS (setS s i x) j y) k z) m
  | .aug i o e, s, m => (getS s i m).bnd fun x s m => (ev G cf e s m).bnd fun y s m => (lift (augP o x y) s m).bnd fun z s m => .ok .nx (setS s i z) m
  | .stc a k v, s, m => (ev G cf v s m).bnd fun z s m => (ev G cf a s m).bnd fun x s m => (ev G cf k s m).bnd fun y s m => (match x, y with
    | .ref n, .int i => (match m[n]? with
      | some (.lst l) => (match pIx l.length i with
        | some j => .ok .nx s (m.set n (.lst (l.set j z)))
        | none => .stk)
      | _ => .stk)
    | _, _ => .stk)
  | .ift t a b, s, m => (evt G cf t s m).bnd fun c s m => if c then xss a s m else xss b s m
  | .whl t b, s, m => whlN (fun s m => evt G cf t s m) (fun s m => xss b s m) WF s m
  | .for tg it b, s, m => (evi G cf it s m).bnd fun l s m => forL (fun x s m => (lift (asg tg x s) s m).bnd fun s' _ m => xss b s' m) l s m
  | .ret e, s, m => (ev G cf e s m).bnd fun x s m => .ok (.rt x) s m
  | .exp e, s, m => (ev G cf e s m).bnd fun _ s m => .ok .nx s m
  | .pas, s, m => .ok .nx s m
  | .brk, s, m => .ok .bk s m
  | .cnt, s, m => .ok .ct s m
  | .mat e cs, s, m => (ev G cf e s m).bnd fun x s m => (match x with
    | .str z => xm cs z s m
    | _ => .stk)
  | .rai c ks es, s, m => (evs G cf es s m).bnd fun l s m => if okX ks l then .exc (.exc c l.reverse) s m else .stk
  | .try b c i h, s, m => (match xss b s m with
    | .exc (.exc c' fs) s m => if c' == c then (match i with
        | some i => (xss h (s.set i (.ex c' fs)) m).nox.bnd fun f s m => .ok f (s.set i .un) m
        | none => (xss h s m).nox) else .exc (.exc c' fs) s m
    | r => r)
  | .app i e, s, m => (match s[i]? with
    | some (.ow (.lst _)) => (ev G cf e s m).bnd fun x s m => (match s[i]? with
      | some (.ow (.lst l)) => if Nat.blt l.length SZ then .ok .nx (s.set i (.ow (.lst (l ++ [x])))) m else .stk
      | _ => .stk)
    | _ => .stk)
  | .frz i, s, m => (getS s i m).bnd fun _ s m => .ok .nx s m
  | .sat c x a v, s, m => (ev G cf v s m).bnd fun z s m => (ev G cf a s m).bnd fun y s m => (match y with
    | .ref n => (match m[n]? with
      | some (.obj c' fs) => if c' == c then (if x < fs.length then .ok .nx s (m.set n (.obj c (fs.set x z))) else if x = fs.length then .ok .nx s (m.set n (.obj c (fs ++ [z]))) else .stk) else .stk
      | _ => .stk)
    | _ => .stk)
  | .stk, _, _ => .stk
def xss : Sms → List Sl → List PV → Res Fl
  | .nil, s, m => .ok .nx s m
  | .cons c r, s, m => (xs c s m).bnd fun f s m => (match f with
    | .nx => xss r s m
    | f => .ok f s m)
def xm : Mcs → List Nat → List Sl → List PV → Res Fl
  | .nil, _, s, m => .ok .nx s m
  | .cons ks b r, z, s, m => if ks.contains z then xss b s m else xm r z s m
end
end

/-- a call, so many calls deep at most -/
def callN (G : List PV) (F : List Fn) : Nat → Nat → List PV → List PV → CR
  | 0, _, _, _ => .stk
  | k + 1, f, as, m => match F[f]? with
    | none => .stk
    | some fn => if as.length == fn.np then (match xss G (callN G F k) fn.body (as.map .va ++ List.replicate (fn.ns - fn.np) .un) m with
      | .ok (.rt p) _ m => .ok p m
      | .ok .nx _ m => .ok .non m
      | .exc e _ m => .exc e m
      | _ => .stk) else .stk
end RA

/-! How own values lie in the abstract heap, how worlds grow, what a result wishes for. -/
namespace RA
open PySem L2

def KT (K : PySem.W.Frag) (a : Addr) (xs : List V) : Prop := ∃ (o : Obj) (its : Array Value) (n : Nat), K.lookup a = some o ∧ o.cls = .type "tuple" ∧ o.dict = none ∧ o.data = .seq its n ∧ its.size ≤ sizeLine ∧ Vals xs its.toList
def KL (K : PySem.W.Frag) (a : Addr) (xs : List V) : Prop := ∃ (o : Obj) (its : Array Value) (n : Nat), K.lookup a = some o ∧ o.cls = .type "list" ∧ o.dict = none ∧ o.data = .seq its n ∧ its.size ≤ sizeLine ∧ Vals xs its.toList

/-- a world: the abstract heap, the cells, what may be written here, what may be written at all, the exceptions that are held -/
structure Wd where
  H : Hp
  m : List Addr
  wr : Addr → Prop
  mb : Addr → Prop
  xs : List (Addr × Nat × Addr)

structure WOk (w : Wd) : Prop where
  sub : ∀ a, w.wr a → w.mb a
  mtr : ∀ a, w.mb a → w.H a ≠ none

structure Ext (w w' : Wd) : Prop where
  pre : ∀ (n : Nat) a, w.m[n]? = some a → w'.m[n]? = some a
  keep : ∀ a o, w.H a = some o → ¬ w.wr a → w'.H a = some o
  trk : ∀ a, w.H a ≠ none → w'.H a ≠ none
  mt : ∀ a, w'.mb a → w.mb a ∨ w.H a = none
  mkp : ∀ a, w.mb a → ¬ w.wr a → w'.mb a
  ws : ∀ a, w'.wr a → w.wr a ∨ w.H a = none
  xs : w'.xs = w.xs

theorem Ext.refl (w : Wd) : Ext w w := ⟨fun _ _ h => h, fun _ _ h _ => h, fun _ h => h, fun _ h => .inl h, fun _ h _ => h, fun _ h => .inl h, rfl⟩
theorem Ext.trans {a b c : Wd} (ok : WOk a) (e : Ext a b) (f : Ext b c) : Ext a c where
  pre := fun n x h => f.pre n x (e.pre n x h)
  keep := fun x o h hw => f.keep x o (e.keep x o h hw) fun z => (e.ws x z).elim hw fun q => by rw [q] at h; cases h
  trk := fun x h => f.trk x (e.trk x h)
  mt := fun x h => by
    rcases f.mt x h with z | z
    · exact e.mt x z
    · by_cases q : a.H x = none
      · exact .inr q
      · exact absurd z (e.trk x q)
  mkp := fun x h hw => f.mkp x (e.mkp x h hw) fun z => (e.ws x z).elim hw fun q => ok.mtr x h q
  ws := fun x h => by
    rcases f.ws x h with z | z
    · exact e.ws x z
    · by_cases q : a.H x = none
      · exact .inr q
      · exact absurd z (e.trk x q)
  xs := f.xs.trans e.xs

def StT (K : PySem.W.Frag) (w : Wd) (a : Addr) (xs : List V) : Prop := (∃ O, TPl O ∧ w.H a = some (.frz O (.tup xs)) ∧ ¬ w.mb a) ∨ KT K a xs
def StL (K : PySem.W.Frag) (w : Wd) (a : Addr) (xs : List V) : Prop := (Rd w.H a (.lst xs) ∧ ¬ w.mb a) ∨ KL K a xs
theorem StT.sq {K : PySem.W.Frag} {w : Wd} {a : Addr} {xs : List V} (h : StT K w a xs) : SqT K w.H a xs := h.elim (fun ⟨O, _, h, _⟩ => .inl (.inr ⟨O, h⟩)) fun ⟨o, its, n, h1, h2, _, h4⟩ => .inr ⟨o, its, n, h1, h2, h4⟩
theorem StL.sq {K : PySem.W.Frag} {w : Wd} {a : Addr} {xs : List V} (h : StL K w a xs) : SqL K w.H a xs := h.elim (fun z => .inl z.1) fun z => .inr z
theorem Ext.kept {w w' : Wd} (ok : WOk w) (e : Ext w w') {a : Addr} {o : HO} (h : w.H a = some o) (hm : ¬ w.mb a) : w'.H a = some o ∧ ¬ w'.mb a :=
  ⟨e.keep a o h fun z => hm (ok.sub a z), fun z => (e.mt a z).elim hm fun q => by rw [q] at h; cases h⟩
theorem Ext.rd {w w' : Wd} (ok : WOk w) (e : Ext w w') {a : Addr} {u : HO} (h : Rd w.H a u) (hm : ¬ w.mb a) : Rd w'.H a u ∧ ¬ w'.mb a := by
  rcases h with h | ⟨o, h⟩
  · obtain ⟨h1, h2⟩ := e.kept ok h hm
    exact ⟨.inl h1, h2⟩
  · obtain ⟨h1, h2⟩ := e.kept ok h hm
    exact ⟨.inr ⟨o, h1⟩, h2⟩
theorem StT.ext {K : PySem.W.Frag} {w w' : Wd} {a : Addr} {xs : List V} (ok : WOk w) (e : Ext w w') (h : StT K w a xs) : StT K w' a xs := by
  rcases h with ⟨O, h0, h1, h2⟩ | h
  · exact .inl ⟨O, h0, e.kept ok h1 h2⟩
  · exact .inr h
theorem StL.ext {K : PySem.W.Frag} {w w' : Wd} {a : Addr} {xs : List V} (ok : WOk w) (e : Ext w w') (h : StL K w a xs) : StL K w' a xs := by
  rcases h with ⟨h1, h2⟩ | h
  · exact .inl (e.rd ok h1 h2)
  · exact .inr h

/-- the tables: the written part, the names of the fields of the own exception classes -/
structure Tb where
  K : PySem.W.Frag
  fld : Nat → List Str
  fa : Nat → Option Addr := fun _ => none
  cla : Nat → Addr := fun _ => 0
  atn : Nat → List Str := fun _ => []
  xs : List (Nat × Addr × Nat × Addr) := []
  nx : Nat := 0
  xca : Nat → Addr := fun _ => 0

mutual
def RepV (T : Tb) (w : Wd) : PV → V → Prop
  | .non, v => v = .non
  | .bl b, v => v = .bl b
  | .int i, v => v = .int i
  | .str x, v => v = .str ⟨x.toArray⟩ ∧ x.length ≤ SZ
  | .tup l, v => ∃ a xs, v = .ref a ∧ StT T.K w a xs ∧ Reps T w l xs
  | .lst l, v => ∃ a xs, v = .ref a ∧ w.H a = some (.lst xs) ∧ ¬ w.mb a ∧ Reps T w l xs
  | .fro l, v => ∃ a, v = .ref a ∧ StL T.K w a (l.map V.int)
  | .ref n, v => ∃ a, v = .ref a ∧ w.m[n]? = some a
  | .exc c fs, v => ∃ a d vs, v = .ref a ∧ w.H a = some (exo a (T.xca c) (some d)) ∧ ¬ w.mb a ∧ w.H d = some (exd d ((T.fld c).zip vs)) ∧ ¬ w.mb d ∧ (T.fld c).length = vs.length ∧ Reps T w fs vs
  | .dic ks vs, v => ∃ a kvs, v = .ref a ∧ w.H a = some (.dK kvs) ∧ ¬ w.mb a ∧ Reps T w ks (kvs.map fun p => kV p.1) ∧ Reps T w vs (kvs.map (·.2))
  | .fn f, v => ∃ a, v = .ref a ∧ T.fa f = some a
  | _, _ => False
def Reps (T : Tb) (w : Wd) : List PV → List V → Prop
  | [], vs => vs = []
  | p :: ps, vs => ∃ v r, vs = v :: r ∧ RepV T w p v ∧ Reps T w ps r
end

mutual
theorem RepV.ext {T : Tb} {w w' : Wd} (ok : WOk w) (e : Ext w w') : ∀ (p : PV) (v : V), RepV T w p v → RepV T w' p v
  | .non, _, h => h
  | .bl _, _, h => h
  | .int _, _, h => h
  | .str _, _, h => h
  | .tup l, v, h => by
    simp only [RepV] at h ⊢
    obtain ⟨a, xs, h1, h2, h3⟩ := h
    exact ⟨a, xs, h1, h2.ext ok e, Reps.ext ok e l xs h3⟩
  | .lst l, v, h => by
    simp only [RepV] at h ⊢
    obtain ⟨a, xs, h1, h2, h3, h4⟩ := h
    obtain ⟨k1, k2⟩ := e.kept ok h2 h3
    exact ⟨a, xs, h1, k1, k2, Reps.ext ok e l xs h4⟩
  | .fro l, v, h => by
    simp only [RepV] at h ⊢
    obtain ⟨a, h1, h2⟩ := h
    exact ⟨a, h1, h2.ext ok e⟩
  | .ref n, v, h => by
    simp only [RepV] at h ⊢
    obtain ⟨a, h1, h2⟩ := h
    exact ⟨a, h1, e.pre _ _ h2⟩
  | .exc c fs, v, h => by
    simp only [RepV] at h ⊢
    obtain ⟨a, d, vs, h1, h2, h3, h4, h5, h6, h7⟩ := h
    obtain ⟨k1, k2⟩ := e.kept ok h2 h3
    obtain ⟨k3, k4⟩ := e.kept ok h4 h5
    exact ⟨a, d, vs, h1, k1, k2, k3, k4, h6, Reps.ext ok e fs vs h7⟩
  | .dic ks vs, v, h => by
    simp only [RepV] at h ⊢
    obtain ⟨a, kvs, h1, h2, h3, h4, h5⟩ := h
    obtain ⟨k1, k2⟩ := e.kept ok h2 h3
    exact ⟨a, kvs, h1, k1, k2, Reps.ext ok e ks _ h4, Reps.ext ok e vs _ h5⟩
  | .fn _, _, h => by simp only [RepV] at h ⊢; exact h
  | .cl _, _, h => by simp only [RepV] at h
  | .obj _ _, _, h => by simp only [RepV] at h
theorem Reps.ext {T : Tb} {w w' : Wd} (ok : WOk w) (e : Ext w w') : ∀ (ps : List PV) (vs : List V), Reps T w ps vs → Reps T w' ps vs
  | [], _, h => h
  | p :: ps, vs, h => by
    simp only [Reps] at h ⊢
    obtain ⟨v, r, h1, h2, h3⟩ := h
    exact ⟨v, r, h1, RepV.ext ok e p v h2, Reps.ext ok e ps r h3⟩
end

/-- a container of one's own -/
def ORep (T : Tb) (w : Wd) (a : Addr) : PV → Prop
  | .lst l => ∃ xs, w.H a = some (.lst xs) ∧ Reps T w l xs
  | _ => False
/-- a cell -/
def CRep (T : Tb) (w : Wd) (a : Addr) : PV → Prop
  | .lst l => ∃ xs, w.H a = some (.lst xs) ∧ Reps T w l xs
  | .obj c fs => ∃ dx vs, w.H a = some (.ins (T.cla c) dx ((T.atn c).zip vs)) ∧ vs.length ≤ (T.atn c).length ∧ Reps T w fs vs
  | _ => False

structure CRel (T : Tb) (w : Wd) (mu : List PV) : Prop where
  mlen : w.m.length = mu.length
  cl : ∀ (n : Nat) c a, mu[n]? = some c → w.m[n]? = some a → CRep T w a c ∧ w.wr a
  inj : ∀ (n n' : Nat) a, w.m[n]? = some a → w.m[n']? = some a → n = n'

structure FRel (T : Tb) (w : Wd) (σ : St) (sl : List Sl) (mu : List PV) : Prop where
  wok : WOk w
  len : sl.length = σ.length
  va : ∀ (i : Nat) p, sl[i]? = some (.va p) → ∃ v, σ[i]? = some (some v) ∧ RepV T w p v
  ow : ∀ (i : Nat) p, sl[i]? = some (.ow p) → ∃ a, σ[i]? = some (some (.ref a)) ∧ ORep T w a p ∧ w.wr a ∧ a ∉ w.m
  ows : ∀ (i j : Nat) p q a, sl[i]? = some (.ow p) → sl[j]? = some (.ow q) → σ[i]? = some (some (.ref a)) → σ[j]? = some (some (.ref a)) → i = j
  cel : CRel T w mu
  ex : ∀ (i : Nat) c fs, sl[i]? = some (.ex c fs) → ∃ a d vs, σ[i]? = some (some (.ref a)) ∧ (i, a, c, d) ∈ T.xs ∧ w.H d = some (.xd ((T.fld c).zip vs)) ∧ (T.fld c).length = vs.length ∧ ¬ w.mb d ∧ Reps T w fs vs

/-- an exception that flies: its class's value, its own dict -/
structure Xc where
  cls : Nat → Option Value
def RepX (T : Tb) (C : Nat → Value) (w : Wd) (e : PV) (cls : Value) (d : Option Addr) : Prop :=
  ∃ c fs d' vs, e = .exc c fs ∧ c < T.nx ∧ cls = C c ∧ d = some d' ∧ w.H d' = some (.xd ((T.fld c).zip vs)) ∧ (T.fld c).length = vs.length ∧ ¬ w.mb d' ∧ Reps T w fs vs

section
variable (T : Tb) (C : Nat → Value) (W : WX) (σ : St)
/-- what a result wishes for -/
def Pst {α : Type} (w : Wd) (r : Res α) (Q : α → List Sl → List PV → Wd → Prop) : Prop :=
  match r with
  | .stk => False
  | .ok a sl mu => ∀ w', Ext w w' → FRel T w' σ sl mu → Q a sl mu w'
  | .exc e sl mu => ∀ cls d w', Ext w w' → FRel T w' σ sl mu → RepX T C w' e cls d → W cls d σ w'.H
variable {T C W σ}
theorem Pst.mono {α : Type} {w : Wd} {r : Res α} {Q Q' : α → List Sl → List PV → Wd → Prop} (h : Pst T C W σ w r Q) (f : ∀ a sl mu w', Ext w w' → FRel T w' σ sl mu → Q a sl mu w' → Q' a sl mu w') : Pst T C W σ w r Q' := by
  cases r with
  | stk => exact h
  | ok a sl mu => exact fun w' e F => f a sl mu w' e F (h w' e F)
  | exc x sl mu => exact h
theorem Pst.bnd {α β : Type} {w : Wd} {r : Res α} {f : α → List Sl → List PV → Res β} {Q : β → List Sl → List PV → Wd → Prop} (ok : WOk w) (h : Pst T C W σ w (r.bnd f) Q) : Pst T C W σ w r fun a sl mu w1 => Pst T C W σ w1 (f a sl mu) Q := by
  cases r with
  | stk => exact h
  | ok a sl mu =>
    intro w1 e1 F1
    have h' : Pst T C W σ w (f a sl mu) Q := h
    generalize f a sl mu = q at h' ⊢
    cases q with
    | stk => exact h'
    | ok b sl' mu' => exact fun w2 e2 F2 => h' w2 (e1.trans ok e2) F2
    | exc x sl' mu' => exact fun cls d w2 e2 F2 rx => h' cls d w2 (e1.trans ok e2) F2 rx
  | exc x sl mu => exact h
theorem Pst.lift {α : Type} {w : Wd} {o : Option α} {sl : List Sl} {mu : List PV} {Q : α → List Sl → List PV → Wd → Prop} (h : Pst T C W σ w (lift o sl mu) Q) : ∃ a, o = some a ∧ ∀ w', Ext w w' → FRel T w' σ sl mu → Q a sl mu w' := by
  cases o with
  | none => exact h.elim
  | some a => exact ⟨a, rfl, h⟩
end

/-- an expression's reading by the interpreter -/
def tE (T : Tb) (C : Nat → Value) (W : WX) (m : List Sl → List PV → Res PV) : TE := fun σ H Q => ∃ w sl mu, w.H = H ∧ FRel T w σ sl mu ∧ Pst T C W σ w (m sl mu) fun p _ _ w' => ∀ v, RepV T w' p v → Q v w'.H
def tA (T : Tb) (C : Nat → Value) (W : WX) (m : List Sl → List PV → Res (List PV)) : TA := fun σ H Q => ∃ w sl mu, w.H = H ∧ FRel T w σ sl mu ∧ Pst T C W σ w (m sl mu) fun ps _ _ w' => ∀ vs, Reps T w' ps vs → Q vs w'.H
def tT (T : Tb) (C : Nat → Value) (W : WX) (m : List Sl → List PV → Res Bool) : TT := fun σ H Q => ∃ w sl mu, w.H = H ∧ FRel T w σ sl mu ∧ Pst T C W σ w (m sl mu) fun b _ _ w' => Q b w'.H

theorem PE.imp {X : Cx} {e : Expr} {t t' : TE} (h : PE X e t) (f : ∀ σ H Q, t' σ H Q → t σ H Q) : PE X e t' := ⟨fun pins s σ H Q I q => h.run pins s σ H Q I (f σ H Q q)⟩
theorem PA.imp {X : Cx} {e : List Expr} {t t' : TA} (h : PA X e t) (f : ∀ σ H Q, t' σ H Q → t σ H Q) : PA X e t' := ⟨fun p pins s σ H Q I q => h.run p pins s σ H Q I (f σ H Q q)⟩
theorem PT.imp {X : Cx} {e : Expr} {t t' : TT} (h : PT X e t) (f : ∀ σ H Q, t' σ H Q → t σ H Q) : PT X e t' := ⟨fun pins s σ H Q I q => h.run pins s σ H Q I (f σ H Q q)⟩

/-- the handlers' names do not matter to values -/
def Tb.at (T : Tb) (E : List (Nat × Addr × Nat × Addr)) : Tb := { T with xs := E }
mutual
theorem RepV.at {T : Tb} {E : List (Nat × Addr × Nat × Addr)} {w : Wd} : ∀ (p : PV) (v : V), RepV (T.at E) w p v ↔ RepV T w p v
  | .non, _ => by simp only [RepV]
  | .bl _, _ => by simp only [RepV]
  | .int _, _ => by simp only [RepV]
  | .str _, _ => by simp only [RepV]
  | .tup l, v => by
    simp only [RepV]
    exact ⟨fun ⟨a, xs, h1, h2, h3⟩ => ⟨a, xs, h1, h2, (Reps.at l xs).mp h3⟩, fun ⟨a, xs, h1, h2, h3⟩ => ⟨a, xs, h1, h2, (Reps.at l xs).mpr h3⟩⟩
  | .lst l, v => by
    simp only [RepV]
    exact ⟨fun ⟨a, xs, h1, h2, h3, h4⟩ => ⟨a, xs, h1, h2, h3, (Reps.at l xs).mp h4⟩, fun ⟨a, xs, h1, h2, h3, h4⟩ => ⟨a, xs, h1, h2, h3, (Reps.at l xs).mpr h4⟩⟩
  | .fro l, v => by simp only [RepV]; exact Iff.rfl
  | .ref n, v => by simp only [RepV]
  | .exc c fs, v => by
    simp only [RepV]
    exact ⟨fun ⟨a, d, vs, h1, h2, h3, h4, h5, h6, h7⟩ => ⟨a, d, vs, h1, h2, h3, h4, h5, h6, (Reps.at fs vs).mp h7⟩, fun ⟨a, d, vs, h1, h2, h3, h4, h5, h6, h7⟩ => ⟨a, d, vs, h1, h2, h3, h4, h5, h6, (Reps.at fs vs).mpr h7⟩⟩
  | .dic ks vs, v => by
    simp only [RepV]
    exact ⟨fun ⟨a, kvs, h1, h2, h3, h4, h5⟩ => ⟨a, kvs, h1, h2, h3, (Reps.at ks _).mp h4, (Reps.at vs _).mp h5⟩, fun ⟨a, kvs, h1, h2, h3, h4, h5⟩ => ⟨a, kvs, h1, h2, h3, (Reps.at ks _).mpr h4, (Reps.at vs _).mpr h5⟩⟩
  | .fn _, _ => by simp only [RepV]; exact Iff.rfl
  | .cl _, _ => by simp only [RepV]
  | .obj _ _, _ => by simp only [RepV]
theorem Reps.at {T : Tb} {E : List (Nat × Addr × Nat × Addr)} {w : Wd} : ∀ (ps : List PV) (vs : List V), Reps (T.at E) w ps vs ↔ Reps T w ps vs
  | [], _ => by simp only [Reps]
  | p :: ps, vs => by
    simp only [Reps]
    exact ⟨fun ⟨v, r, h1, h2, h3⟩ => ⟨v, r, h1, (RepV.at p v).mp h2, (Reps.at ps r).mp h3⟩, fun ⟨v, r, h1, h2, h3⟩ => ⟨v, r, h1, (RepV.at p v).mpr h2, (Reps.at ps r).mpr h3⟩⟩
end
theorem ORep.at {T : Tb} {E : List (Nat × Addr × Nat × Addr)} {w : Wd} {a : Addr} {c : PV} : ORep (T.at E) w a c ↔ ORep T w a c := by
  cases c with
  | lst l => exact ⟨fun ⟨xs, h1, h2⟩ => ⟨xs, h1, (Reps.at l xs).mp h2⟩, fun ⟨xs, h1, h2⟩ => ⟨xs, h1, (Reps.at l xs).mpr h2⟩⟩
  | _ => exact Iff.rfl
theorem CRep.at {T : Tb} {E : List (Nat × Addr × Nat × Addr)} {w : Wd} {a : Addr} {c : PV} : CRep (T.at E) w a c ↔ CRep T w a c := by
  cases c with
  | lst l => exact ⟨fun ⟨xs, h1, h2⟩ => ⟨xs, h1, (Reps.at l xs).mp h2⟩, fun ⟨xs, h1, h2⟩ => ⟨xs, h1, (Reps.at l xs).mpr h2⟩⟩
  | obj c fs => exact ⟨fun ⟨dx, vs, h1, h2, h3⟩ => ⟨dx, vs, h1, h2, (Reps.at fs vs).mp h3⟩, fun ⟨dx, vs, h1, h2, h3⟩ => ⟨dx, vs, h1, h2, (Reps.at fs vs).mpr h3⟩⟩
  | _ => exact Iff.rfl
theorem CRel.at {T : Tb} {E : List (Nat × Addr × Nat × Addr)} {w : Wd} {mu : List PV} : CRel (T.at E) w mu ↔ CRel T w mu :=
  ⟨fun h => ⟨h.mlen, fun n c a h1 h2 => ⟨CRep.at.mp (h.cl n c a h1 h2).1, (h.cl n c a h1 h2).2⟩, h.inj⟩, fun h => ⟨h.mlen, fun n c a h1 h2 => ⟨CRep.at.mpr (h.cl n c a h1 h2).1, (h.cl n c a h1 h2).2⟩, h.inj⟩⟩
/-- into a handler with a name -/
theorem FRel.into {T : Tb} {w : Wd} {σ : St} {sl : List Sl} {mu : List PV} {i c : Nat} {fs : List PV} {a d : Addr} {vs : List V} (F : FRel T w σ sl mu) (h3 : w.H d = some (.xd ((T.fld c).zip vs))) (h4 : (T.fld c).length = vs.length) (h5 : ¬ w.mb d) (h6 : Reps T w fs vs) :
    FRel (T.at ((i, a, c, d) :: T.xs)) w (σ.set i (some (.ref a))) (sl.set i (.ex c fs)) mu := by
  have hl := F.len
  refine ⟨F.wok, by simp [hl], fun j q hj => ?_, fun j q hj => ?_, fun j j' q q' a' hj hj' s1 s2 => ?_, CRel.at.mpr F.cel, fun j c' fs' hj => ?_⟩
  · by_cases e : i = j
    · subst e
      by_cases z : i < sl.length
      · rw [List.getElem?_set_self z] at hj; cases hj
      · rw [List.getElem?_eq_none (by simp; omega)] at hj; cases hj
    · rw [List.getElem?_set_ne e] at hj
      rw [List.getElem?_set_ne e]
      obtain ⟨v, k1, k2⟩ := F.va j q hj
      exact ⟨v, k1, (RepV.at q v).mpr k2⟩
  · by_cases e : i = j
    · subst e
      by_cases z : i < sl.length
      · rw [List.getElem?_set_self z] at hj; cases hj
      · rw [List.getElem?_eq_none (by simp; omega)] at hj; cases hj
    · rw [List.getElem?_set_ne e] at hj
      rw [List.getElem?_set_ne e]
      obtain ⟨b, k1, k2, k3⟩ := F.ow j q hj
      exact ⟨b, k1, ORep.at.mpr k2, k3⟩
  · have ne : ∀ {k : Nat} {q : PV}, (sl.set i (.ex c fs))[k]? = some (.ow q) → i ≠ k := fun {k q} h e => by
      subst e
      by_cases z : i < sl.length
      · rw [List.getElem?_set_self z] at h; cases h
      · rw [List.getElem?_eq_none (by simp; omega)] at h; cases h
    have n1 := ne hj
    have n2 := ne hj'
    rw [List.getElem?_set_ne n1] at hj s1
    rw [List.getElem?_set_ne n2] at hj' s2
    exact F.ows j j' q q' a' hj hj' s1 s2
  · by_cases e : i = j
    · subst e
      by_cases z : i < sl.length
      · rw [List.getElem?_set_self z] at hj
        cases hj
        exact ⟨a, d, vs, by rw [List.getElem?_set_self (by omega)], List.mem_cons_self, h3, h4, h5, (Reps.at fs vs).mpr h6⟩
      · rw [List.getElem?_eq_none (by simp; omega)] at hj; cases hj
    · rw [List.getElem?_set_ne e] at hj
      rw [List.getElem?_set_ne e]
      obtain ⟨b, d', vs', k1, k2, k3, k4, k5, k6⟩ := F.ex j c' fs' hj
      exact ⟨b, d', vs', k1, List.mem_cons_of_mem _ k2, k3, k4, k5, (Reps.at fs' vs').mpr k6⟩
/-- and out of it -/
theorem FRel.outof {T : Tb} {w : Wd} {σ : St} {sl : List Sl} {mu : List PV} {i c : Nat} {a d : Addr} (F : FRel (T.at ((i, a, c, d) :: T.xs)) w σ sl mu) : FRel T w (σ.set i none) (sl.set i .un) mu := by
  have hl := F.len
  refine ⟨F.wok, by simp [hl], fun j q hj => ?_, fun j q hj => ?_, fun j j' q q' a' hj hj' s1 s2 => ?_, CRel.at.mp F.cel, fun j c' fs' hj => ?_⟩
  · by_cases e : i = j
    · subst e
      by_cases z : i < sl.length
      · rw [List.getElem?_set_self z] at hj; cases hj
      · rw [List.getElem?_eq_none (by simp; omega)] at hj; cases hj
    · rw [List.getElem?_set_ne e] at hj
      rw [List.getElem?_set_ne e]
      obtain ⟨v, k1, k2⟩ := F.va j q hj
      exact ⟨v, k1, (RepV.at q v).mp k2⟩
  · by_cases e : i = j
    · subst e
      by_cases z : i < sl.length
      · rw [List.getElem?_set_self z] at hj; cases hj
      · rw [List.getElem?_eq_none (by simp; omega)] at hj; cases hj
    · rw [List.getElem?_set_ne e] at hj
      rw [List.getElem?_set_ne e]
      obtain ⟨b, k1, k2, k3⟩ := F.ow j q hj
      exact ⟨b, k1, ORep.at.mp k2, k3⟩
  · have ne : ∀ {k : Nat} {q : PV}, (sl.set i .un)[k]? = some (.ow q) → i ≠ k := fun {k q} h e => by
      subst e
      by_cases z : i < sl.length
      · rw [List.getElem?_set_self z] at h; cases h
      · rw [List.getElem?_eq_none (by simp; omega)] at h; cases h
    have n1 := ne hj
    have n2 := ne hj'
    rw [List.getElem?_set_ne n1] at hj s1
    rw [List.getElem?_set_ne n2] at hj' s2
    exact F.ows j j' q q' a' hj hj' s1 s2
  · by_cases e : i = j
    · subst e
      by_cases z : i < sl.length
      · rw [List.getElem?_set_self z] at hj; cases hj
      · rw [List.getElem?_eq_none (by simp; omega)] at hj; cases hj
    · rw [List.getElem?_set_ne e] at hj
      rw [List.getElem?_set_ne e]
      obtain ⟨b, d', vs', k1, k2, k3, k4, k5, k6⟩ := F.ex j c' fs' hj
      refine ⟨b, d', vs', k1, ?_, k3, k4, k5, (Reps.at fs' vs').mp k6⟩
      rcases List.mem_cons.mp k2 with z | z
      · cases z; exact absurd rfl e
      · exact z

/-! ### the world changes -/
/-- a new thing that never changes -/
def Wd.put (w : Wd) (p : Addr) (o : HO) : Wd := { w with H := upd w.H p o }
theorem Wd.put_ext {w : Wd} {p : Addr} {o : HO} (hp : w.H p = none) : Ext w (w.put p o) where
  pre := fun _ _ h => h
  keep := fun a u h _ => by show upd w.H p o a = _; rw [upd_ne (ne_of_none h hp)]; exact h
  trk := fun a h => by
    show upd w.H p o a ≠ none
    by_cases e : a = p
    · rw [e, upd_same]; simp
    · rw [upd_ne e]; exact h
  mt := fun _ h => .inl h
  mkp := fun _ h _ => h
  ws := fun _ h => .inl h
  xs := rfl
theorem Wd.put_ok {w : Wd} {p : Addr} {o : HO} (ok : WOk w) (hp : w.H p = none) : WOk (w.put p o) := ⟨ok.sub, fun a h => (Wd.put_ext (o := o) hp).trk a (ok.mtr a h)⟩
theorem CRep.ext_keep {T : Tb} {w w' : Wd} (ok : WOk w) (e : Ext w w') {a : Addr} {c : PV} (h : CRep T w a c) (k : ∀ o, w.H a = some o → w'.H a = some o) : CRep T w' a c := by
  cases c with
  | lst l =>
    obtain ⟨xs, h1, h2⟩ := h
    exact ⟨xs, k _ h1, Reps.ext ok e l xs h2⟩
  | obj c fs =>
    obtain ⟨dx, vs, h1, h2, h3⟩ := h
    exact ⟨dx, vs, k _ h1, h2, Reps.ext ok e fs vs h3⟩
  | _ => exact h.elim
theorem ORep.ext_keep {T : Tb} {w w' : Wd} (ok : WOk w) (e : Ext w w') {a : Addr} {c : PV} (h : ORep T w a c) (k : ∀ o, w.H a = some o → w'.H a = some o) : ORep T w' a c := by
  cases c with
  | lst l =>
    obtain ⟨xs, h1, h2⟩ := h
    exact ⟨xs, k _ h1, Reps.ext ok e l xs h2⟩
  | _ => exact h.elim
/-- what a handler's name holds stays -/
theorem ex_ext {T : Tb} {w w' : Wd} {σ : St} {i c : Nat} {fs : List PV} (ok : WOk w) (e : Ext w w')
    (h : ∃ a d vs, σ[i]? = some (some (V.ref a)) ∧ (i, a, c, d) ∈ T.xs ∧ w.H d = some (.xd ((T.fld c).zip vs)) ∧ (T.fld c).length = vs.length ∧ ¬ w.mb d ∧ Reps T w fs vs) :
    ∃ a d vs, σ[i]? = some (some (V.ref a)) ∧ (i, a, c, d) ∈ T.xs ∧ w'.H d = some (.xd ((T.fld c).zip vs)) ∧ (T.fld c).length = vs.length ∧ ¬ w'.mb d ∧ Reps T w' fs vs := by
  obtain ⟨a, d, vs, h1, h2, h3, h4, h5, h6⟩ := h
  obtain ⟨k1, k2⟩ := e.kept ok h3 h5
  exact ⟨a, d, vs, h1, h2, k1, h4, k2, Reps.ext ok e fs vs h6⟩
theorem FRel.put {T : Tb} {w : Wd} {σ : St} {sl : List Sl} {mu : List PV} {p : Addr} {o : HO} (F : FRel T w σ sl mu) (hp : w.H p = none) : FRel T (w.put p o) σ sl mu := by
  have e := Wd.put_ext (o := o) hp
  have k : ∀ a u, w.H a = some u → (w.put p o).H a = some u := fun a u h => by show upd w.H p o a = _; rw [upd_ne (ne_of_none h hp)]; exact h
  refine ⟨Wd.put_ok F.wok hp, F.len, fun i q h => ?_, fun i q h => ?_, F.ows, ⟨F.cel.mlen, fun n c a h1 h2 => ?_, F.cel.inj⟩, fun i c fs h => ex_ext F.wok e (F.ex i c fs h)⟩
  · obtain ⟨v, h1, h2⟩ := F.va i q h
    exact ⟨v, h1, RepV.ext F.wok e q v h2⟩
  · obtain ⟨a, h1, h2, h3, h4⟩ := F.ow i q h
    exact ⟨a, h1, h2.ext_keep F.wok e (k a), h3, h4⟩
  · obtain ⟨h3, h4⟩ := F.cel.cl n c a h1 h2
    exact ⟨h3.ext_keep F.wok e (k a), h4⟩
theorem FRel.fresh {T : Tb} {w : Wd} {σ : St} {sl : List Sl} {mu : List PV} {p : Addr} (F : FRel T w σ sl mu) (hp : w.H p = none) : ¬ w.mb p := fun h => F.wok.mtr p h hp

theorem Reps.nil_iff {T : Tb} {w : Wd} {vs : List V} : Reps T w [] vs ↔ vs = [] := by simp only [Reps]
theorem Reps.len {T : Tb} {w : Wd} : ∀ {ps : List PV} {vs : List V}, Reps T w ps vs → ps.length = vs.length
  | [], vs, h => by simp only [Reps] at h; rw [h]; rfl
  | p :: ps, vs, h => by
    simp only [Reps] at h
    obtain ⟨v, r, rfl, _, h2⟩ := h
    rw [List.length_cons, List.length_cons, Reps.len h2]
theorem Reps.get {T : Tb} {w : Wd} : ∀ {ps : List PV} {vs : List V} {i : Nat} {p : PV}, Reps T w ps vs → ps[i]? = some p → ∃ v, vs[i]? = some v ∧ RepV T w p v
  | [], _, _, _, _, e => by simp at e
  | q :: ps, vs, 0, p, h, e => by
    simp only [Reps] at h
    obtain ⟨v, r, rfl, h1, _⟩ := h
    simp at e; subst e
    exact ⟨v, rfl, h1⟩
  | q :: ps, vs, i + 1, p, h, e => by
    simp only [Reps] at h
    obtain ⟨v, r, rfl, _, h2⟩ := h
    obtain ⟨u, h3, h4⟩ := Reps.get (i := i) h2 (by simpa using e)
    exact ⟨u, by simpa using h3, h4⟩
theorem Reps.append {T : Tb} {w : Wd} : ∀ {ps qs : List PV} {vs us : List V}, Reps T w ps vs → Reps T w qs us → Reps T w (ps ++ qs) (vs ++ us)
  | [], _, vs, _, h, k => by simp only [Reps] at h; subst h; exact k
  | p :: ps, qs, vs, us, h, k => by
    simp only [Reps] at h
    obtain ⟨v, r, rfl, h1, h2⟩ := h
    simp only [List.cons_append, Reps]
    exact ⟨v, r ++ us, rfl, h1, Reps.append h2 k⟩
theorem Reps.drop {T : Tb} {w : Wd} : ∀ {ps : List PV} {vs : List V} (n : Nat), Reps T w ps vs → Reps T w (ps.drop n) (vs.drop n)
  | _, _, 0, h => h
  | [], vs, n + 1, h => by simp only [Reps] at h; subst h; simp [Reps]
  | p :: ps, vs, n + 1, h => by
    simp only [Reps] at h
    obtain ⟨v, r, rfl, _, h2⟩ := h
    exact Reps.drop n h2
theorem Reps.take {T : Tb} {w : Wd} : ∀ {ps : List PV} {vs : List V} (n : Nat), Reps T w ps vs → Reps T w (ps.take n) (vs.take n)
  | _, _, 0, _ => by simp [Reps]
  | [], vs, n + 1, h => by simp only [Reps] at h; subst h; simp [Reps]
  | p :: ps, vs, n + 1, h => by
    simp only [Reps] at h
    obtain ⟨v, r, rfl, h1, h2⟩ := h
    simp only [List.take_succ_cons, Reps]
    exact ⟨v, r.take n, rfl, h1, Reps.take n h2⟩
theorem Reps.set {T : Tb} {w : Wd} {p : PV} {v : V} (hv : RepV T w p v) : ∀ {ps : List PV} {vs : List V} (i : Nat), Reps T w ps vs → Reps T w (ps.set i p) (vs.set i v)
  | [], vs, i, h => by simp only [Reps] at h; subst h; simp [Reps]
  | q :: ps, vs, 0, h => by
    simp only [Reps] at h
    obtain ⟨u, r, rfl, h1, h2⟩ := h
    simp only [List.set_cons_zero, Reps]
    exact ⟨v, r, rfl, hv, h2⟩
  | q :: ps, vs, i + 1, h => by
    simp only [Reps] at h
    obtain ⟨u, r, rfl, h1, h2⟩ := h
    simp only [List.set_cons_succ, Reps]
    exact ⟨u, _, rfl, h1, Reps.set hv i h2⟩
theorem Reps.ofInts {T : Tb} {w : Wd} : ∀ {l : List PV} {ns : List Int} {vs : List V}, pInts l = some ns → Reps T w l vs → vs = ns.map V.int
  | [], ns, vs, e, h => by simp only [pInts, Option.some.injEq] at e; subst e; simp only [Reps] at h; exact h
  | p :: l, ns, vs, e, h => by
    cases p with
    | int i =>
      simp only [RA.pInts, Option.map_eq_some_iff] at e
      obtain ⟨ns', e', rfl⟩ := e
      simp only [Reps] at h
      obtain ⟨v, r, rfl, h1, h2⟩ := h
      simp only [RepV] at h1
      subst h1
      rw [Reps.ofInts e' h2]; rfl
    | _ => simp [RA.pInts] at e
theorem Reps.ofBls {T : Tb} {w : Wd} : ∀ {l : List PV} {ns : List Bool} {vs : List V}, pBls l = some ns → Reps T w l vs → vs = ns.map V.bl
  | [], ns, vs, e, h => by simp only [pBls, Option.some.injEq] at e; subst e; simp only [Reps] at h; exact h
  | p :: l, ns, vs, e, h => by
    cases p with
    | bl i =>
      simp only [RA.pBls, Option.map_eq_some_iff] at e
      obtain ⟨ns', e', rfl⟩ := e
      simp only [Reps] at h
      obtain ⟨v, r, rfl, h1, h2⟩ := h
      simp only [RepV] at h1
      subst h1
      rw [Reps.ofBls e' h2]; rfl
    | _ => simp [RA.pBls] at e
theorem Reps.ofStrs {T : Tb} {w : Wd} : ∀ {l : List PV} {ns : List (List Nat)} {vs : List V}, pStrs l = some ns → Reps T w l vs → vs = ns.map (fun x => V.str ⟨x.toArray⟩) ∧ ∀ x ∈ ns, x.length ≤ SZ
  | [], ns, vs, e, h => by simp only [pStrs, Option.some.injEq] at e; subst e; simp only [Reps] at h; exact ⟨h, by simp⟩
  | p :: l, ns, vs, e, h => by
    cases p with
    | str i =>
      simp only [RA.pStrs, Option.map_eq_some_iff] at e
      obtain ⟨ns', e', rfl⟩ := e
      simp only [Reps] at h
      obtain ⟨v, r, rfl, h1, h2⟩ := h
      simp only [RepV] at h1
      obtain ⟨h1, h3⟩ := h1
      subst h1
      obtain ⟨q1, q2⟩ := Reps.ofStrs e' h2
      rw [q1]
      exact ⟨rfl, by simp only [List.mem_cons]; rintro x (rfl | hx); exact h3; exact q2 x hx⟩
    | _ => simp [RA.pStrs] at e

/-! ### as data of the library -/
mutual
def toD : PV → PyData
  | .non => .none
  | .bl b => .bool b
  | .int i => .int i
  | .str x => .str ⟨x.toArray⟩
  | .tup l => .tuple (toDs l)
  | .lst l => .list (toDs l)
  | _ => .none
def toDs : List PV → List PyData
  | [] => []
  | x :: r => toD x :: toDs r
end
mutual
theorem RepV.dp {T : Tb} {w : Wd} : ∀ (p : PV) (v : V), isD p = true → RepV T w p v → Dp T.K w.H v (toD p)
  | .non, v, _, h => by simp only [RepV] at h; subst h; simp only [toD]; exact .non
  | .bl b, v, _, h => by simp only [RepV] at h; subst h; simp only [toD]; exact .bl b
  | .int i, v, _, h => by simp only [RepV] at h; subst h; simp only [toD]; exact .int i
  | .str x, v, _, h => by simp only [RepV] at h; obtain ⟨rfl, _⟩ := h; simp only [toD]; exact .str _
  | .tup l, v, d, h => by
    simp only [isD] at d
    simp only [RepV] at h
    obtain ⟨a, xs, rfl, h2, h3⟩ := h
    simp only [toD]
    exact .tup h2.sq (Reps.dp l xs d h3)
  | .lst l, v, d, h => by
    simp only [isD] at d
    simp only [RepV] at h
    obtain ⟨a, xs, rfl, h2, _, h3⟩ := h
    simp only [toD]
    exact .lst (SqL.of h2) (Reps.dp l xs d h3)
  | .fro _, _, d, _ => by simp [isD] at d
  | .ref _, _, d, _ => by simp [isD] at d
  | .exc _ _, _, d, _ => by simp [isD] at d
  | .dic _ _, _, d, _ => by simp [isD] at d
  | .fn _, _, d, _ => by simp [isD] at d
  | .cl _, _, d, _ => by simp [isD] at d
  | .obj _ _, _, d, _ => by simp [isD] at d
theorem Reps.dp {T : Tb} {w : Wd} : ∀ (ps : List PV) (vs : List V), isDs ps = true → Reps T w ps vs → DpAll T.K w.H vs (toDs ps)
  | [], vs, _, h => by simp only [Reps] at h; subst h; simp only [toDs]; exact .nil
  | p :: ps, vs, d, h => by
    simp only [isDs, Bool.and_eq_true] at d
    simp only [Reps] at h
    obtain ⟨v, r, rfl, h1, h2⟩ := h
    simp only [toDs]
    exact .cons (RepV.dp p v d.1 h1) (Reps.dp ps r d.2 h2)
end
theorem str_beq (x y : List Nat) : ((⟨x.toArray⟩ : Str) == ⟨y.toArray⟩) = (x == y) := by
  rw [Bool.eq_iff_iff]
  simp
mutual
theorem eqP_eqv : ∀ (p q : PV), isD p = true → isD q = true → eqP p q = PyData.eqv (toD p) (toD q)
  | .non, q, _, d => by cases q <;> first | (simp [isD] at d; done) | simp [eqP, toD, PyData.eqv]
  | .bl b, q, _, d => by cases q <;> first | (simp [isD] at d; done) | simp [eqP, toD, PyData.eqv, b2i]
  | .int b, q, _, d => by cases q <;> first | (simp [isD] at d; done) | simp [eqP, toD, PyData.eqv, b2i]
  | .str b, q, _, d => by
    cases q <;> first | (simp [isD] at d; done) | (simp [eqP, toD, PyData.eqv]; done) | skip
    simp only [eqP, toD, PyData.eqv]
    exact (str_beq _ _).symm
  | .tup l, q, d1, d => by
    cases q <;> first | (simp [isD] at d; done) | (simp [eqP, toD, PyData.eqv]; done) | skip
    simp only [isD] at d1 d
    simp only [eqP, toD, PyData.eqv]
    exact eqPs_eqv _ _ d1 d
  | .lst l, q, d1, d => by
    cases q <;> first | (simp [isD] at d; done) | (simp [eqP, toD, PyData.eqv]; done) | skip
    simp only [isD] at d1 d
    simp only [eqP, toD, PyData.eqv]
    exact eqPs_eqv _ _ d1 d
  | .fro _, _, d, _ => by simp [isD] at d
  | .ref _, _, d, _ => by simp [isD] at d
  | .exc _ _, _, d, _ => by simp [isD] at d
  | .dic _ _, _, d, _ => by simp [isD] at d
  | .fn _, _, d, _ => by simp [isD] at d
  | .cl _, _, d, _ => by simp [isD] at d
  | .obj _ _, _, d, _ => by simp [isD] at d
theorem eqPs_eqv : ∀ (p q : List PV), isDs p = true → isDs q = true → eqPs p q = PyData.eqvAll (toDs p) (toDs q)
  | [], [], _, _ => by simp [eqPs, toDs, PyData.eqvAll]
  | [], _ :: _, _, _ => by simp [eqPs, toDs, PyData.eqvAll]
  | _ :: _, [], _, _ => by simp [eqPs, toDs, PyData.eqvAll]
  | p :: ps, q :: qs, d1, d2 => by
    simp only [isDs, Bool.and_eq_true] at d1 d2
    simp only [eqPs, toDs, PyData.eqvAll]
    rw [eqP_eqv p q d1.1 d2.1, eqPs_eqv ps qs d1.2 d2.2]
end
mutual
theorem dep_toD : ∀ (p : PV), isD p = true → dep p = (toD p).depth
  | .non, _ => by simp [dep, toD, PyData.depth]
  | .bl b, _ => by simp [dep, toD, PyData.depth]
  | .int b, _ => by simp [dep, toD, PyData.depth]
  | .str b, _ => by simp [dep, toD, PyData.depth]
  | .tup l, d => by
    simp only [isD] at d
    have := deps_toD l d
    simp only [dep, toD, PyData.depth]
    omega
  | .lst l, d => by
    simp only [isD] at d
    have := deps_toD l d
    simp only [dep, toD, PyData.depth]
    omega
  | .fro _, d => by simp [isD] at d
  | .ref _, d => by simp [isD] at d
  | .exc _ _, d => by simp [isD] at d
  | .dic _ _, d => by simp [isD] at d
  | .fn _, d => by simp [isD] at d
  | .cl _, d => by simp [isD] at d
  | .obj _ _, d => by simp [isD] at d
theorem deps_toD : ∀ (p : List PV), isDs p = true → deps p = PyData.depthAll (toDs p)
  | [], _ => by simp [deps, toDs, PyData.depthAll]
  | p :: ps, d => by
    simp only [isDs, Bool.and_eq_true] at d
    simp only [deps, toDs, PyData.depthAll]
    rw [dep_toD p d.1, deps_toD ps d.2]
end
mutual
theorem plain_toD : ∀ (p : PV), isD p = true → (toD p).plain = true
  | .non, _ => by simp [toD, PyData.plain]
  | .bl b, _ => by simp [toD, PyData.plain]
  | .int b, _ => by simp [toD, PyData.plain]
  | .str b, _ => by simp [toD, PyData.plain]
  | .tup l, d => by
    simp only [isD] at d
    simp only [toD, PyData.plain]
    exact plains_toD l d
  | .lst l, d => by
    simp only [isD] at d
    simp only [toD, PyData.plain]
    exact plains_toD l d
  | .fro _, d => by simp [isD] at d
  | .ref _, d => by simp [isD] at d
  | .exc _ _, d => by simp [isD] at d
  | .dic _ _, d => by simp [isD] at d
  | .fn _, d => by simp [isD] at d
  | .cl _, d => by simp [isD] at d
  | .obj _ _, d => by simp [isD] at d
theorem plains_toD : ∀ (p : List PV), isDs p = true → PyData.plainAll (toDs p) = true
  | [], _ => by simp [toDs, PyData.plainAll]
  | p :: ps, d => by
    simp only [isDs, Bool.and_eq_true] at d
    simp only [toDs, PyData.plainAll, plain_toD p d.1, plains_toD ps d.2, Bool.and_self]
end
end RA

/-! Operations on own values, by the rules of the hand layer. -/
namespace RA
open PySem L2 PyProof.Rows

def opE : O2 → Operator
  | .add => .Add | .sub => .Sub | .mul => .Mult | .fdv => .FloorDiv | .mod => .Mod | .pow => .Pow
def cmE : C2 → CmpOp
  | .eq => .Eq | .ne => .NotEq | .lt => .Lt | .le => .LtE | .gt => .Gt | .ge => .GtE | .inn => .In | .nin => .NotIn

theorem SZ_line : SZ = sizeLine := by rw [sizeLine_eq]
/-- what a two-place operation wishes -/
def rP2 (T : Tb) (f : PV → PV → Option PV) : R2 := fun x y H Q => ∃ w σ sl mu p q z, w.H = H ∧ FRel T w σ sl mu ∧ RepV T w p x ∧ RepV T w q y ∧ f p q = some z ∧ ∀ w', Ext w w' → FRel T w' σ sl mu → ∀ v, RepV T w' z v → Q v w'.H
/-- a result without a new thing -/
theorem P2.here {T : Tb} {w : Wd} {σ : L2.St} {sl : List Sl} {mu : List PV} {z : PV} {Q : VK} {v : V} (F : FRel T w σ sl mu) (h : ∀ w', Ext w w' → FRel T w' σ sl mu → ∀ v, RepV T w' z v → Q v w'.H) (r : RepV T w z v) : Q v w.H := h w (Ext.refl w) F v r
/-- a new list, a new tuple -/
theorem P2.lst {T : Tb} {w : Wd} {σ : L2.St} {sl : List Sl} {mu : List PV} {l : List PV} {xs : List V} {Q : VK} {p : Addr} (F : FRel T w σ sl mu) (h : ∀ w', Ext w w' → FRel T w' σ sl mu → ∀ v, RepV T w' (.lst l) v → Q v w'.H) (r : Reps T w l xs) (hp : w.H p = none) : Q (.ref p) (upd w.H p (.lst xs)) := by
  refine h (w.put p (.lst xs)) (Wd.put_ext hp) (F.put hp) (.ref p) ?_
  simp only [RepV]
  exact ⟨p, xs, rfl, upd_same, F.fresh hp, Reps.ext F.wok (Wd.put_ext hp) l xs r⟩
theorem P2.tup {T : Tb} {w : Wd} {σ : L2.St} {sl : List Sl} {mu : List PV} {l : List PV} {xs : List V} {Q : VK} {p : Addr} {O : Obj} (F : FRel T w σ sl mu) (h : ∀ w', Ext w w' → FRel T w' σ sl mu → ∀ v, RepV T w' (.tup l) v → Q v w'.H) (r : Reps T w l xs) (hp : w.H p = none) (hO : TPl O) : Q (.ref p) (upd w.H p (.frz O (.tup xs))) := by
  refine h (w.put p (.frz O (.tup xs))) (Wd.put_ext hp) (F.put hp) (.ref p) ?_
  simp only [RepV]
  exact ⟨p, xs, rfl, .inl ⟨O, hO, upd_same, F.fresh hp⟩, Reps.ext F.wok (Wd.put_ext hp) l xs r⟩

theorem str_append (x y : List Nat) : ((⟨x.toArray⟩ : Str) ++ (⟨y.toArray⟩ : Str)) = ⟨(x ++ y).toArray⟩ := by
  show Str.append _ _ = _
  simp [Str.append]
theorem str_len (x : List Nat) : (⟨x.toArray⟩ : Str).length = x.length := by simp [Str.length]

section
variable {T : Tb} {X : Cx}
theorem snd_add (hK : T.K = X.K) : OpR X (binaryOp .Add) (rP2 T addP) := by
  intro pins s σ H x y v u Q I rx ry h
  obtain ⟨w, σ', sl, mu, p, q, z, rfl, F, rp, rq, e, h⟩ := h
  cases p with
  | int i =>
    cases q <;> simp [addP] at e
    subst e
    simp only [RepV] at rp rq
    subst rp rq
    exact op_add pins s σ _ _ _ v u Q I rx ry ⟨_, _, rfl, rfl, P2.here F h (by simp only [RepV])⟩
  | str i =>
    cases q <;> simp [addP] at e
    obtain ⟨hl, rfl⟩ := e
    simp only [RepV] at rp rq
    obtain ⟨rfl, _⟩ := rp
    obtain ⟨rfl, _⟩ := rq
    refine op_add_str pins s σ _ _ _ v u Q I rx ry ⟨_, _, rfl, rfl, by rw [str_len, str_len, ← SZ_line]; exact hl, ?_⟩
    rw [str_append]
    exact P2.here F h (by simp only [RepV]; exact ⟨trivial, by rw [List.length_append]; exact hl⟩)
  | lst i =>
    cases q <;> simp [addP] at e
    obtain ⟨hl, rfl⟩ := e
    simp only [RepV] at rp rq
    obtain ⟨a, xs, rfl, h1, h2, h3⟩ := rp
    obtain ⟨b, ys, rfl, k1, k2, k3⟩ := rq
    refine op_cat pins s σ _ _ _ v u Q I rx ry ⟨a, b, xs, ys, rfl, rfl, h1, k1, by rw [← h3.len, ← k3.len, ← SZ_line]; exact hl, fun p hp => ?_⟩
    exact P2.lst F h (h3.append k3) hp
  | tup i =>
    rcases q with _ | _ | _ | _ | l2 | _ | _ | _ | _ | _ | _ | _ <;> simp [addP] at e
    obtain ⟨hl, rfl⟩ := e
    simp only [RepV] at rp rq
    obtain ⟨a, xs, rfl, h1, h3⟩ := rp
    obtain ⟨b, ys, rfl, k1, k3⟩ := rq
    refine op_catP pins s σ _ _ _ v u Q I rx ry ⟨a, b, xs, ys, rfl, rfl, hK ▸ h1.sq, hK ▸ k1.sq, by rw [← h3.len, ← k3.len, ← SZ_line]; exact hl, fun e1 => ?_, fun e1 e2 => ?_, fun e1 e2 p O hp hO => ?_⟩
    · subst e1
      have : i = [] := List.eq_nil_of_length_eq_zero h3.len
      subst this
      exact P2.here F h (by simp only [RepV, List.nil_append]; exact ⟨b, ys, rfl, k1, k3⟩)
    · subst e2
      have : l2 = [] := List.eq_nil_of_length_eq_zero k3.len
      subst this
      exact P2.here F h (by simp only [RepV, List.append_nil]; exact ⟨a, xs, rfl, h1, h3⟩)
    · exact P2.tup F h (h3.append k3) hp hO
  | _ => cases q <;> simp [addP] at e

theorem small_iff {i : Int} : small i = true ↔ (-(2 ^ 64) < i ∧ i < 2 ^ 64) := by
  unfold small B64
  rw [Bool.and_eq_true, decide_eq_true_eq, decide_eq_true_eq]
  constructor <;> (intro h; omega)
theorem flat_rep (x : List Nat) : ∀ (k : Nat) (acc : Array Nat), (List.replicate k x.toArray).foldl (· ++ ·) acc = acc ++ (List.replicate k x).flatten.toArray
  | 0, acc => by simp
  | k + 1, acc => by rw [List.replicate_succ, List.foldl_cons, flat_rep x k, List.replicate_succ, List.flatten_cons]; simp
theorem len_flat_rep (x : List Nat) (k : Nat) : (List.replicate k x).flatten.length = x.length * k := by
  rw [List.length_flatten, List.map_replicate, List.sum_replicate_nat, Nat.mul_comm]
theorem mul_txt (x : List Nat) (j : Int) : Txt.mul ⟨x.toArray⟩ j = ⟨(List.replicate j.toNat x).flatten.toArray⟩ := by
  unfold Txt.mul
  by_cases h1 : j < 1
  · rw [if_pos h1]
    have : j.toNat = 0 := by omega
    rw [this]; simp [Str.empty]
  · rw [if_neg h1]
    split
    · rename_i hc
      rw [Bool.or_eq_true, beq_iff_eq, beq_iff_eq] at hc
      rcases hc with rfl | hc
      · simp
      · rw [str_len] at hc
        have : x = [] := List.eq_nil_of_length_eq_zero hc
        subst this; simp
    · rw [flat_rep]; simp
theorem mul_ok_str {x : List Nat} {j : Int} (h1 : x.length * j.toNat ≤ SZ) (h2 : -(2 ^ 63 : Int) ≤ j) (h3 : j < 2 ^ 63) : MulOk ⟨x.toArray⟩ j := by
  refine ⟨?_, fun q1 q2 => ?_, fun q1 _ => ?_⟩
  · have a1 : ¬ j < -(2 ^ 63 : Int) := by omega
    have a2 : ¬ j ≥ (2 ^ 63 : Int) := by omega
    rw [decide_eq_false a1, decide_eq_false a2]; rfl
  · rw [str_len]
    have hpos : 0 < j := by omega
    have e : ((x.length * j.toNat : Nat) : Int) = (x.length : Int) * j := by
      rw [Int.natCast_mul, Int.toNat_of_nonneg (by omega)]
    have h4 : (x.length : Int) * j ≤ 2 ^ 63 - 1 := by rw [← e]; unfold SZ at h1; omega
    have h5 : (x.length : Int) ≤ (2 ^ 63 - 1) / j := (Int.le_ediv_iff_mul_le hpos).mpr h4
    omega
  · rw [str_len]
    exact short24 h1
theorem snd_mul (hK : T.K = X.K) : OpR X (binaryOp .Mult) (rP2 T mulP) := by
  intro pins s σ H x y v u Q I rx ry h
  obtain ⟨w, σ', sl, mu, p, q, z, rfl, F, rp, rq, e, h⟩ := h
  cases p with
  | int i =>
    cases q with
    | int j =>
      simp only [mulP] at e
      simp only [RepV] at rp rq
      subst rp rq
      split at e
      · rename_i hs
        simp only [Option.some.injEq] at e
        subst e
        rw [Bool.or_eq_true, small_iff, small_iff] at hs
        exact op_mul pins s σ _ _ _ v u Q I rx ry ⟨_, _, rfl, rfl, hs, P2.here F h (by simp only [RepV])⟩
      · split at e
        · rename_i hs
          simp only [Option.some.injEq] at e
          subst e
          exact op_mulW pins s σ _ _ _ v u Q I rx ry ⟨_, _, rfl, rfl, wide_mul hs.1 hs.2 (by decide) (by decide) (by decide), P2.here F h (by simp only [RepV])⟩
        · cases e
    | _ => simp [mulP] at e
  | str i =>
    cases q with
    | int j =>
      simp only [mulP] at e
      simp only [RepV] at rp rq
      obtain ⟨rfl, _⟩ := rp
      subst rq
      split at e
      · rename_i hs
        simp only [Option.some.injEq] at e
        subst e
        obtain ⟨h1, h2, h3⟩ := hs
        obtain ⟨t, rfl⟩ := rx
        obtain ⟨t', rfl⟩ := ry
        refine SB.mul (mul_ok_str h1 (by omega) (by omega)) fun t2 k => ?_
        refine ⟨.str (Txt.mul ⟨i.toArray⟩ j), w.H, I.tok _, ⟨_, rfl⟩, ?_⟩
        rw [mul_txt]
        exact P2.here F h (by simp only [RepV]; exact ⟨trivial, by rw [len_flat_rep]; exact h1⟩)
      · cases e
    | _ => simp [mulP] at e
  | tup i =>
    cases q with
    | int j =>
      simp only [mulP] at e
      simp only [RepV] at rp rq
      obtain ⟨a, xs, rfl, h1, h3⟩ := rp
      subst rq
      split at e
      · rename_i hs
        simp only [Option.some.injEq] at e
        subst e
        obtain ⟨k1, k2, k3, k4⟩ := hs
        have hne : xs ≠ [] := fun z => by rw [z] at h3; have := h3.len; simp at this; rw [this] at k1; simp at k1
        refine op_repP pins s σ _ _ _ v u Q I rx ry ⟨a, j, xs, rfl, rfl, hK ▸ h1.sq, hne, k2, k3, by rw [← h3.len]; exact k4, fun p O hp hO => ?_⟩
        refine P2.tup F h ?_ hp hO
        generalize j.toNat = n
        induction n with
        | zero => simp [Reps]
        | succ n ih => rw [List.replicate_succ, List.replicate_succ, List.flatten_cons, List.flatten_cons]; exact h3.append ih
      · split at e
        · rename_i hj
          cases e
          subst hj
          exact op_rep1 pins s σ _ _ _ v u Q I rx ry ⟨a, xs, rfl, rfl, hK ▸ h1.sq, P2.here F h (by simp only [RepV]; exact ⟨a, xs, rfl, h1, h3⟩)⟩
        · cases e
    | _ => simp [mulP] at e
  | _ => cases q <;> simp [mulP] at e
theorem snd_op (hK : T.K = X.K) (o : O2) : OpR X (binaryOp (opE o)) (rP2 T (op2 o)) := by
  cases o with
  | add => exact snd_add hK
  | mul => exact snd_mul hK
  | sub =>
    intro pins s σ H x y v u Q I rx ry h
    obtain ⟨w, σ', sl, mu, p, q, z, rfl, F, rp, rq, e, h⟩ := h
    cases p <;> cases q <;> simp [op2] at e
    subst e
    simp only [RepV] at rp rq
    subst rp rq
    exact op_sub pins s σ _ _ _ v u Q I rx ry ⟨_, _, rfl, rfl, P2.here F h (by simp only [RepV])⟩
  | fdv =>
    intro pins s σ H x y v u Q I rx ry h
    obtain ⟨w, σ', sl, mu, p, q, z, rfl, F, rp, rq, e, h⟩ := h
    cases p <;> cases q <;> simp only [op2] at e <;> try cases e
    split at e
    · rename_i hs
      simp only [Option.some.injEq] at e
      subst e
      simp only [RepV] at rp rq
      subst rp rq
      exact op_fdivW pins s σ _ _ _ v u Q I rx ry ⟨_, _, rfl, rfl, wide_div hs.1 hs.2 (by decide) (by decide), P2.here F h (by simp only [RepV])⟩
    · cases e
  | mod =>
    intro pins s σ H x y v u Q I rx ry h
    obtain ⟨w, σ', sl, mu, p, q, z, rfl, F, rp, rq, e, h⟩ := h
    cases p <;> cases q <;> simp only [op2] at e <;> try cases e
    split at e
    · rename_i hs
      simp only [Option.some.injEq] at e
      subst e
      simp only [RepV] at rp rq
      subst rp rq
      exact op_mod pins s σ _ _ _ v u Q I rx ry ⟨_, _, rfl, rfl, hs, P2.here F h (by simp only [RepV])⟩
    · cases e
  | pow =>
    intro pins s σ H x y v u Q I rx ry h
    obtain ⟨w, σ', sl, mu, p, q, z, rfl, F, rp, rq, e, h⟩ := h
    cases p <;> cases q <;> simp only [op2] at e <;> try cases e
    split at e
    · rename_i hs
      simp only [Option.some.injEq] at e
      subst e
      simp only [RepV] at rp rq
      subst rp rq
      obtain ⟨h0, h1, h2⟩ := hs
      rw [small_iff] at h2
      exact op_pow pins s σ _ _ _ v u Q I rx ry ⟨_, _, rfl, rfl, ⟨h0, h1, by omega⟩, P2.here F h (by simp only [RepV])⟩
    · cases e

/-! ### comparisons -/
def rC2 (T : Tb) (f : PV → PV → Option Bool) : R2 := rP2 T fun p q => (f p q).map .bl
theorem any_toDs (a : PV) (ha : isD a = true) : ∀ (l : List PV), isDs l = true → (l.any fun z => eqP z a) = (toDs l).any fun z => PyData.eqv z (toD a)
  | [], _ => rfl
  | x :: l, h => by
    simp only [isDs, Bool.and_eq_true] at h
    simp only [toDs, List.any_cons]
    rw [any_toDs a ha l h.2, eqP_eqv x a h.1 ha]
theorem one_sign {x : List Nat} {c : Nat} (h : x = [c]) : (⟨x.toArray⟩ : Str) = ⟨#[c]⟩ := by subst h; rfl
theorem snd_inn (hK : T.K = X.K) (hr : X.A.units + 66 < cLine) : OpR X (compareOp .In) (rC2 T inP) := by
  intro pins s σ H x y v u Q I rx ry h
  obtain ⟨w, σ', sl, mu, p, q, z, rfl, F, rp, rq, e, h⟩ := h
  simp only [Option.map_eq_some_iff] at e
  obtain ⟨b, e, rfl⟩ := e
  have fin : ∀ {b' : Bool} {σ'' : L2.St} {s' : Shared}, b' = b → Q (.bl b') w.H := fun {b' _ _} e' => by subst e'; exact P2.here F h (by simp only [RepV])
  cases q with
  | str ys =>
    cases p with
    | str xs =>
      match xs, e, rp with
      | [c], e, rp =>
        simp only [inP, Option.some.injEq] at e
        simp only [RepV] at rp rq
        obtain ⟨rfl, _⟩ := rp
        obtain ⟨rfl, _⟩ := rq
        refine op_in_sign pins s σ _ _ _ v u Q I rx ry ⟨c, _, rfl, rfl, ?_⟩
        refine P2.here F h ?_
        simp only [RepV, V.bl.injEq]
        rw [← e]
        simp
      | [], e, _ => simp [inP] at e
      | _ :: _ :: _, e, _ => simp [inP] at e
    | _ => simp [inP] at e
  | tup l =>
    simp only [inP] at e
    split at e
    · rename_i hs
      simp only [Bool.and_eq_true] at hs
      obtain ⟨⟨d1, d2⟩, d3⟩ := hs
      simp only [Option.some.injEq] at e
      have D1 := RepV.dp p x d1 rp
      have D2 := RepV.dp (.tup l) y (by simpa [isD] using d2) rq
      simp only [toD] at D2
      obtain ⟨as, r1⟩ := Dp.reads I _ _ _ (hK ▸ D1) rx
      obtain ⟨bs, r2⟩ := Dp.reads I _ _ _ (hK ▸ D2) ry
      refine PySem.SeqAt.in_tuple_data r2 r1 (plains_toD l d2) (plain_toD p d1) ?_ ?_
      · rw [← deps_toD l d2, ← dep_toD p d1]
        have := Nat.le_of_ble_eq_true d3
        omega
      · refine ⟨.bl _, w.H, I, rfl, ?_⟩
        refine P2.here F h ?_
        simp only [RepV, V.bl.injEq]
        rw [← e, any_toDs p d1 l d2]
    · cases e
  | lst l =>
    simp only [inP] at e
    split at e
    · rename_i hs
      simp only [Bool.and_eq_true] at hs
      obtain ⟨⟨d1, d2⟩, d3⟩ := hs
      simp only [Option.some.injEq] at e
      have D1 := RepV.dp p x d1 rp
      have D2 := RepV.dp (.lst l) y (by simpa [isD] using d2) rq
      simp only [toD] at D2
      obtain ⟨as, r1⟩ := Dp.reads I _ _ _ (hK ▸ D1) rx
      obtain ⟨bs, r2⟩ := Dp.reads I _ _ _ (hK ▸ D2) ry
      refine PySem.SeqAt.in_list_data r2 r1 (plains_toD l d2) (plain_toD p d1) ?_ ?_
      · rw [← deps_toD l d2, ← dep_toD p d1]
        have := Nat.le_of_ble_eq_true d3
        omega
      · refine ⟨.bl _, w.H, I, rfl, ?_⟩
        refine P2.here F h ?_
        simp only [RepV, V.bl.injEq]
        rw [← e, any_toDs p d1 l d2]
    · cases e
  | _ => simp [inP] at e
theorem snd_nin (hK : T.K = X.K) (hr : X.A.units + 66 < cLine) : OpR X (compareOp .NotIn) (rC2 T fun p q => (inP p q).map not) := by
  intro pins s σ H x y v u Q I rx ry h
  obtain ⟨w, σ', sl, mu, p, q, z, rfl, F, rp, rq, e, h⟩ := h
  simp only [Option.map_eq_some_iff] at e
  obtain ⟨b, ⟨b0, e, rfl⟩, rfl⟩ := e
  cases q with
  | str ys =>
    cases p with
    | str xs =>
      match xs, e, rp with
      | [c], e, rp =>
        simp only [inP, Option.some.injEq] at e
        simp only [RepV] at rp rq
        obtain ⟨rfl, _⟩ := rp
        obtain ⟨rfl, _⟩ := rq
        refine op_notIn_sign pins s σ _ _ _ v u Q I rx ry ⟨c, _, rfl, rfl, ?_⟩
        refine P2.here F h ?_
        simp only [RepV, V.bl.injEq]
        rw [← e]
        simp
      | [], e, _ => simp [inP] at e
      | _ :: _ :: _, e, _ => simp [inP] at e
    | _ => simp [inP] at e
  | tup l =>
    simp only [inP] at e
    split at e
    · rename_i hs
      simp only [Bool.and_eq_true] at hs
      obtain ⟨⟨d1, d2⟩, d3⟩ := hs
      simp only [Option.some.injEq] at e
      have D1 := RepV.dp p x d1 rp
      have D2 := RepV.dp (.tup l) y (by simpa [isD] using d2) rq
      simp only [toD] at D2
      obtain ⟨as, r1⟩ := Dp.reads I _ _ _ (hK ▸ D1) rx
      obtain ⟨bs, r2⟩ := Dp.reads I _ _ _ (hK ▸ D2) ry
      refine PySem.SeqAt.notIn_tuple_data r2 r1 (plains_toD l d2) (plain_toD p d1) ?_ ?_
      · rw [← deps_toD l d2, ← dep_toD p d1]
        have := Nat.le_of_ble_eq_true d3
        omega
      · refine ⟨.bl _, w.H, I, rfl, ?_⟩
        refine P2.here F h ?_
        simp only [RepV, V.bl.injEq]
        rw [← e, any_toDs p d1 l d2]
    · cases e
  | lst l =>
    simp only [inP] at e
    split at e
    · rename_i hs
      simp only [Bool.and_eq_true] at hs
      obtain ⟨⟨d1, d2⟩, d3⟩ := hs
      simp only [Option.some.injEq] at e
      have D1 := RepV.dp p x d1 rp
      have D2 := RepV.dp (.lst l) y (by simpa [isD] using d2) rq
      simp only [toD] at D2
      obtain ⟨as, r1⟩ := Dp.reads I _ _ _ (hK ▸ D1) rx
      obtain ⟨bs, r2⟩ := Dp.reads I _ _ _ (hK ▸ D2) ry
      refine PySem.SeqAt.notIn_list_data r2 r1 (plains_toD l d2) (plain_toD p d1) ?_ ?_
      · rw [← deps_toD l d2, ← dep_toD p d1]
        have := Nat.le_of_ble_eq_true d3
        omega
      · refine ⟨.bl _, w.H, I, rfl, ?_⟩
        refine P2.here F h ?_
        simp only [RepV, V.bl.injEq]
        rw [← e, any_toDs p d1 l d2]
    · cases e
  | _ => simp [inP] at e
theorem eqC_parts {p q : PV} {b : Bool} (e : eqC p q = some b) : isD p = true ∧ isD q = true ∧ min (dep p) (dep q) ≤ 64 ∧ eqP p q = b := by
  unfold eqC at e
  split at e
  · rename_i hs
    simp only [Bool.and_eq_true] at hs
    exact ⟨hs.1.1, hs.1.2, Nat.le_of_ble_eq_true hs.2, Option.some.inj e⟩
  · cases e
theorem snd_cmp (hK : T.K = X.K) (hr : X.A.units + 66 < cLine) (o : C2) : OpR X (compareOp (cmE o)) (rC2 T (cmp o)) := by
  cases o with
  | inn => exact snd_inn hK hr
  | nin => exact snd_nin hK hr
  | eq =>
    intro pins s σ H x y v u Q I rx ry h
    obtain ⟨w, σ', sl, mu, p, q, z, rfl, F, rp, rq, e, h⟩ := h
    simp only [Option.map_eq_some_iff, cmp] at e
    obtain ⟨b, e, rfl⟩ := e
    obtain ⟨d1, d2, d3, e⟩ := eqC_parts e
    obtain ⟨as, r1⟩ := Dp.reads I _ _ _ (hK ▸ RepV.dp p x d1 rp) rx
    obtain ⟨bs, r2⟩ := Dp.reads I _ _ _ (hK ▸ RepV.dp q y d2 rq) ry
    refine PySem.SeqAt.eq_plain r1 r2 (plain_toD p d1) (plain_toD q d2) (by rw [← dep_toD p d1, ← dep_toD q d2]; omega) ⟨.bl _, w.H, I, rfl, ?_⟩
    rw [← eqP_eqv p q d1 d2, e]
    exact P2.here F h (by simp only [RepV])
  | ne =>
    intro pins s σ H x y v u Q I rx ry h
    obtain ⟨w, σ', sl, mu, p, q, z, rfl, F, rp, rq, e, h⟩ := h
    simp only [Option.map_eq_some_iff, cmp] at e
    obtain ⟨b, ⟨b0, e, rfl⟩, rfl⟩ := e
    obtain ⟨d1, d2, d3, e⟩ := eqC_parts e
    obtain ⟨as, r1⟩ := Dp.reads I _ _ _ (hK ▸ RepV.dp p x d1 rp) rx
    obtain ⟨bs, r2⟩ := Dp.reads I _ _ _ (hK ▸ RepV.dp q y d2 rq) ry
    refine PySem.SeqAt.ne_plain r1 r2 (plain_toD p d1) (plain_toD q d2) (by rw [← dep_toD p d1, ← dep_toD q d2]; omega) ⟨.bl _, w.H, I, rfl, ?_⟩
    rw [← eqP_eqv p q d1 d2, e]
    exact P2.here F h (by simp only [RepV])
  | lt =>
    intro pins s σ H x y v u Q I rx ry h
    obtain ⟨w, σ', sl, mu, p, q, z, rfl, F, rp, rq, e, h⟩ := h
    simp only [Option.map_eq_some_iff] at e
    obtain ⟨b, e, rfl⟩ := e
    cases p with
    | int i =>
      cases q <;> simp [cmp] at e
      subst e
      simp only [RepV] at rp rq
      subst rp rq
      exact op_lt pins s σ _ _ _ v u Q I rx ry ⟨_, _, rfl, rfl, P2.here F h (by simp only [RepV])⟩
    | str i =>
      cases q <;> simp [cmp] at e
      subst e
      simp only [RepV] at rp rq
      obtain ⟨rfl, _⟩ := rp
      obtain ⟨rfl, _⟩ := rq
      exact op_lt_str pins s σ _ _ _ v u Q I rx ry ⟨_, _, rfl, rfl, P2.here F h (by simp only [RepV, ltS])⟩
    | _ => cases q <;> simp [cmp] at e
  | le =>
    intro pins s σ H x y v u Q I rx ry h
    obtain ⟨w, σ', sl, mu, p, q, z, rfl, F, rp, rq, e, h⟩ := h
    simp only [Option.map_eq_some_iff] at e
    obtain ⟨b, e, rfl⟩ := e
    cases p <;> cases q <;> simp [cmp] at e
    subst e
    simp only [RepV] at rp rq
    subst rp rq
    exact op_le pins s σ _ _ _ v u Q I rx ry ⟨_, _, rfl, rfl, P2.here F h (by simp only [RepV])⟩
  | gt =>
    intro pins s σ H x y v u Q I rx ry h
    obtain ⟨w, σ', sl, mu, p, q, z, rfl, F, rp, rq, e, h⟩ := h
    simp only [Option.map_eq_some_iff] at e
    obtain ⟨b, e, rfl⟩ := e
    cases p <;> cases q <;> simp [cmp] at e
    subst e
    simp only [RepV] at rp rq
    subst rp rq
    exact op_gt pins s σ _ _ _ v u Q I rx ry ⟨_, _, rfl, rfl, P2.here F h (by simp only [RepV])⟩
  | ge =>
    intro pins s σ H x y v u Q I rx ry h
    obtain ⟨w, σ', sl, mu, p, q, z, rfl, F, rp, rq, e, h⟩ := h
    simp only [Option.map_eq_some_iff] at e
    obtain ⟨b, e, rfl⟩ := e
    cases p <;> cases q <;> simp [cmp] at e
    subst e
    simp only [RepV] at rp rq
    subst rp rq
    exact op_ge pins s σ _ _ _ v u Q I rx ry ⟨_, _, rfl, rfl, P2.here F h (by simp only [RepV])⟩
end
end RA

/-! Subscripts, slices, isinstance, built-ins on own values. -/
namespace RA
open PySem L2 PyProof.Rows PySem.SeqAt

theorem IxR.imp {X : Cx} {r r' : R2} (h : IxR X r) (f : ∀ x y H Q, r' x y H Q → r x y H Q) : IxR X r' := fun value slice pins s σ H x y v u Q I rx ry q hs => h value slice pins s σ H x y v u Q I rx ry (f x y H Q q) hs
theorem SlR.imp {X : Cx} {r r' : V → Option Int → Option Int → Hp → VK → Prop} (h : SlR X r) (f : ∀ x lo hi H Q, r' x lo hi H Q → r x lo hi H Q) : SlR X r' := fun pins s σ H x v vl vu lo hi sl Q I rx hs pl pu q => h pins s σ H x v vl vu lo hi sl Q I rx hs pl pu (f x lo hi H Q q)
theorem CallR.imp {X : Cx} {g : Value} {r r' : List V → Hp → VK → Prop} (h : CallR X g r) (f : ∀ xs H Q, r' xs H Q → r xs H Q) : CallR X g r' := fun pins s σ H xs us Q I rs q => h pins s σ H xs us Q I rs (f xs H Q q)
theorem MtR.imp {X : Cx} {id : String} {r r' : V → List V → Hp → VK → Prop} (h : MtR X id r) (f : ∀ x xs H Q, r' x xs H Q → r x xs H Q) : MtR X id r' := fun pins s σ H x xs v us Q I rx rs q => h pins s σ H x xs v us Q I rx rs (f x xs H Q q)

/-- what an operation of a receiver and arguments wishes -/
def rPs (T : Tb) (f : List PV → Option PV) : List V → Hp → VK → Prop := fun vs H Q => ∃ w σ sl mu ps z, w.H = H ∧ FRel T w σ sl mu ∧ Reps T w ps vs ∧ f ps = some z ∧ ∀ w', Ext w w' → FRel T w' σ sl mu → ∀ v, RepV T w' z v → Q v w'.H

theorem pIx_at {α : Type} {n : Nat} {i : Int} {j : Nat} {xs : List α} (h : pIx n i = some j) (hn : n = xs.length) : atI xs i = xs[j]? := by
  subst hn
  have e : ixN xs.length i = some j := h
  unfold atI
  rw [e]; rfl
theorem vint_get {l : List Int} {j : Nat} {i : Int} (h : l[j]? = some i) : (l.map V.int)[j]? = some (.int i) := by rw [List.getElem?_map, h]; rfl
section
variable {T : Tb} {X : Cx}
/-- a subscript where the container may be a cell -/
def idxM (mu : List PV) (x y : PV) : Option PV := match x with | .ref n => (mu[n]?).bind fun c => idxP c y | _ => idxP x y
def rIxP (T : Tb) : R2 := fun x y H Q => ∃ w σ sl mu p q z, w.H = H ∧ FRel T w σ sl mu ∧ RepV T w p x ∧ RepV T w q y ∧ idxM mu p q = some z ∧ ∀ w', Ext w w' → FRel T w' σ sl mu → ∀ v, RepV T w' z v → Q v w'.H
theorem idxP_lst {w : Wd} {σ : L2.St} {sl : List Sl} {mu : List PV} {l : List PV} {q z : PV} {y : V} {xs : List V} {Q : VK} (F : FRel T w σ sl mu) (h : ∀ w', Ext w w' → FRel T w' σ sl mu → ∀ v, RepV T w' z v → Q v w'.H) (rl : Reps T w l xs) (rq : RepV T w q y)
    (e : idxP (.lst l) q = some z) : ∃ i v, y = .int i ∧ atI xs i = some v ∧ Q v w.H := by
  cases q with
  | int i =>
    simp only [idxP, Option.bind_eq_some_iff] at e
    obtain ⟨j, e1, e2⟩ := e
    obtain ⟨v, h1, h2⟩ := rl.get e2
    simp only [RepV] at rq
    exact ⟨i, v, rq, by rw [pIx_at e1 rl.len]; exact h1, P2.here F h h2⟩
  | _ => simp [idxP] at e
theorem snd_idx (hK : T.K = X.K) : IxR X (rIxP T) := by
  refine IxR.imp ix_seq fun x y H Q h => ?_
  obtain ⟨w, σ', sl, mu, p, q, z, rfl, F, rp, rq, e, h⟩ := h
  cases p with
  | ref n =>
    simp only [idxM, Option.bind_eq_some_iff] at e
    obtain ⟨c, e0, e⟩ := e
    simp only [RepV] at rp
    obtain ⟨a, rfl, hm⟩ := rp
    obtain ⟨cr, _⟩ := F.cel.cl n c a e0 hm
    cases c with
    | lst l =>
      obtain ⟨xs, k1, k2⟩ := cr
      obtain ⟨i, v, rfl, h2, h3⟩ := idxP_lst F h k2 rq e
      exact .inl ⟨a, xs, i, v, rfl, rfl, SqL.of k1, h2, h3⟩
    | obj _ _ => simp [idxP] at e
    | _ => exact cr.elim
  | lst l =>
    simp only [idxM] at e
    simp only [RepV] at rp
    obtain ⟨a, xs, rfl, k1, _, k2⟩ := rp
    obtain ⟨i, v, rfl, h2, h3⟩ := idxP_lst F h k2 rq e
    exact .inl ⟨a, xs, i, v, rfl, rfl, SqL.of k1, h2, h3⟩
  | tup l =>
    simp only [idxM] at e
    simp only [RepV] at rp
    obtain ⟨a, xs, rfl, k1, k2⟩ := rp
    obtain ⟨i, v, rfl, h2, h3⟩ := idxP_lst F h k2 rq (by cases q <;> exact e)
    exact .inr (.inl ⟨a, xs, i, v, rfl, rfl, hK ▸ k1.sq, h2, h3⟩)
  | fro l =>
    simp only [idxM] at e
    simp only [RepV] at rp
    obtain ⟨a, rfl, k1⟩ := rp
    cases q with
    | int i =>
      simp only [idxP, Option.bind_eq_some_iff, Option.map_eq_some_iff] at e
      obtain ⟨j, e1, m, e2, rfl⟩ := e
      simp only [RepV] at rq
      exact .inl ⟨a, _, i, .int m, rfl, rq, hK ▸ k1.sq, by rw [pIx_at e1 (by rw [List.length_map])]; exact vint_get e2, P2.here F h (by simp only [RepV])⟩
    | _ => simp [idxP] at e
  | str l =>
    simp only [idxM] at e
    simp only [RepV] at rp
    obtain ⟨rfl, hl⟩ := rp
    cases q with
    | int i =>
      simp only [idxP, Option.bind_eq_some_iff, Option.map_eq_some_iff] at e
      obtain ⟨j, e1, m, e2, rfl⟩ := e
      simp only [RepV] at rq
      refine .inr (.inr ⟨_, i, m, rfl, rq, by rw [str_len, ← SZ_line]; exact hl, ?_, P2.here F h ?_⟩)
      · show atI l.toArray.toList i = some m
        rw [List.toList_toArray, pIx_at e1 rfl]; exact e2
      · simp only [RepV]; exact ⟨trivial, show 1 ≤ SZ by decide⟩
    | _ => simp [idxP] at e
  | _ => cases q <;> simp [idxM, idxP] at e

theorem sIx_eq (n d : Nat) (o : Option Int) : HT.sIx n d o = sIx n d o := by
  cases o with
  | none => rfl
  | some i => show (if i < 0 then (i + (n : Int)).toNat else min i.toNat n) = _ <;> rfl
theorem cut_map {α β : Type} (f : α → β) (l : List α) (lo hi : Option Int) : (cut l lo hi).map f = cut (l.map f) lo hi := by
  unfold cut
  rw [List.map_take, List.map_drop, List.length_map]
theorem cutV_eq (xs : List V) (lo hi : Option Int) : cutV xs lo hi = cut xs lo hi := by
  unfold cutV cut
  rw [sIx_eq, sIx_eq]
theorem Reps.cut {w : Wd} {l : List PV} {xs : List V} (h : Reps T w l xs) (lo hi : Option Int) : Reps T w (cut l lo hi) (RA.cut xs lo hi) := by
  unfold RA.cut
  rw [h.len]
  exact (h.drop _).take _
theorem cut_all {α : Type} {l : List α} {lo hi : Option Int} (h : sIx l.length 0 lo = 0 ∧ sIx l.length l.length hi = l.length) : cut l lo hi = l := by
  unfold cut
  rw [h.1, h.2]
  simp
theorem cut_len {α : Type} (l : List α) (lo hi : Option Int) : (cut l lo hi).length ≤ l.length := by
  unfold cut
  rw [List.length_take, List.length_drop]
  omega
def rSlP (T : Tb) : V → Option Int → Option Int → Hp → VK → Prop := fun x lo hi H Q => ∃ w σ sl mu p z, w.H = H ∧ FRel T w σ sl mu ∧ RepV T w p x ∧ sliP p lo hi = some z ∧ ∀ w', Ext w w' → FRel T w' σ sl mu → ∀ v, RepV T w' z v → Q v w'.H
theorem snd_sli (hK : T.K = X.K) : SlR X (rSlP T) := by
  refine SlR.imp (sl_list.or (sl_tupP.or C8.sl_txt)) fun x lo hi H Q h => ?_
  obtain ⟨w, σ', sl, mu, p, z, rfl, F, rp, e, h⟩ := h
  cases p with
  | lst l =>
    simp only [sliP, Option.some.injEq] at e
    subst e
    simp only [RepV] at rp
    obtain ⟨a, xs, rfl, k1, _, k2⟩ := rp
    refine .inl ⟨a, xs, rfl, SqL.of k1, fun p hp => ?_⟩
    rw [cutV_eq]
    exact P2.lst F h (k2.cut lo hi) hp
  | fro l =>
    simp only [sliP, Option.some.injEq] at e
    subst e
    simp only [RepV] at rp
    obtain ⟨a, rfl, k1⟩ := rp
    refine .inl ⟨a, _, rfl, hK ▸ k1.sq, fun p hp => ?_⟩
    rw [cutV_eq]
    refine P2.lst F h ?_ hp
    rw [← cut_map]
    generalize cut l lo hi = r
    induction r with
    | nil => simp [Reps]
    | cons i r ih => simp only [List.map_cons, Reps, RepV]; exact ⟨_, _, rfl, rfl, ih⟩
  | tup l =>
    simp only [sliP, Option.some.injEq] at e
    subst e
    simp only [RepV] at rp
    obtain ⟨a, xs, rfl, k1, k2⟩ := rp
    refine .inr (.inl ⟨a, xs, rfl, hK ▸ k1.sq, fun hw => ?_, fun hw p O hp hO => ?_⟩)
    · rw [sIx_eq, sIx_eq] at hw
      refine P2.here F h ?_
      simp only [RepV]
      rw [cut_all (by rw [k2.len]; exact hw)]
      exact ⟨a, xs, rfl, k1, k2⟩
    · rw [cutV_eq]
      exact P2.tup F h (k2.cut lo hi) hp hO
  | str l =>
    simp only [sliP, Option.some.injEq] at e
    subst e
    simp only [RepV] at rp
    obtain ⟨rfl, hl⟩ := rp
    refine .inr (.inr ⟨_, rfl, by rw [str_len, ← SZ_line]; exact hl, ?_⟩)
    rw [← C8.cutS_slice]
    have e : cutS ⟨l.toArray⟩ lo hi = ⟨(cut l lo hi).toArray⟩ := by
      unfold cutS cut
      rw [sIx_eq, sIx_eq, str_len]
    rw [e]
    exact P2.here F h (by simp only [RepV]; exact ⟨trivial, Nat.le_trans (cut_len _ _ _) hl⟩)
  | _ => simp [sliP] at e

/-! ### isinstance -/
def tyN : Ty → String
  | .int => "int" | .bool => "bool" | .str => "str" | .tup => "tuple" | .lst => "list"
def rIsi (T : Tb) (t : Ty) : List V → Hp → VK → Prop := fun vs H Q => ∃ w σ sl mu p x, w.H = H ∧ FRel T w σ sl mu ∧ vs = [x, .ty (tyN t)] ∧ RepV T w p x ∧ isD p = true ∧ Q (.bl (isTy t p)) H
theorem snd_isi (hK : T.K = X.K) (t : Ty) : CallR X (.builtin "isinstance") (rIsi T t) := by
  intro pins s σ H xs us Q I rs h
  obtain ⟨w, σ', sl, mu, p, x, rfl, F, rfl, rp, d, q⟩ := h
  obtain ⟨u, u2, rfl, r1, r2⟩ := Vals.two rs
  cases r2
  obtain ⟨as, rd⟩ := Dp.reads I _ _ _ (hK ▸ RepV.dp p x d rp) r1
  have fin : ∀ (k : Nat) (b : Bool), b = isTy t p → EP X pins σ Q (.bool b) { s with toks := k } := fun k b e => by subst e; exact ⟨.bl _, w.H, I.tok k, rfl, q⟩
  cases t with
  | int => exact PySem.W.isinstance_int_data rd fun k _ => fin k _ (by cases p <;> rfl)
  | bool => exact PySem.W.isinstance_bool_data rd fun k _ => fin k _ (by cases p <;> rfl)
  | str => exact PySem.W.isinstance_str_data rd fun k _ => fin k _ (by cases p <;> rfl)
  | tup => exact PySem.W.isinstance_tuple_data rd fun k _ => fin k _ (by cases p <;> rfl)
  | lst => exact PySem.W.isinstance_list_data rd fun k _ => fin k _ (by cases p <;> rfl)

/-! ### built-ins -/
theorem minI_mem : ∀ (a : Int) (r : List Int), minI a r ∈ a :: r ∧ ∀ y ∈ a :: r, minI a r ≤ y
  | a, [] => by simp [minI]
  | a, b :: r => by
    simp only [minI]
    obtain ⟨h1, h2⟩ := minI_mem (if b < a then b else a) r
    have hle : (if b < a then b else a) ≤ a ∧ (if b < a then b else a) ≤ b := by split <;> omega
    have h3 := h2 _ List.mem_cons_self
    refine ⟨?_, fun y hy => ?_⟩
    · rcases List.mem_cons.mp h1 with z | z
      · rw [z]; split <;> simp
      · simp [z]
    · rcases List.mem_cons.mp hy with z | z
      · subst z; exact Int.le_trans h3 hle.1
      · rcases List.mem_cons.mp z with z | z
        · subst z; exact Int.le_trans h3 hle.2
        · exact h2 y (List.mem_cons_of_mem _ z)
theorem maxI_mem : ∀ (a : Int) (r : List Int), maxI a r ∈ a :: r ∧ ∀ y ∈ a :: r, y ≤ maxI a r
  | a, [] => by simp [maxI]
  | a, b :: r => by
    simp only [maxI]
    obtain ⟨h1, h2⟩ := maxI_mem (if a < b then b else a) r
    have hle : a ≤ (if a < b then b else a) ∧ b ≤ (if a < b then b else a) := by split <;> omega
    have h3 := h2 _ List.mem_cons_self
    refine ⟨?_, fun y hy => ?_⟩
    · rcases List.mem_cons.mp h1 with z | z
      · rw [z]; split <;> simp
      · simp [z]
    · rcases List.mem_cons.mp hy with z | z
      · subst z; exact Int.le_trans hle.1 h3
      · rcases List.mem_cons.mp z with z | z
        · subst z; exact Int.le_trans hle.2 h3
        · exact h2 y (List.mem_cons_of_mem _ z)
theorem decN_num : ∀ (f n : Nat), n < 10 ^ (f + 1) → decN (f + 1) n = TL.numL n
  | f, n, h => by
    unfold decN
    by_cases h1 : n < 10
    · rw [if_pos h1, TL.numL_lt h1]
    · rw [if_neg h1, TL.numL_step (by omega)]
      cases f with
      | zero => simp at h; omega
      | succ f => rw [decN_num f (n / 10) (by rw [Nat.pow_succ] at h; omega)]
def biT : Bi → Value
  | .list => .type "list" | .lsth => .type "list" | .tuple => .type "tuple" | .str => .type "str" | .int => .type "int"
  | .len => .builtin "len" | .all => .builtin "all" | .any => .builtin "any" | .sum1 => .builtin "sum" | .sum2 => .builtin "sum" | .min => .builtin "min" | .max => .builtin "max" | .abs => .builtin "abs"
theorem reps1 {w : Wd} {p : PV} {vs : List V} (h : Reps T w [p] vs) : ∃ v, vs = [v] ∧ RepV T w p v := by
  simp only [Reps] at h
  obtain ⟨v, r, rfl, h1, rfl⟩ := h
  exact ⟨v, rfl, h1⟩
theorem reps2 {w : Wd} {p q : PV} {vs : List V} (h : Reps T w [p, q] vs) : ∃ v u, vs = [v, u] ∧ RepV T w p v ∧ RepV T w q u := by
  simp only [Reps] at h
  obtain ⟨v, r, rfl, h1, u, r2, rfl, h2, rfl⟩ := h
  exact ⟨v, u, rfl, h1, h2⟩
theorem strs_map (ns : List (List Nat)) : ns.map (fun x => V.str ⟨x.toArray⟩) = (ns.map SX.S).map V.str := by rw [List.map_map]; rfl
theorem joinS_eq (s : List Nat) : ∀ xs : List (List Nat), joinS s xs = TL.joinL s xs
  | [] => rfl
  | [_] => rfl
  | x :: y :: r => by
    show x ++ (s ++ joinS s (y :: r)) = x ++ (s ++ TL.joinL s (y :: r))
    rw [joinS_eq s (y :: r)]
theorem joinS_len (s : List Nat) : ∀ xs : List (List Nat), (joinS s xs).length ≤ (xs.map List.length).sum + xs.length * s.length
  | [] => by simp [joinS]
  | [x] => by simp [joinS]
  | x :: y :: r => by
    have h := joinS_len s (y :: r)
    simp only [joinS, List.length_append, List.map_cons, List.sum_cons, List.length_cons] at h ⊢
    have e : (r.length + 1 + 1) * s.length = (r.length + 1) * s.length + s.length := by rw [Nat.succ_mul]
    omega
theorem charsReps {w : Wd} : ∀ (x : List Nat), Reps T w (x.map fun c => PV.str [c]) (x.map fun c => V.str ⟨#[c]⟩)
  | [] => by simp [Reps]
  | c :: x => by
    simp only [List.map_cons, Reps, RepV]
    exact ⟨_, _, rfl, ⟨rfl, show 1 ≤ SZ by decide⟩, charsReps x⟩
end

theorem bi_all {ps : List PV} {z : PV} (e : bi .all ps = some z) : ∃ l bs, ps = [.lst l] ∧ pBls l = some bs ∧ z = .bl (bs.all id) := by
  unfold bi at e
  split at e <;> simp_all
  obtain ⟨a, h1, h2⟩ := e
  exact ⟨_, h1, h2.symm⟩
theorem bi_len {ps : List PV} {z : PV} (e : bi .len ps = some z) : (∃ l, ps = [.tup l] ∧ z = .int l.length) ∨ (∃ l, ps = [.lst l] ∧ z = .int l.length) ∨ (∃ l, ps = [.fro l] ∧ z = .int l.length) ∨ (∃ l, ps = [.str l] ∧ z = .int l.length) := by
  unfold bi at e
  split at e <;> simp_all
theorem bi_any {ps : List PV} {z : PV} (e : bi .any ps = some z) : ∃ l bs, ps = [.lst l] ∧ pBls l = some bs ∧ z = .bl (bs.any id) := by
  unfold bi at e
  split at e <;> simp_all
  obtain ⟨a, h1, h2⟩ := e
  exact ⟨_, h1, h2.symm⟩
theorem bi_sum1 {ps : List PV} {z : PV} (e : bi .sum1 ps = some z) : ∃ l bs, ps = [.lst l] ∧ pInts l = some bs ∧ z = .int bs.sum := by
  unfold bi at e
  split at e <;> simp_all
  obtain ⟨a, h1, h2⟩ := e
  exact ⟨_, h1, h2.symm⟩
theorem bi_min {ps : List PV} {z : PV} (e : bi .min ps = some z) : ∃ l a r, ps = [.lst l] ∧ pInts l = some (a :: r) ∧ z = .int (minI a r) := by
  unfold bi at e
  split at e <;> (try simp only [Option.bind_eq_some_iff] at e) <;> simp_all
  obtain ⟨ns, h1, h2⟩ := e
  cases ns <;> simp_all
  exact ⟨_, _, ⟨rfl, rfl⟩, h2.symm⟩
theorem bi_max {ps : List PV} {z : PV} (e : bi .max ps = some z) : ∃ l a r, ps = [.lst l] ∧ pInts l = some (a :: r) ∧ z = .int (maxI a r) := by
  unfold bi at e
  split at e <;> (try simp only [Option.bind_eq_some_iff] at e) <;> simp_all
  obtain ⟨ns, h1, h2⟩ := e
  cases ns <;> simp_all
  exact ⟨_, _, ⟨rfl, rfl⟩, h2.symm⟩
theorem bi_list {ps : List PV} {z : PV} (e : bi .list ps = some z) : (∃ l, ps = [.lst l] ∧ z = .lst l) ∨ (∃ l, ps = [.tup l] ∧ z = .lst l) ∨ (∃ x, ps = [.str x] ∧ z = .lst (x.map fun c => .str [c])) := by
  unfold bi at e
  split at e <;> simp_all
  subst e; simp
theorem bi_tuple {ps : List PV} {z : PV} (e : bi .tuple ps = some z) : (∃ l, ps = [.lst l] ∧ z = .tup l) ∨ (∃ l, ps = [.tup l] ∧ z = .tup l) := by
  unfold bi at e
  split at e <;> simp_all
  subst e; simp
theorem bi_str {ps : List PV} {z : PV} (e : bi .str ps = some z) : ∃ i : Int, ps = [.int i] ∧ 0 ≤ i ∧ i.toNat < 10 ^ 200 ∧ z = .str (decN 200 i.toNat) := by
  unfold bi at e
  split at e <;> simp_all
theorem bi_abs {ps : List PV} {z : PV} (e : bi .abs ps = some z) : ∃ i : Int, ps = [.int i] ∧ z = .int (if i < 0 then -i else i) := by
  unfold bi at e
  split at e <;> simp_all
theorem bi_int {ps : List PV} {z : PV} (e : bi .int ps = some z) : (∃ i : Int, ps = [.int i] ∧ z = .int i) ∨ (∃ b : Bool, ps = [.bl b] ∧ z = .int (b2i b)) := by
  unfold bi at e
  split at e <;> simp_all
  subst e; simp
theorem mt_join {x : PV} {ps : List PV} {z : PV} (e : mt .join x ps = some z) : ∃ s l xs, x = .str s ∧ (ps = [.lst l] ∨ ps = [.tup l]) ∧ pStrs l = some xs ∧ (xs.map List.length).sum + xs.length * s.length ≤ SZ ∧ z = .str (joinS s xs) := by
  unfold mt at e
  split at e <;> (try simp only [Option.bind_eq_some_iff] at e) <;> simp_all
  all_goals
    obtain ⟨a, h1, h2, h3⟩ := e
    exact ⟨a, h1, h2, h3.symm⟩

section
variable {T : Tb} {X : Cx}
/-- the built-ins that are served by values (list of a text and sum of lists apart) -/
def biV : Bi → List PV → Option PV
  | .sum2, _ => none
  | b, l => bi b l
theorem snd_bi (hK : T.K = X.K) (b : Bi) (hb : b ≠ .list) (hb2 : b ≠ .lsth) (cAll : b = .all → CallR X (.builtin "all") (rAll X.K)) (cSum : b = .sum1 → CallR X (.builtin "sum") (rSum X.K)) (hc : b = .any ∨ b = .min ∨ b = .max → X.calm = true) : CallR X (biT b) (rPs T (biV b)) := by
  intro pins s σ H vs us Q I rs h
  obtain ⟨w, σ', sl, mu, ps, z, rfl, F, rp, e, h⟩ := h
  have hz : SZ = sizeLine := SZ_line
  cases b with
  | sum2 => simp [biV] at e
  | list => exact absurd rfl hb
  | lsth => exact absurd rfl hb2
  | len =>
    rcases bi_len e with ⟨l, rfl, rfl⟩ | ⟨l, rfl, rfl⟩ | ⟨l, rfl, rfl⟩ | ⟨l, rfl, rfl⟩ <;> obtain ⟨v, rfl, r⟩ := reps1 rp <;> simp only [RepV] at r
    · obtain ⟨a, xs, rfl, k1, k2⟩ := r
      exact call_len_seq pins s σ _ _ us Q I rs ⟨a, xs, rfl, .inr (hK ▸ k1.sq), P2.here F h (by simp only [RepV]; rw [k2.len])⟩
    · obtain ⟨a, xs, rfl, k1, _, k2⟩ := r
      exact call_len_seq pins s σ _ _ us Q I rs ⟨a, xs, rfl, .inl (SqL.of k1), P2.here F h (by simp only [RepV]; rw [k2.len])⟩
    · obtain ⟨a, rfl, k1⟩ := r
      exact call_len_seq pins s σ _ _ us Q I rs ⟨a, _, rfl, .inl (hK ▸ k1.sq), P2.here F h (by simp only [RepV]; rw [List.length_map])⟩
    · obtain ⟨rfl, k1⟩ := r
      exact call_len_str pins s σ _ _ us Q I rs ⟨_, rfl, by rw [str_len, ← hz]; exact k1, P2.here F h (by simp only [RepV]; rw [str_len])⟩
  | all =>
    obtain ⟨l, bs, rfl, h1, rfl⟩ := bi_all e
    obtain ⟨v, rfl, r⟩ := reps1 rp
    simp only [RepV] at r
    obtain ⟨a, xs, rfl, k1, _, k2⟩ := r
    have e2 := k2.ofBls h1
    subst e2
    exact cAll rfl pins s σ _ _ us Q I rs ⟨a, bs, rfl, SqL.of k1, P2.here F h (by simp only [RepV])⟩
  | any =>
    obtain ⟨l, bs, rfl, h1, rfl⟩ := bi_any e
    obtain ⟨v, rfl, r⟩ := reps1 rp
    simp only [RepV] at r
    obtain ⟨a, xs, rfl, k1, _, k2⟩ := r
    have e2 := k2.ofBls h1
    subst e2
    exact cr_any (hc (.inl rfl)) pins s σ _ _ us Q I rs ⟨a, bs, rfl, SqL.of k1, P2.here F h (by simp only [RepV])⟩
  | sum1 =>
    obtain ⟨l, bs, rfl, h1, rfl⟩ := bi_sum1 e
    obtain ⟨v, rfl, r⟩ := reps1 rp
    simp only [RepV] at r
    obtain ⟨a, xs, rfl, k1, _, k2⟩ := r
    have e2 := k2.ofInts h1
    subst e2
    exact cSum rfl pins s σ _ _ us Q I rs ⟨a, bs, rfl, SqL.of k1, P2.here F h (by simp only [RepV])⟩
  | min =>
    obtain ⟨l, i, r', rfl, h1, rfl⟩ := bi_min e
    obtain ⟨v, rfl, r⟩ := reps1 rp
    simp only [RepV] at r
    obtain ⟨a, xs, rfl, k1, _, k2⟩ := r
    have e2 := k2.ofInts h1
    subst e2
    refine cr_min (hc (.inr (.inl rfl))) pins s σ _ _ us Q I rs ⟨a, i :: r', rfl, SqL.of k1, by simp, fun m hm hy => ?_⟩
    obtain ⟨q1, q2⟩ := minI_mem i r'
    have : m = minI i r' := Int.le_antisymm (hy _ q1) (q2 _ hm)
    subst this
    exact P2.here F h (by simp only [RepV])
  | max =>
    obtain ⟨l, i, r', rfl, h1, rfl⟩ := bi_max e
    obtain ⟨v, rfl, r⟩ := reps1 rp
    simp only [RepV] at r
    obtain ⟨a, xs, rfl, k1, _, k2⟩ := r
    have e2 := k2.ofInts h1
    subst e2
    refine cr_max (hc (.inr (.inr rfl))) pins s σ _ _ us Q I rs ⟨a, i :: r', rfl, SqL.of k1, by simp, fun m hm hy => ?_⟩
    obtain ⟨q1, q2⟩ := maxI_mem i r'
    have : m = maxI i r' := Int.le_antisymm (q2 _ hm) (hy _ q1)
    subst this
    exact P2.here F h (by simp only [RepV])
  | tuple =>
    rcases bi_tuple e with ⟨l, rfl, rfl⟩ | ⟨l, rfl, rfl⟩ <;> obtain ⟨v, rfl, r⟩ := reps1 rp <;> simp only [RepV] at r
    · obtain ⟨a, xs, rfl, k1, _, k2⟩ := r
      exact call_tupleP pins s σ _ _ us Q I rs ⟨a, xs, rfl, .inl ⟨SqL.of k1, fun p O hp hO => P2.tup F h k2 hp hO⟩⟩
    · obtain ⟨a, xs, rfl, k1, k2⟩ := r
      exact call_tupleP pins s σ _ _ us Q I rs ⟨a, xs, rfl, .inr ⟨hK ▸ k1.sq, P2.here F h (by simp only [RepV]; exact ⟨a, xs, rfl, k1, k2⟩)⟩⟩
  | str =>
    obtain ⟨i, rfl, h0, h1, rfl⟩ := bi_str e
    obtain ⟨v, rfl, r⟩ := reps1 rp
    simp only [RepV] at r
    subst r
    obtain ⟨n, rfl⟩ : ∃ n : Nat, i = (n : Int) := ⟨i.toNat, by omega⟩
    have hn : n < 10 ^ 200 := by simpa using h1
    refine call_str_int pins s σ _ _ us Q I rs ⟨_, rfl, ?_, ?_⟩
    · refine PySem.Flt.log2_lt_of (by decide) ?_
      have : (10 : Nat) ^ 200 ≤ 2 ^ 1920 := by decide +kernel
      simp only [Int.natAbs_natCast]
      omega
    · have e2 : ((toString ((n : Nat) : Int) : String) : Str) = ⟨(decN 200 n).toArray⟩ := by
        rw [decN_num 199 n hn]
        exact SX.num_S n
      rw [e2]
      refine P2.here F h ?_
      simp only [RepV, Int.toNat_natCast]
      refine ⟨trivial, ?_⟩
      rw [decN_num 199 n hn]
      exact Nat.le_trans (TL.numL_len (by decide) hn) (by decide)
  | abs =>
    obtain ⟨i, rfl, rfl⟩ := bi_abs e
    obtain ⟨v, rfl, r⟩ := reps1 rp
    simp only [RepV] at r
    subst r
    exact call_abs pins s σ _ _ us Q I rs ⟨i, rfl, P2.here F h (by simp only [RepV])⟩
  | int =>
    rcases bi_int e with ⟨i, rfl, rfl⟩ | ⟨b, rfl, rfl⟩ <;> obtain ⟨v, rfl, r⟩ := reps1 rp <;> simp only [RepV] at r
    · subst r
      exact call_int1 pins s σ _ _ us Q I rs (.inl ⟨i, rfl, P2.here F h (by simp only [RepV])⟩)
    · subst r
      exact call_int1 pins s σ _ _ us Q I rs (.inr ⟨b, rfl, P2.here F h (by simp only [RepV, b2i])⟩)
/-- list(x) of a list or a tuple -/
def lsV : List PV → Option PV
  | [.lst l] => some (.lst l)
  | [.tup l] => some (.lst l)
  | _ => none
theorem snd_list (hK : T.K = X.K) : CallR X (.type "list") (rPs T lsV) := by
  intro pins s σ H vs us Q I rs h
  obtain ⟨w, σ', sl, mu, ps, z, rfl, F, rp, e, h⟩ := h
  unfold lsV at e
  split at e
  · simp only [Option.some.injEq] at e
    subst e
    obtain ⟨v, rfl, r⟩ := reps1 rp
    simp only [RepV] at r
    obtain ⟨a, xs, rfl, k1, _, k2⟩ := r
    exact call_list_of pins s σ _ _ us Q I rs ⟨a, xs, rfl, .inl (SqL.of k1), fun p hp => P2.lst F h k2 hp⟩
  · simp only [Option.some.injEq] at e
    subst e
    obtain ⟨v, rfl, r⟩ := reps1 rp
    simp only [RepV] at r
    obtain ⟨a, xs, rfl, k1, k2⟩ := r
    exact call_list_of pins s σ _ _ us Q I rs ⟨a, xs, rfl, .inr (hK ▸ k1.sq), fun p hp => P2.lst F h k2 hp⟩
  · cases e
/-- methods of texts -/
def rMt (T : Tb) (m : Mt) : V → List V → Hp → VK → Prop := fun x vs H Q => ∃ w σ sl mu p ps z, w.H = H ∧ FRel T w σ sl mu ∧ RepV T w p x ∧ Reps T w ps vs ∧ mt m p ps = some z ∧ ∀ w', Ext w w' → FRel T w' σ sl mu → ∀ v, RepV T w' z v → Q v w'.H
theorem snd_join (hK : T.K = X.K) : MtR X "str.join" (rMt T .join) := by
  intro pins s σ H x xs v us Q I rx rs h
  obtain ⟨w, σ', sl, mu, p, ps, z, rfl, F, rp, rps, e, h⟩ := h
  obtain ⟨y, l, ys, rfl, hps, h1, h2, rfl⟩ := mt_join e
  simp only [RepV] at rp
  obtain ⟨rfl, _⟩ := rp
  have fin : ∀ (a : Addr) (us' : List V), us' = (ys.map SX.S).map V.str → xs = [.ref a] → (SqL X.K w.H a us' ∨ SqT X.K w.H a us') → wpAny (model X.prog X.w) X.A (call (.builtin "str.join") (v :: us)) (EP X pins σ Q) X.xe s := fun a us' e2 e3 hsq => by
    subst e2 e3
    refine L2.mt_join pins s σ _ _ _ v us Q I rx rs ⟨_, a, ys.map SX.S, rfl, rfl, hsq, ?_, ?_⟩
    · rw [SX.lens, List.length_map, str_len]; exact h2
    · rw [SX.join_S, ← joinS_eq]
      exact P2.here F h (by simp only [RepV]; exact ⟨trivial, Nat.le_trans (joinS_len _ _) h2⟩)
  rcases hps with rfl | rfl <;> obtain ⟨u, rfl, r⟩ := reps1 rps
  · unfold RepV at r
    obtain ⟨a, xs', rfl, k1, _, k2⟩ := r
    obtain ⟨e2, e3⟩ := k2.ofStrs h1
    rw [strs_map] at e2
    exact fin a xs' e2 rfl (.inl (SqL.of k1))
  · unfold RepV at r
    obtain ⟨a, xs', rfl, k1, k2⟩ := r
    obtain ⟨e2, e3⟩ := k2.ofStrs h1
    rw [strs_map] at e2
    exact fin a xs' e2 rfl (.inr (hK ▸ k1.sq))
end
end RA

/-! The checker: an IR against the given syntax (positions apart). -/
namespace RA
open PySem L2

structure Ck where
  N : List Str
  gn : List Str
  fnm : List (Option Str)
  mtn : List (Option (Nat × Str)) := []
  cln : List Str := []
  atn : List (List Str) := []
  xcn : List (Str × List Bool) := []
  xfl : List (List Str) := []
  icl : List (Str × List (Nat × Bool)) := []
  hot : Bool := false
  hnd : List Nat := []
  hf : List Nat := []

def vis (sc : Scope) (x : Str) : Bool := match sc.names.lookup x with | some .local => true | some .cell => true | some .free => true | _ => false
def glb (sc : Scope) (x : Str) : Bool := match sc.names.lookup x with | some .globalImplicit => true | _ => false
def okNm (x : Str) : Bool := !(x == ("__debug__" : Str)) && !(x == ("__classdict__" : Str)) && !(x == ("__name__" : Str))
def loc (sc : Scope) (fb : Str → Bool) (x : Str) : Bool := match sc.names.lookup x with | some .local => true | some .cell => fb x | _ => false
def notSet : Expr → Bool
  | .Set _ _ _ => false
  | _ => true
def notStar : Expr → Bool
  | .Starred _ _ => false
  | _ => true
def notSlice : Expr → Bool
  | .Slice _ _ _ _ => false
  | _ => true
/-- a test that is its value's truth -/
def plainT : Expr → Bool
  | .UnaryOp .Not _ _ => false
  | .BoolOp _ _ _ => false
  | .IfExp _ _ _ _ => false
  | .Compare _ _ _ _ => false
  | _ => true
def notSuper : Expr → Bool
  | .Call (.Name _ _) [] [] _ => false
  | _ => true
def biN : Bi → Str
  | .lsth => "list" | .len => "len" | .all => "all" | .any => "any" | .sum1 => "sum" | .sum2 => "sum" | .min => "min" | .max => "max" | .list => "list" | .tuple => "tuple" | .str => "str" | .abs => "abs" | .int => "int"
/-- a built-in that is served while an exception is handled -/
def Bi.hotOk : Bi → Bool
  | .len => true | .all => true | .sum1 => true | .lsth => true | .tuple => true | .str => true | .abs => true | .int => true
  | _ => false
def mtN : Mt → Str
  | .join => "join" | .index => "index"
def tyS : Ty → Str
  | .int => "int" | .bool => "bool" | .str => "str" | .tup => "tuple" | .lst => "list"
def isName (sc : Scope) (n : Str) : Expr → Bool
  | .Name x _ => x == n && glb sc n
  | _ => false

mutual
def Tg.sl : Tg → List Nat
  | .nm i => [i]
  | .tp ts => ts.sls
def Tgs.sls : Tgs → List Nat
  | .nil => []
  | .cons t ts => t.sl ++ ts.sls
end
mutual
def ckG (N : List Str) (sc : Scope) (fb : Str → Bool) : Tg → Expr → Bool
  | .nm i, e => (match e with | .Name x _ => decide (N[i]? = some x) && loc sc fb x && okNm x | _ => false)
  | .tp ts, e => (match e with | .Tuple xs _ _ => ckGs N sc fb ts xs | _ => false)
def ckGs (N : List Str) (sc : Scope) (fb : Str → Bool) : Tgs → List Expr → Bool
  | .nil, xs => xs.isEmpty
  | .cons t ts, xs => (match xs with | x :: r => ckG N sc fb t x && notStar x && ckGs N sc fb ts r | [] => false)
end
def isTup : Expr → Bool
  | .Tuple _ _ _ => true
  | _ => false
/-- the block's own names with their slots -/
def ownOf (N : List Str) (own : List Nat) : List (Str × Nat) := own.filterMap fun i => (N[i]?).map fun x => (x, i)

mutual
def ckE (C : Ck) (sc : Scope) (fb : Str → Bool) : Ex → Expr → Bool
  | .non, e => (match e with | .Constant .none _ _ => true | _ => false)
  | .bl b, e => (match e with | .Constant (.bool c) _ _ => b == c | _ => false)
  | .int i, e => (match e with | .Constant (.int j) _ _ => i == j | _ => false)
  | .str x, e => (match e with | .Constant (.str y) _ _ => y.cps.toList == x && Nat.ble x.length SZ | _ => false)
  | .loc i, e => (match e with | .Name x _ => decide (C.N[i]? = some x) && vis sc x && okNm x | _ => false)
  | .glo g, e => (match e with | .Name x _ => decide (C.gn[g]? = some x) && glb sc x && okNm x | _ => false)
  | .tup es, e => (match e with | .Tuple xs _ _ => ckEs C sc fb es xs && Nat.ble xs.length 1000 | _ => false)
  | .lst es, e => (match e with | .List xs _ => ckEs C sc fb es xs && Nat.ble xs.length 1000 | _ => false)
  | .op o a b, e => (match e with | .BinOp x p y _ => decide (p = opE o) && ckE C sc fb a x && ckE C sc fb b y | _ => false)
  | .neg a, e => (match e with | .UnaryOp .USub x _ => ckE C sc fb a x | _ => false)
  | .and a b, e => (match e with
    | .BoolOp .And [x, y] _ => ckE C sc fb a x && ckE C sc fb b y
    | .BoolOp .And (x :: y :: z :: r) p => ckE C sc fb a x && ckE C sc fb b (.BoolOp .And (y :: z :: r) p)
    | _ => false)
  | .or a b, e => (match e with
    | .BoolOp .Or [x, y] _ => ckE C sc fb a x && ckE C sc fb b y
    | .BoolOp .Or (x :: y :: z :: r) p => ckE C sc fb a x && ckE C sc fb b (.BoolOp .Or (y :: z :: r) p)
    | _ => false)
  | .nt a, e => (match e with | .UnaryOp .Not x _ => ckE C sc fb a x | _ => false)
  | .cmp o a b, e => (match e with | .Compare x [p] [y] _ => decide (p = cmE o) && ckE C sc fb a x && ckE C sc fb b y && notSet y | _ => false)
  | .chn o o' a b c, e => (match e with | .Compare x [p, q] [y, z] _ => decide (p = cmE o) && decide (q = cmE o') && ckE C sc fb a x && ckE C sc fb b y && ckE C sc fb c z && notSet z | _ => false)
  | .isn n a, e => (match e with | .Compare x [p] [.Constant .none _ _] _ => decide (p = if n then .IsNot else .Is) && ckE C sc fb a x | _ => false)
  | .isi t a, e => (match e with | .Call f [x, y] [] _ => isName sc "isinstance" f && isName sc (tyS t) y && ckE C sc fb a x && notStar x | _ => false)
  | .ife t a b, e => (match e with | .IfExp x y z _ => ckT C sc fb t x && ckE C sc fb a y && ckE C sc fb b z | _ => false)
  | .idx a b, e => (match e with | .Subscript x y _ => ckE C sc fb a x && ckE C sc fb b y && notSlice y | _ => false)
  | .sli a lo hi, e => (match e with | .Subscript x (.Slice l h none _) _ => ckE C sc fb a x && ckO C sc fb lo l && ckO C sc fb hi h | _ => false)
  | .call f es, e => (match e with | .Call (.Name x _) xs [] _ => (!C.hot || (C.hf.contains f && !xs.isEmpty)) && decide (C.fnm[f]? = some (some x)) && glb sc x && okNm x && ckEs C sc fb es xs | _ => false)
  | .bi b es, e => (match e with | .Call f (x :: xs) [] _ => (!C.hot || b.hotOk) && isName sc (biN b) f && ckEs C sc fb es (x :: xs) | _ => false)
  | .mt m a es, e => (match e with | .Call (.Attribute o n ap) (x :: xs) [] cp => decide (n = mtN m) && ckE C sc fb a o && notSuper o && ckEs C sc fb es (x :: xs) && Nat.ble xs.length 5 && ap.endLine == cp.line | _ => false)
  | .lc own elt tg it ifs, e => (match e with
    | .ListComp x [⟨t, i, fs, 0⟩] scope _ => blkC C.N sc scope (ownOf C.N own) && decide ((ownOf C.N own).map (·.2) = own) && tg.sl.all (fun i => own.contains i) && ckI C sc fb it i t && ckG C.N (relS scope sc) (fun y => scope.names.lookup y == some .cell) tg t
        && ckTs C (relS scope sc) (fun y => scope.names.lookup y == some .cell) ifs fs && Nat.ble fs.length 1 && ckE C (relS scope sc) (fun y => scope.names.lookup y == some .cell) elt x && notSet i
    | _ => false)
  | .lrg it, e => (match e with | .Call f [x] [] _ => isName sc "list" f && notStar x && ckR C sc fb it x | _ => false)
  | .dcd kvs, e => (match e with | .Dict keys values _ => ckD C sc fb kvs keys values && Nat.ble keys.length 15 | _ => false)
  | .dix a b, e => (match e with | .Subscript x y _ => ckE C sc fb a x && ckE C sc fb b y && notSlice y | _ => false)
  | .dof a, e => (match e with | .Call f [x] [] _ => !C.hot && isName sc "dict" f && ckE C sc fb a x && notStar x | _ => false)
  | .dgt d k x, e => (match e with | .Call (.Attribute o n ap) [a, b] [] cp => decide (n = "get") && ckE C sc fb d o && ckE C sc fb k a && ckE C sc fb x b && notSuper o && notStar a && notStar b && ap.endLine == cp.line | _ => false)
  | .rev a, e => (match e with | .Subscript x (.Slice none none (some (.UnaryOp .USub (.Constant (.int 1) _ _) _)) _) _ => ckE C sc fb a x | _ => false)
  | .stk, _ => true
  | .fnv f, e => (match e with | .Name x _ => decide (C.fnm[f]? = some (some x)) && glb sc x && okNm x | _ => false)
  | .clv i es, e => (match e with | .Call (.Name x _) (y :: ys) [] _ => !C.hot && decide (C.N[i]? = some x) && vis sc x && okNm x && ckEs C sc fb es (y :: ys) | _ => false)
  | .tst bs es, e => (match e with | .Tuple xs _ _ => ckSt C sc fb bs es xs && Nat.ble xs.length 1000 | _ => false)
  | .xnw c ks es, e => (match e with | .Call (.Name x _) (y :: ys) [] _ => !C.hot && decide (C.xcn[c]? = some (x, ks)) && glb sc x && okNm x && ckEs C sc fb es (y :: ys) && Nat.ble (y :: ys).length 900 | _ => false)
  | .xat tb a, e => (match e with | .Attribute o n _ => tb.all (fun p => decide ((C.xfl[p.1]?).bind (·[p.2]?) = some n) && Nat.blt p.1 C.xcn.length) && ckE C sc fb a o && notSuper o | _ => false)
  | .exf i c k, e => (match e with | .Attribute (.Name x _) n _ => decide (C.N[i]? = some x) && vis sc x && okNm x && decide ((C.xfl[c]?).bind (·[k]?) = some n) | _ => false)
  | .xie i k tb, e => (match e with | .Call f [.Name z _, .Name y _] [] _ => isName sc "isinstance" f && decide (C.N[i]? = some z) && vis sc z && okNm z && decide (C.icl[k]? = some (y, tb)) && glb sc y && okNm y | _ => false)
  | .xis k tb a, e => (match e with | .Call f [x, .Name y _] [] _ => isName sc "isinstance" f && decide (C.icl[k]? = some (y, tb)) && glb sc y && okNm y && ckE C sc fb a x && notStar x | _ => false)
  | _, _ => false
/-- items beside each other, some with a star -/
def ckSt (C : Ck) (sc : Scope) (fb : Str → Bool) : List Bool → Exs → List Expr → Bool
  | [], es, xs => (match es with | .nil => xs.isEmpty | _ => false)
  | b :: bs, es, xs => (match es with
    | .nil => false
    | .cons e es => (match xs with
      | x :: r => (match b, x with
        | true, .Starred y _ => ckE C sc fb e y
        | false, x => ckE C sc fb e x && notStar x
        | _, _ => false) && ckSt C sc fb bs es r
      | [] => false))
def ckD (C : Ck) (sc : Scope) (fb : Str → Bool) : Exs → List (Option Expr) → List Expr → Bool
  | .nil, ks, vs => ks.isEmpty && vs.isEmpty
  | .cons k r, ks, vs => (match r with
    | .nil => false
    | .cons v r => (match ks, vs with
      | some a :: ks, b :: vs => ckE C sc fb k a && ckE C sc fb v b && ckD C sc fb r ks vs
      | _, _ => false))
/-- a range -/
def ckR (C : Ck) (sc : Scope) (fb : Str → Bool) : It → Expr → Bool
  | .rg1 a, e => (match e with | .Call f [x] [] _ => isName sc "range" f && ckE C sc fb a x && notStar x | _ => false)
  | .rg2 a b, e => (match e with | .Call f [x, y] [] _ => isName sc "range" f && ckE C sc fb a x && ckE C sc fb b y && notStar x && notStar y | _ => false)
  | _, _ => false
/-- what is walked; its target -/
def ckI (C : Ck) (sc : Scope) (fb : Str → Bool) : It → Expr → Expr → Bool
  | .val a, e, _ => ckE C sc fb a e
  | .rg1 a, e, _ => (match e with | .Call f [x] [] _ => isName sc "range" f && ckE C sc fb a x && notStar x | _ => false)
  | .rg2 a b, e, _ => (match e with | .Call f [x, y] [] _ => !C.hot && isName sc "range" f && ckE C sc fb a x && ckE C sc fb b y && notStar x && notStar y | _ => false)
  | .enu a, e, t => (match e with | .Call f [x] [] _ => !C.hot && isName sc "enumerate" f && ckE C sc fb a x && notStar x && isTup t | _ => false)
  | .zip a b, e, t => (match e with | .Call f [x, y] [] _ => isName sc "zip" f && ckE C sc fb a x && ckE C sc fb b y && notStar x && notStar y && isTup t | _ => false)
def ckEs (C : Ck) (sc : Scope) (fb : Str → Bool) : Exs → List Expr → Bool
  | .nil, xs => xs.isEmpty
  | .cons e es, xs => (match xs with | x :: r => ckE C sc fb e x && notStar x && ckEs C sc fb es r | [] => false)
def ckT (C : Ck) (sc : Scope) (fb : Str → Bool) : Tt → Expr → Bool
  | .v a, e => ckE C sc fb a e && (plainT e || (match a with | .cmp _ _ _ => true | .chn _ _ _ _ _ => true | .isn _ _ => true | _ => false))
  | .all ts, e => (match e with | .BoolOp .And xs _ => ckTs C sc fb ts xs && !xs.isEmpty | _ => false)
  | .any ts, e => (match e with | .BoolOp .Or xs _ => ckTs C sc fb ts xs && !xs.isEmpty | _ => false)
  | .nt t, e => (match e with | .UnaryOp .Not x _ => ckT C sc fb t x | _ => false)
def ckTs (C : Ck) (sc : Scope) (fb : Str → Bool) : Tts → List Expr → Bool
  | .nil, xs => xs.isEmpty
  | .cons t ts, xs => (match xs with | x :: r => ckT C sc fb t x && ckTs C sc fb ts r | [] => false)
def ckO (C : Ck) (sc : Scope) (fb : Str → Bool) : Oe → Option Expr → Bool
  | .no, e => e.isNone
  | .so a, e => (match e with | some x => ckE C sc fb a x | none => false)
end
end RA

set_option maxHeartbeats 2000000
/-! Own exceptions made: held as values, or raised where nothing is handled (their context is None). -/
namespace RA
open PySem PySem.Spec PyProof.Rows L2
/-- the heap with the tuple of the arguments and the new exception behind it -/
abbrev hpX (h : Heap) (us : List Value) (C : Addr) : Heap := (h.push (PySem.W.kdv_tup us)).push (PySem.HandSPX.excO C h.objs.size)
section
variable {X : Cx} {C fI : Addr} {CX : CXT} {k : Nat} {fd : FuncData} {ps : List Str} {sp : Sp}
theorem hpX_inv {pins : List (Addr × Obj)} {σ : L2.St} {H : Hp} {s : Shared} (I : Inv X pins σ H s) (us : List Value) (C : Addr) :
    Inv X pins σ (upd H (s.heap.objs.size + 1) (exo (s.heap.objs.size + 1) C none)) { s with heap := hpX s.heap us C } := by
  have at2 : (hpX s.heap us C).get? (s.heap.objs.size + 1) = some (PySem.HandSPX.excO C s.heap.objs.size) := by
    unfold hpX
    heap_get
  exact I.laid (t' := s.toks) (fun b o z => Heap.get?_push_of_some _ (Heap.get?_push_of_some _ z)) (Nat.le_succ _) (exo_ok at2)
/-- an own exception is made by a call of its class: what is to be shown behind its initializer -/
theorem made_by {pins : List (Addr × Obj)} {σ : L2.St} {H : Hp} {s : Shared} {us : List Value} {vs : List V} {Qv : VK} {P : Value → Shared → Prop} (T : OexC X.K C)
    (iC : PySem.W.findIn X.K (.ref C) "__init__" = some (some (.ref fI))) (tI : PySem.W.typeIn X.K (.ref fI) = some (.type "function"))
    (F : FnOk X.prog X.w X.K X.mg X.base CX k fI fd ps sp) (hr : Room (k + 1) X.A) (hb : Binds X.K fd ps []) (no : ∀ H s e s', ¬ CX X.stack H s (fun _ _ _ => False) e s') (I : Inv X pins σ H s) (r : Vals vs us) (hz : vs.length ≤ 1000)
    (asked : sp (.ref (s.heap.objs.size + 1) :: vs) (upd H (s.heap.objs.size + 1) (exo (s.heap.objs.size + 1) C none)) Qv fun _ _ _ => False)
    (next : ∀ u s', CE X.stack X.prog X.w (upd H (s.heap.objs.size + 1) (exo (s.heap.objs.size + 1) C none)) { s with heap := hpX s.heap us C } Qv u s' → u = .none ∧ P (.ref (s.heap.objs.size + 1)) s') :
    wpAny (model X.prog X.w) X.A (call (.ref C) us) P X.xe s := by
  obtain ⟨nm, qn, N, bs, bm, sn, sub, ab, col, dd, c0, c1, c2, c3, c5, hC, hbm⟩ := T.cls
  have J := hpX_inv I us C
  have rr : Vals (V.ref (s.heap.objs.size + 1) :: vs) (Value.ref (s.heap.objs.size + 1) :: us) := .cons rfl r
  have len : (Value.ref (s.heap.objs.size + 1) :: us).length = ps.length := rr.length.symm.trans (F.len _ _ _ _ asked)
  have few : us.length ≤ sizeLine := by
    have := r.length
    rw [sizeLine_eq]; omega
  have bind := hb { s with heap := hpX s.heap us C } (Value.ref (s.heap.objs.size + 1) :: us) J.kIn (by rw [List.append_nil]; exact len)
  rw [List.append_nil] at bind
  refine wpAny_call (PySem.HandSPX.call_own PySem.F.excBase_ValueError (fun Y => PySem.HandSPX.refsVE_contains Y bm hbm) (I.kIn _ _ hC) (PySem.W.looks_findIn I.kIn iC) (fun x => PySem.W.bind_fn I.kIn x tI) few
    (codeAny_mono (F.run _ X.stack _ _ ⟨Value.ref (s.heap.objs.size + 1) :: us, []⟩ (Value.ref (s.heap.objs.size + 1) :: us) _ _ (fun _ _ _ => False) (hr.make C us []) (J.env0.make C us []) bind rr asked) fun res s2 got => ?_))
  cases res with
  | error er => exact (no _ _ _ _ got).elim
  | ok fl =>
    cases fl with
    | ret u => exact next u s2 got
    | _ => exact got.elim
/-- raise C(..): what the exception's place is, is not told -/
theorem pmk_oexN {x : Str} {e : Expr} {es : List Expr} {p pos : Pos} {ta : TA} (T : OexC X.K C) (iC : PySem.W.findIn X.K (.ref C) "__init__" = some (some (.ref fI))) (tI : PySem.W.typeIn X.K (.ref fI) = some (.type "function"))
    (F : FnOk X.prog X.w X.K X.mg X.base CX k fI fd ps sp) (hr : Room (k + 1) X.A) (hb : Binds X.K fd ps []) (no : ∀ H s e s', ¬ CX X.stack H s (fun _ _ _ => False) e s') (hg : Gl X x) (hm : X.mg x = some (.ref C)) (ha : PA X (e :: es) ta)
    (hdb : (x == ("__debug__" : Str)) = false) (he : starEach (e :: es) X.env = (false, eval e X.env) :: starEach es X.env) (hpl : (backTo pos (starEach es X.env)).any (·.1) = false) :
    L2N.PMk X (.Call (.Name x p) (e :: es) [] pos) (tMkO C sp [] ta) := by
  intro pins s σ H Q I h
  refine wpAny_Call_Name_kw (ld_glob I hg hm (PySem.W.callWith_K (h₀ := X.base) I.ok.mod.kin T.kC (thn (ha.run pos pins s σ H _ I h) fun us s1 ⟨vs, H1, I1, r1, hz, q1⟩ => ⟨I1.kIn, ?_⟩) he hpl) hdb)
  obtain ⟨h1, g1, d1, t1, o1⟩ := s1
  have asked := q1 (h1.objs.size + 1) (I1.hok.fresh (Nat.le_succ _))
  rw [List.append_nil] at asked
  refine made_by (s := ⟨h1, g1, d1, t1, o1⟩) T iC tI F hr hb no I1 r1 hz asked fun u s2 got => ?_
  obtain ⟨v, H2, e1, e2, e3, e4, rv, ev, d, fs, ea, ed, nd, q2⟩ := got
  obtain ⟨h2, g2, d2, t2, o2⟩ := s2
  subst ev
  obtain ⟨t0, G, K1, K2, K3, K4, K5⟩ := mk_end0 (d2 := d2) (t2 := t2) I1 (Nat.le_succ _) (fun b o z => Heap.get?_push_of_some _ (Heap.get?_push_of_some _ z)) e3 e4 e1 e2 ea ed nd
  exact ⟨rv, _, _, _, ⟨G, g2, d2, t2, o2⟩, _, _, _, rfl, K1, K2, K3, K4, ⟨rfl, rfl, fun ws e => by cases e; rfl⟩, rfl, rfl, K5, rfl, e2, raises_own T.exC T.tyC, q2⟩
/-- one clause without a name -/
theorem ps_try_onlyN {x : Str} {c : Value} {body suite : List Stmt} {b0 : Stmt} {np p1 p2 : Pos} {tb : WX → TS} {ts : Addr → Value → Option Addr → TS} {Wout : WX} (hs : X.stack = X.env :: X.outer) (hf : X.env.frame = some X.env.locals) (hc : Names X x c) (tk : L2N.Takes X Wout)
    (hb : ∀ (W' : WX) (pn : List (Addr × Obj)) (xe : Value → Shared → Prop), L2N.Takes (X.tr pn xe) W' → PassesOwn (model X.prog X.w) X.A X.env xe → PSs (X.tr pn xe) body (tb W'))
    (hsu : ∀ (a : Addr) (oe : Obj) (cls : Value) (d : Option Addr) (pn : List (Addr × Obj)), L2N.Zn cls d oe → (∃ vs, oe.data = .fields vs) → PSs (X.suite a ((a, oe) :: pn)) (b0 :: suite) (ts a cls d)) :
    PS X (.Try body [.ExceptHandler (some (.Name x np)) none (b0 :: suite) p1] [] [] p2) (fun D σ H => tb (wMany X.K Wout D [(c, ts)]) D σ H) :=
  L2N.ps_try_many hs hf tk hb (.cons hc hsu .nil)
end
end RA

/-! While an exception is handled: the ends of iterators. -/
namespace RA
open PySem PySem.Spec PyProof.Rows L2 HotX

section
variable {prog : Program} {w : World} {A : Around} {E : Value → Shared → Prop} {s : Shared}
/-- StopIteration is raised while x1 is handled -/
theorem stop_hot {α : Type} {x1 : Addr} {Q : α → Shared → Prop} (hot : HotAt A x1 s.heap)
    (k : ∀ h' e, (∀ b o, s.heap.get? b = some o → h'.get? b = some o) → (∃ o, h'.get? e = some o ∧ o.cls = .type "StopIteration") → E (.ref e) { s with heap := h' }) :
    wpAny (model prog w) A (newExc (.type "StopIteration") [] >>= fun e => (raiseNew e : Sem α)) Q E s := by
  obtain ⟨hh, o1, v1, g1, d1, c1⟩ := hot
  simp only [newExc, newTuple]
  refine wpAny_bind (wpAny_bind (wpAny_newObj_type ?_ (by size_fits)))
  refine wpAny_bind (m := firstArgMember _ _) (wpAny_of_eq (a := Value.none) (by first | rfl | (simp only [firstArgMember]; rfl)) ?_)
  refine wpAny_newObj_type ?_ (by size_fits)
  refine raiseNew_hot ⟨hh, o1, v1, Heap.get?_push_of_some _ (Heap.get?_push_of_some _ g1), d1, c1⟩ (Nat.ne_of_lt (Heap.lt_size (Heap.get?_push_of_some _ g1))) (Heap.get?_push_size _ rfl) rfl (by first | (simp; done) | (simp; omega) | (simp only [Array.size_append]; simp; omega)) ?_
  refine k _ _ (fun b o z => ?_) ⟨_, Heap.get?_update_self _ (Heap.get?_push_size _ rfl) rfl, rfl⟩
  exact (Heap.get?_update_other _ _ (Nat.ne_of_gt (Heap.lt_size (Heap.get?_push_of_some _ z)))).trans (Heap.get?_push_of_some _ (Heap.get?_push_of_some _ z))

theorem hot_set {x1 it : Addr} {h h' : Heap} (hot : HotAt A x1 h) (hn : x1 ≠ it) (sb : Heap.SameBut it h h') : HotAt A x1 h' := by
  obtain ⟨hh, o, v, g, r⟩ := hot
  exact ⟨hh, o, v, (sb.2 x1 hn).trans g, r⟩
theorem ext_stop {it : Addr} {h h1 h2 : Heap} (sb : Heap.SameBut it h h1) (k : ∀ b o, h1.get? b = some o → h2.get? b = some o) : Heap.ExtBut it h h2 := fun b o hb z => k b o ((sb.2 b hb).trans z)

theorem li_stop {it l x1 : Addr} {i : Nat} {items : Array Value} {Q : Fin → Shared → Prop} (hot : HotAt A x1 s.heap) (hn : x1 ≠ it) (hit : s.heap.IsListIter it l i) (hl : s.heap.IsList l items) (hx : items[i]? = none)
    (k : ∀ h' e, Heap.ExtBut it s.heap h' → (∃ o, h'.get? e = some o ∧ o.cls = .type "StopIteration") → E (.ref e) { s with heap := h' }) : wpAny (model prog w) A (Builtin.«list_iterator.__next__» ⟨[.ref it], []⟩) Q E s := by
  obtain ⟨oi, g1, g2, g3⟩ := hit
  obtain ⟨ol, g4, _, nl, g5⟩ := hl
  show wpAny _ _ (field (.ref it) 0 >>= _) _ _ s
  refine wpAny_bind (wpAny_field g1 g3 (x := .ref l) rfl ?_)
  show wpAny _ _ (if (Value.ref l == Value.none) = true then _ else _) _ _ s
  rw [if_neg (by simp : ¬ ((Value.ref l == Value.none) = true))]
  show wpAny _ _ (field (.ref it) 1 >>= _) _ _ s
  refine wpAny_bind (wpAny_field g1 g3 (x := .int i 0) rfl ?_)
  show wpAny _ _ (seqItems? (.ref l) >>= _) _ _ s
  refine wpAny_bind (wpAny_seqItems g4 g5 ?_)
  simp only [Int.toNat_natCast, hx]
  refine wpAny_bind (wpAny_rule (wpAny_bind (wpAny_setField g1 g3 (by simp) ?_)))
  exact stop_hot (hot_set hot hn (Heap.SameBut.update ..)) fun h' e kp q => k h' e (ext_stop (Heap.SameBut.update ..) kp) q

theorem li_nx {it l x1 : Addr} {i : Nat} {items : Array Value} {Q : Value → Shared → Prop} (hot : HotAt A x1 s.heap) (hn : x1 ≠ it) (hit : s.heap.IsListIter it l i) (hl : s.heap.IsList l items) (hx : items[i]? = none)
    (k : ∀ h' e, Heap.ExtBut it s.heap h' → (∃ o, h'.get? e = some o ∧ o.cls = .type "StopIteration") → E (.ref e) { s with heap := h' }) : wpAny (model prog w) A (Builtin.SmallTypes.nextOf (.ref it)) Q E s := by
  unfold Builtin.SmallTypes.nextOf
  exact wpAny_bind (wpAny_callSpecial?_slot (name := Str.ofString "__next__") hit.typeIs slot_listiter_next (wpAny_call_entry slot_listiter_next hit.typeIs entry_listiter_next (li_stop (A := A.in1) hot hn hit hl hx k) (args_listiter_next _)))
theorem li_pn {it l x1 : Addr} {i : Nat} {items : Array Value} {Q : Option Value → Shared → Prop} (hot : HotAt A x1 s.heap) (hn : x1 ≠ it) (hit : s.heap.IsListIter it l i) (hl : s.heap.IsList l items) (hx : items[i]? = none)
    (k : ∀ h', Heap.ExtBut it s.heap h' → Q none { s with heap := h' }) : wpAny (model prog w) A (pyNext (.ref it)) Q E s := by
  unfold pyNext
  refine wpAny_bind (wpAny_attempt (wpAny_callSpecial?_slot (name := Str.ofString "__next__") hit.typeIs slot_listiter_next (wpAny_call_entry slot_listiter_next hit.typeIs entry_listiter_next (li_stop (A := A.in1) hot hn hit hl hx fun h' e x q => ?_) (args_listiter_next _))))
  exact wpAny_bind (wpAny_isInstance (T := "StopIteration") (b := true) q isSubtype_stop (wpAny_pure (k h' x)))

theorem tu_stop {it l x1 : Addr} {i : Nat} {items : Array Value} {Q : Fin → Shared → Prop} (hot : HotAt A x1 s.heap) (hn : x1 ≠ it) (hit : s.heap.IsTupleIter it l i) (hl : s.heap.IsTuple l items) (hx : items[i]? = none)
    (k : ∀ h' e, Heap.ExtBut it s.heap h' → (∃ o, h'.get? e = some o ∧ o.cls = .type "StopIteration") → E (.ref e) { s with heap := h' }) : wpAny (model prog w) A (Builtin.«tuple_iterator.__next__» ⟨[.ref it], []⟩) Q E s := by
  obtain ⟨oi, g1, g2, g3⟩ := hit
  obtain ⟨ol, g4, _, nl, g5⟩ := hl
  show wpAny _ _ (field (.ref it) 0 >>= _) _ _ s
  refine wpAny_bind (wpAny_field g1 g3 (x := .ref l) rfl ?_)
  show wpAny _ _ (if (Value.ref l == Value.none) = true then _ else _) _ _ s
  rw [if_neg (by simp : ¬ ((Value.ref l == Value.none) = true))]
  show wpAny _ _ (field (.ref it) 1 >>= _) _ _ s
  refine wpAny_bind (wpAny_field g1 g3 (x := .int i 0) rfl ?_)
  show wpAny _ _ (seqItems? (.ref l) >>= _) _ _ s
  refine wpAny_bind (wpAny_seqItems g4 g5 ?_)
  simp only [Int.toNat_natCast, hx]
  refine wpAny_bind (wpAny_rule (wpAny_bind (wpAny_setField g1 g3 (by simp) ?_)))
  exact stop_hot (hot_set hot hn (Heap.SameBut.update ..)) fun h' e kp q => k h' e (ext_stop (Heap.SameBut.update ..) kp) q

theorem tu_nx {it l x1 : Addr} {i : Nat} {items : Array Value} {Q : Value → Shared → Prop} (hot : HotAt A x1 s.heap) (hn : x1 ≠ it) (hit : s.heap.IsTupleIter it l i) (hl : s.heap.IsTuple l items) (hx : items[i]? = none)
    (k : ∀ h' e, Heap.ExtBut it s.heap h' → (∃ o, h'.get? e = some o ∧ o.cls = .type "StopIteration") → E (.ref e) { s with heap := h' }) : wpAny (model prog w) A (Builtin.SmallTypes.nextOf (.ref it)) Q E s := by
  unfold Builtin.SmallTypes.nextOf
  exact wpAny_bind (wpAny_callSpecial?_slot (name := Str.ofString "__next__") hit.typeIs F.slot_tuple_iterator_next (wpAny_call_entry F.slot_tuple_iterator_next hit.typeIs F.entry_tuple_iterator_next (tu_stop (A := A.in1) hot hn hit hl hx k) (F.args_tuple_iterator_next_1 _)))
theorem tu_pn {it l x1 : Addr} {i : Nat} {items : Array Value} {Q : Option Value → Shared → Prop} (hot : HotAt A x1 s.heap) (hn : x1 ≠ it) (hit : s.heap.IsTupleIter it l i) (hl : s.heap.IsTuple l items) (hx : items[i]? = none)
    (k : ∀ h', Heap.ExtBut it s.heap h' → Q none { s with heap := h' }) : wpAny (model prog w) A (pyNext (.ref it)) Q E s := by
  unfold pyNext
  refine wpAny_bind (wpAny_attempt (wpAny_callSpecial?_slot (name := Str.ofString "__next__") hit.typeIs F.slot_tuple_iterator_next (wpAny_call_entry F.slot_tuple_iterator_next hit.typeIs F.entry_tuple_iterator_next (tu_stop (A := A.in1) hot hn hit hl hx fun h' e x q => ?_) (F.args_tuple_iterator_next_1 _))))
  exact wpAny_bind (wpAny_isInstance (T := "StopIteration") (b := true) q isSubtype_stop (wpAny_pure (k h' x)))

theorem as_stop {it x1 : Addr} {x : Str} {t : Tok} {i : Nat} {Q : Fin → Shared → Prop} (hot : HotAt A x1 s.heap) (hn : x1 ≠ it) (hit : s.heap.IsStrIter it "str_ascii_iterator" x t i) (hx : x.cps[i]? = none)
    (k : ∀ h' e, Heap.ExtBut it s.heap h' → (∃ o, h'.get? e = some o ∧ o.cls = .type "StopIteration") → E (.ref e) { s with heap := h' }) : wpAny (model prog w) A (Builtin.«str_ascii_iterator.__next__» ⟨[.ref it], []⟩) Q E s := by
  obtain ⟨oi, g1, g2, g3⟩ := hit
  show wpAny _ _ (field (.ref it) 0 >>= _) _ _ s
  refine wpAny_bind (wpAny_field g1 g3 (x := .str x t) rfl ?_)
  show wpAny _ _ (field (.ref it) 1 >>= _) _ _ s
  refine wpAny_bind (wpAny_field g1 g3 (x := .int i 0) rfl ?_)
  simp only [Int.toNat_natCast, hx]
  refine wpAny_bind (wpAny_rule (wpAny_bind (wpAny_setField g1 g3 (by simp) (wpAny_bind (wpAny_letGo ?_)))))
  exact stop_hot (hot_set hot hn (Heap.SameBut.update ..)) fun h' e kp q => k h' e (ext_stop (Heap.SameBut.update ..) kp) q

theorem as_nx {it x1 : Addr} {x : Str} {t : Tok} {i : Nat} {Q : Value → Shared → Prop} (hot : HotAt A x1 s.heap) (hn : x1 ≠ it) (hit : s.heap.IsStrIter it "str_ascii_iterator" x t i) (hx : x.cps[i]? = none)
    (k : ∀ h' e, Heap.ExtBut it s.heap h' → (∃ o, h'.get? e = some o ∧ o.cls = .type "StopIteration") → E (.ref e) { s with heap := h' }) : wpAny (model prog w) A (Builtin.SmallTypes.nextOf (.ref it)) Q E s := by
  unfold Builtin.SmallTypes.nextOf
  exact wpAny_bind (wpAny_callSpecial?_slot (name := Str.ofString "__next__") hit.typeIs F.slot_str_ascii_iterator_next (wpAny_call_entry F.slot_str_ascii_iterator_next hit.typeIs F.entry_str_ascii_iterator_next (as_stop (A := A.in1) hot hn hit hx k) (F.args_str_ascii_iterator_next_1 _)))
theorem as_pn {it x1 : Addr} {x : Str} {t : Tok} {i : Nat} {Q : Option Value → Shared → Prop} (hot : HotAt A x1 s.heap) (hn : x1 ≠ it) (hit : s.heap.IsStrIter it "str_ascii_iterator" x t i) (hx : x.cps[i]? = none)
    (k : ∀ h', Heap.ExtBut it s.heap h' → Q none { s with heap := h' }) : wpAny (model prog w) A (pyNext (.ref it)) Q E s := by
  unfold pyNext
  refine wpAny_bind (wpAny_attempt (wpAny_callSpecial?_slot (name := Str.ofString "__next__") hit.typeIs F.slot_str_ascii_iterator_next (wpAny_call_entry F.slot_str_ascii_iterator_next hit.typeIs F.entry_str_ascii_iterator_next (as_stop (A := A.in1) hot hn hit hx fun h' e x q => ?_) (F.args_str_ascii_iterator_next_1 _))))
  exact wpAny_bind (wpAny_isInstance (T := "StopIteration") (b := true) q isSubtype_stop (wpAny_pure (k h' x)))

theorem wi_stop {it x1 : Addr} {x : Str} {t : Tok} {i : Nat} {Q : Fin → Shared → Prop} (hot : HotAt A x1 s.heap) (hn : x1 ≠ it) (hit : s.heap.IsStrIter it "str_iterator" x t i) (hx : x.cps[i]? = none)
    (k : ∀ h' e, Heap.ExtBut it s.heap h' → (∃ o, h'.get? e = some o ∧ o.cls = .type "StopIteration") → E (.ref e) { s with heap := h' }) : wpAny (model prog w) A (Builtin.«str_iterator.__next__» ⟨[.ref it], []⟩) Q E s := by
  obtain ⟨oi, g1, g2, g3⟩ := hit
  show wpAny _ _ (field (.ref it) 0 >>= _) _ _ s
  refine wpAny_bind (wpAny_field g1 g3 (x := .str x t) rfl ?_)
  show wpAny _ _ (field (.ref it) 1 >>= _) _ _ s
  refine wpAny_bind (wpAny_field g1 g3 (x := .int i 0) rfl ?_)
  simp only [Int.toNat_natCast, hx]
  refine wpAny_bind (wpAny_rule (wpAny_bind (wpAny_setField g1 g3 (by simp) (wpAny_bind (wpAny_letGo ?_)))))
  exact stop_hot (hot_set hot hn (Heap.SameBut.update ..)) fun h' e kp q => k h' e (ext_stop (Heap.SameBut.update ..) kp) q

theorem wi_nx {it x1 : Addr} {x : Str} {t : Tok} {i : Nat} {Q : Value → Shared → Prop} (hot : HotAt A x1 s.heap) (hn : x1 ≠ it) (hit : s.heap.IsStrIter it "str_iterator" x t i) (hx : x.cps[i]? = none)
    (k : ∀ h' e, Heap.ExtBut it s.heap h' → (∃ o, h'.get? e = some o ∧ o.cls = .type "StopIteration") → E (.ref e) { s with heap := h' }) : wpAny (model prog w) A (Builtin.SmallTypes.nextOf (.ref it)) Q E s := by
  unfold Builtin.SmallTypes.nextOf
  exact wpAny_bind (wpAny_callSpecial?_slot (name := Str.ofString "__next__") hit.typeIs F.slot_str_iterator_next (wpAny_call_entry F.slot_str_iterator_next hit.typeIs F.entry_str_iterator_next (wi_stop (A := A.in1) hot hn hit hx k) (F.args_str_iterator_next_1 _)))
theorem wi_pn {it x1 : Addr} {x : Str} {t : Tok} {i : Nat} {Q : Option Value → Shared → Prop} (hot : HotAt A x1 s.heap) (hn : x1 ≠ it) (hit : s.heap.IsStrIter it "str_iterator" x t i) (hx : x.cps[i]? = none)
    (k : ∀ h', Heap.ExtBut it s.heap h' → Q none { s with heap := h' }) : wpAny (model prog w) A (pyNext (.ref it)) Q E s := by
  unfold pyNext
  refine wpAny_bind (wpAny_attempt (wpAny_callSpecial?_slot (name := Str.ofString "__next__") hit.typeIs F.slot_str_iterator_next (wpAny_call_entry F.slot_str_iterator_next hit.typeIs F.entry_str_iterator_next (wi_stop (A := A.in1) hot hn hit hx fun h' e x q => ?_) (F.args_str_iterator_next_1 _))))
  exact wpAny_bind (wpAny_isInstance (T := "StopIteration") (b := true) q isSubtype_stop (wpAny_pure (k h' x)))
end
end RA

/-! While an exception is handled: what a loop walks. -/
namespace RA
open PySem PySem.Spec PyProof.Rows L2 HotX L2H

/-- the handled exception's object stands, its context is None -/
def HF (x1 : Addr) (h : Heap) : Prop := ∃ (o : Obj) (vs : Array Value), h.get? x1 = some o ∧ o.data = .fields vs ∧ vs[2]? = some .none
theorem HF.up {x1 : Addr} {h h' : Heap} (x : HF x1 h) (k : ∀ o, h.get? x1 = some o → h'.get? x1 = some o) : HF x1 h' := by
  obtain ⟨o, v, g, r⟩ := x
  exact ⟨o, v, k o g, r⟩
theorem hdraws_li {prog : Program} {w : World} {A : Around} {x1 : Addr} (hh : A.handled = some (.ref x1)) (it l : Addr) (hn : x1 ≠ it) (hne : l ≠ it) (items : Array Value) :
    Draws prog w A it [it, l, x1] items.size (fun i v => items[i]? = some v) (fun i h => (h.IsListIter it l i ∧ h.IsList l items) ∧ HF x1 h) where
  live := fun _ _ st => by obtain ⟨⟨⟨o, ho, _⟩, _⟩, _⟩ := st; exact ⟨o, ho⟩
  frame := fun _ _ _ st hk => ⟨⟨st.1.1.at fun o e => hk it (by simp) o e, st.1.2.at fun o e => hk l (by simp) o e⟩, st.2.up fun o e => hk x1 (by simp) o e⟩
  item := fun i s Q E hi st hQ => by
    refine wpAny_nextOf_list_item st.1.1 st.1.2 (x := items[i]) (by simp [hi]) fun h' hit' sb => ?_
    exact hQ _ h' s.toks (by simp [hi]) ⟨⟨hit', st.1.2.extBut sb.extBut hne⟩, st.2.up fun o e => (sb.2 x1 hn).trans e⟩ sb
  done := fun s Q E st hE => li_nx ⟨hh, st.2⟩ hn st.1.1 st.1.2 (by simp) hE
theorem hdraws_tu {prog : Program} {w : World} {A : Around} {x1 : Addr} (hh : A.handled = some (.ref x1)) (it l : Addr) (hn : x1 ≠ it) (hne : l ≠ it) (items : Array Value) :
    Draws prog w A it [it, l, x1] items.size (fun i v => items[i]? = some v) (fun i h => (h.IsTupleIter it l i ∧ h.IsTuple l items) ∧ HF x1 h) where
  live := fun _ _ st => by obtain ⟨⟨⟨o, ho, _⟩, _⟩, _⟩ := st; exact ⟨o, ho⟩
  frame := fun _ _ _ st hk => ⟨⟨st.1.1.at fun o e => hk it (by simp) o e, st.1.2.at fun o e => hk l (by simp) o e⟩, st.2.up fun o e => hk x1 (by simp) o e⟩
  item := fun i s Q E hi st hQ => by
    refine wpAny_nextOf_tuple_item st.1.1 st.1.2 (x := items[i]) (by simp [hi]) fun h' hit' sb => ?_
    exact hQ _ h' s.toks (by simp [hi]) ⟨⟨hit', st.1.2.extBut sb.extBut hne⟩, st.2.up fun o e => (sb.2 x1 hn).trans e⟩ sb
  done := fun s Q E st hE => tu_nx ⟨hh, st.2⟩ hn st.1.1 st.1.2 (by simp) hE
theorem hdraws_tx {prog : Program} {w : World} {A : Around} {x1 : Addr} (hh : A.handled = some (.ref x1)) (it : Addr) (hn : x1 ≠ it) (x : Str) (t : Tok) :
    Draws prog w A it [it, x1] x.cps.size (fun i v => ∃ c u, x.cps[i]? = some c ∧ v = .str ⟨#[c]⟩ u) (fun i h => h.IsStrIter it (strIterType x) x t i ∧ HF x1 h) where
  live := fun _ _ st => by obtain ⟨⟨o, ho, _⟩, _⟩ := st; exact ⟨o, ho⟩
  frame := fun _ _ _ st hk => ⟨let ⟨o, ho, r⟩ := st.1; ⟨o, hk it (by simp) o ho, r⟩, st.2.up fun o e => hk x1 (by simp) o e⟩
  item := fun i s Q E hi st hQ => by
    obtain ⟨st, hf⟩ := st
    cases ha : x.cps.all (· < 128)
    · simp only [strIterType, ha, Bool.false_eq_true, if_false] at st hQ
      exact wpAny_nextOf_wide_item st (c := x.cps[i]) (by simp [hi]) fun h' hit' sb => hQ _ h' (s.toks + 1) ⟨_, _, by simp [hi], rfl⟩ ⟨hit', hf.up fun o e => (sb.2 x1 hn).trans e⟩ sb
    · simp only [strIterType, ha, if_true] at st hQ
      exact wpAny_nextOf_ascii_item st (c := x.cps[i]) (by simp [hi]) fun h' hit' sb => hQ _ h' (s.toks + 1) ⟨_, _, by simp [hi], rfl⟩ ⟨hit', hf.up fun o e => (sb.2 x1 hn).trans e⟩ sb
  done := fun s Q E st hE => by
    obtain ⟨st, hf⟩ := st
    cases ha : x.cps.all (· < 128)
    · simp only [strIterType, ha, Bool.false_eq_true, if_false] at st
      exact wi_nx ⟨hh, hf⟩ hn st (by simp) hE
    · simp only [strIterType, ha, if_true] at st
      exact as_nx ⟨hh, hf⟩ hn st (by simp) hE
theorem Src.drawsH {X : Cx} {pins : List (Addr × Obj)} {σ : L2.St} {H : Hp} {s : Shared} {A : Around} {it x1 : Addr} {i : Nat} {xs : List V} (I : Inv X pins σ H s) (hh : A.handled = some (.ref x1)) (hf : HF x1 s.heap) (hx : x1 ≠ it) : ∀ {r : Src}, (∀ a ∈ r.adr, a ≠ it) → r.has X.K H xs → r.at it i s.heap →
    ∃ (P : Nat → Value → Prop) (S : Nat → Heap → Prop), Draws X.prog X.w A it (it :: (r.adr ++ [x1])) xs.length P S ∧ S i s.heap ∧ (∀ j u, P j u → ∃ x, xs[j]? = some x ∧ RelV x u) ∧ ∀ j h, S j h → r.at it j h
  | .li a, hn, hq, st => by
    obtain ⟨its, rv, p, hz⟩ := I.list hq
    have e : xs.length = its.toArray.size := by rw [rv.length]; simp
    have D := hdraws_li (prog := X.prog) (w := X.w) hh it a hx (hn a (by simp [Src.adr])) its.toArray
    rw [← e] at D
    refine ⟨_, _, D, ⟨⟨st, p.isList⟩, hf⟩, fun j u hu => ?_, fun j h z => z.1.1⟩
    have hu' : its[j]? = some u := by simpa using hu
    exact vals_get rv hu'
  | .tu a, hn, hq, st => by
    obtain ⟨its, rv, p, hz⟩ := I.tuple hq
    have e : xs.length = its.toArray.size := by rw [rv.length]; simp
    have D := hdraws_tu (prog := X.prog) (w := X.w) hh it a hx (hn a (by simp [Src.adr])) its.toArray
    rw [← e] at D
    refine ⟨_, _, D, ⟨⟨st, p⟩, hf⟩, fun j u hu => ?_, fun j h z => z.1.1⟩
    have hu' : its[j]? = some u := by simpa using hu
    exact vals_get rv hu'
  | .tx x t, hn, hq, st => by
    have hq : xs = x.cps.toList.map fun c => V.str ⟨#[c]⟩ := hq
    have e : xs.length = x.cps.size := by rw [hq]; simp
    have D := hdraws_tx (prog := X.prog) (w := X.w) hh it hx x t
    rw [← e] at D
    refine ⟨_, _, D, ⟨st, hf⟩, fun j u hu => ?_, fun j h z => z.1⟩
    obtain ⟨c, k, hc, rfl⟩ := hu
    refine ⟨.str ⟨#[c]⟩, by rw [hq]; simp [hc], k, rfl⟩
/-- the handled one, apart from an iterator's own objects -/
theorem hot_apart {X : Cx} {pins : List (Addr × Obj)} {σ : L2.St} {H : Hp} {s : Shared} {fp : List Addr} (hc : HotC X) (I : Inv X pins σ H s) (hf : ∀ b ∈ fp, FpOk X pins H b) : ∃ x1, X.A.handled = some (.ref x1) ∧ HF x1 s.heap ∧ ∀ b ∈ fp, x1 ≠ b := by
  obtain ⟨p, ⟨hh, v1, e1, c1⟩, hp⟩ := hc
  have hp' : p ∈ X.pn ++ pins := List.mem_append_left _ hp
  exact ⟨p.1, hh, ⟨p.2, v1, (I.pin p hp').1, e1, c1⟩, fun b hb => (hf b hb).2.2.2.2.2 p hp'⟩

/-- one source is walked -/
theorem turn_srcH {P : Program} {w : World} {K : PySem.W.Frag} {tg : Expr} (it : Addr) : ∀ r : Src, TurnH P w K tg (ItO K r) [it] it (fun i h => r.at it i h) := fun r => {
  mem := by simp
  obj := fun i h st b hb => by
    obtain rfl : b = it := by simpa using hb
    exact Src.at_obj st
  keep := fun i h h' st k => Src.at_keep (fun o z => k it (by simp) o z) st
  item := by
    intro X hP hw hK hc i pins s σ H E I hf st hg
    subst hP hw hK
    obtain ⟨xs, x, hq, hx⟩ := hg
    obtain ⟨f0, f1, f2, f3, f4, f5⟩ := hf it (by simp)
    cases r with
    | li a =>
      obtain ⟨its, rv, p, hz⟩ := I.list hq
      obtain ⟨u, hu, ru⟩ := rv.get hx
      refine wpAny_pyNext_list_item st p.isList (x := u) (by simpa using hu) fun g st' sb => ⟨u, rfl, ?_⟩
      obtain ⟨oi, k1, k2, k3⟩ := id st'
      exact go_of (s := { s with heap := g }) k1 k2 k3 (by decide) ⟨x, H, I.turned (t' := s.toks) (fun b o hb z => (sb.2 b hb).trans z) f0 f1 f3 f4 f5, ru, ⟨rfl, fun ys hy => by rw [I.list_inj hy hq]; exact hx⟩, st', fun b hb => (hf b hb).1⟩
    | tu a =>
      obtain ⟨its, rv, p, hz⟩ := I.tuple hq
      obtain ⟨u, hu, ru⟩ := rv.get hx
      refine wpAny_pyNext_tuple_item st p (x := u) (by simpa using hu) fun g st' sb => ⟨u, rfl, ?_⟩
      obtain ⟨oi, k1, k2, k3⟩ := id st'
      exact go_of (s := { s with heap := g }) k1 k2 k3 (by decide) ⟨x, H, I.turned (t' := s.toks) (fun b o hb z => (sb.2 b hb).trans z) f0 f1 f3 f4 f5, ru, ⟨rfl, fun ys hy => by rw [I.tuple_inj hy hq]; exact hx⟩, st', fun b hb => (hf b hb).1⟩
    | tx y t =>
      have hq : xs = y.cps.toList.map fun c => V.str ⟨#[c]⟩ := hq
      have hlt : i < y.cps.size := by
        have := (List.getElem?_eq_some_iff.mp hx).1
        rw [hq] at this
        simpa using this
      have hxe : x = .str ⟨#[y.cps[i]]⟩ := by
        rw [hq] at hx
        simpa [hlt, eq_comm] using hx
      have ot : ∀ ys : List V, (Src.tx y t).has X.K H ys → ys[i]? = some x := fun ys hy => by
        have hy : ys = y.cps.toList.map fun c => V.str ⟨#[c]⟩ := hy
        rw [hy, ← hq]
        exact hx
      have st : s.heap.IsStrIter it (strIterType y) y t i := st
      show wpAny _ _ _ (fun r s1 => ∃ u, r = some u ∧ wpAny _ _ _ (fun _ s2 => ∃ x H', Inv X pins σ H' s2 ∧ RelV x u ∧ (H' = H ∧ _) ∧ s2.heap.IsStrIter it (strIterType y) y t (i + 1) ∧ _) E s1) E s
      cases ha : y.cps.all (· < 128)
      · have et : strIterType y = "str_iterator" := by simp only [strIterType, ha, Bool.false_eq_true, if_false]
        rw [et] at st ⊢
        refine wpAny_pyNext_wide_item st (c := y.cps[i]) (by simp [hlt]) fun g st' sb => ⟨_, rfl, ?_⟩
        obtain ⟨oi, k1, k2, k3⟩ := id st'
        exact go_of (s := { s with heap := g, toks := s.toks + 1 }) k1 k2 k3 (by decide) ⟨x, H, I.turned (t' := s.toks + 1) (fun b o hb z => (sb.2 b hb).trans z) f0 f1 f3 f4 f5, by rw [hxe]; exact ⟨_, rfl⟩, ⟨rfl, ot⟩, st', fun b hb => (hf b hb).1⟩
      · have et : strIterType y = "str_ascii_iterator" := by simp only [strIterType, ha, if_true]
        rw [et] at st ⊢
        refine wpAny_pyNext_ascii_item st (c := y.cps[i]) (by simp [hlt]) fun g st' sb => ⟨_, rfl, ?_⟩
        obtain ⟨oi, k1, k2, k3⟩ := id st'
        exact go_of (s := { s with heap := g, toks := s.toks + 1 }) k1 k2 k3 (by decide) ⟨x, H, I.turned (t' := s.toks + 1) (fun b o hb z => (sb.2 b hb).trans z) f0 f1 f3 f4 f5, by rw [hxe]; exact ⟨_, rfl⟩, ⟨rfl, ot⟩, st', fun b hb => (hf b hb).1⟩
  done := by
    intro X hP hw hK hc i pins s σ H E I hf st hg
    subst hP hw hK
    obtain ⟨x1, hh, hF, ap⟩ := hot_apart hc I hf
    have hn := ap it (by simp)
    obtain ⟨xs, hq, hx⟩ := hg
    obtain ⟨f0, f1, f2, f3, f4, f5⟩ := hf it (by simp)
    cases r with
    | li a =>
      obtain ⟨its, rv, p, hz⟩ := I.list hq
      have hl := rv.length
      exact li_pn ⟨hh, hF⟩ hn st p.isList (by simp; omega) fun g eb => ⟨rfl, I.turned (t' := s.toks) (fun b o hb z => eb b o hb z) f0 f1 f3 f4 f5⟩
    | tu a =>
      obtain ⟨its, rv, p, hz⟩ := I.tuple hq
      have hl := rv.length
      exact tu_pn ⟨hh, hF⟩ hn st (show s.heap.IsTuple a its.toArray from p) (by simp; omega) fun g eb => ⟨rfl, I.turned (t' := s.toks) (fun b o hb z => eb b o hb z) f0 f1 f3 f4 f5⟩
    | tx y t =>
      have hq : xs = y.cps.toList.map fun c => V.str ⟨#[c]⟩ := hq
      have hl : y.cps[i]? = none := by
        rw [hq] at hx
        exact Array.getElem?_eq_none (by rw [hx]; simp)
      have st : s.heap.IsStrIter it (strIterType y) y t i := st
      cases ha : y.cps.all (· < 128)
      · have et : strIterType y = "str_iterator" := by simp only [strIterType, ha, Bool.false_eq_true, if_false]
        rw [et] at st
        exact wi_pn ⟨hh, hF⟩ hn st hl fun g eb => ⟨rfl, I.turned (t' := s.toks) (fun b o hb z => eb b o hb z) f0 f1 f3 f4 f5⟩
      · have et : strIterType y = "str_ascii_iterator" := by simp only [strIterType, ha, if_true]
        rw [et] at st
        exact as_pn ⟨hh, hF⟩ hn st hl fun g eb => ⟨rfl, I.turned (t' := s.toks) (fun b o hb z => eb b o hb z) f0 f1 f3 f4 f5⟩
  self := fun A i s Q E st h => by
    cases r with
    | li a => exact wpAny_pyIter_listiter st h
    | tu a => exact wpAny_pyIter_tupleiter st h
    | tx y t =>
      have st : s.heap.IsStrIter it (strIterType y) y t i := st
      cases ha : y.cps.all (· < 128)
      · simp only [strIterType, ha, Bool.false_eq_true, if_false] at st
        exact wpAny_pyIter_striter_wide st h
      · simp only [strIterType, ha, if_true] at st
        exact wpAny_pyIter_striter_ascii st h }
end RA

/-! While an exception is handled: zip, comprehensions, tuples as targets, all, sum. -/
namespace RA
open PySem PySem.Spec PyProof.Rows L2 HotX L2H

theorem zip_sepH {z TI TO i1 i2 x1 : Addr} {f1 f2 : List Addr} (D : ZipSep2 z TI TO i1 i2 (i1 :: f1) (i2 :: f2)) (h1 : x1 ≠ z) (h2 : x1 ≠ TO) (h3 : x1 ≠ i1) (h4 : x1 ≠ i2) : ZipSep2 z TI TO i1 i2 (i1 :: (f1 ++ [x1])) (i2 :: (f2 ++ [x1])) := by
  have add : ∀ {a b : Addr} {f : List Addr}, a ∉ b :: f → x1 ≠ a → a ∉ b :: (f ++ [x1]) := fun {a b f} h n q => by
    rw [← List.cons_append] at q
    rcases List.mem_append.mp q with q | q
    · exact h q
    · exact n (List.mem_singleton.mp q).symm
  exact ⟨D.TIz, D.TOz, D.TITO, D.TIi1, List.mem_cons_self, add D.zf1 h1, add D.Tf1 h2, D.TIi2, List.mem_cons_self, add D.zf2 h1, add D.Tf2 h2, add D.sep1_2 h3, add D.sep2_1 h4⟩
theorem turn_zipH {P : Program} {w : World} {K : PySem.W.Frag} {elts : List Expr} {kk : Nat} {tpos : Pos} {r1 r2 : Src} {z TI TO i1 i2 : Addr} (D : ZipSep2 z TI TO i1 i2 (i1 :: r1.adr) (i2 :: r2.adr)) (hn1 : ∀ a ∈ r1.adr, a ≠ i1) (hn2 : ∀ a ∈ r2.adr, a ≠ i2) :
    TurnH P w K (.Tuple elts kk tpos) (ItZ K r1 r2) [z, TI, TO, i1, i2] z (fun i h => IsZip h z TI TO .none ∧ IsTupOf2 h TI (.ref i1) (.ref i2) ∧ (∃ x y, IsTupOf2 h TO x y) ∧ r1.at i1 i h ∧ r2.at i2 i h) where
  mem := by simp
  obj := fun i h st c hc => by
    obtain ⟨hz, hTI, ⟨x, y, hTO⟩, h1, h2⟩ := st
    have e' : c = z ∨ c = TI ∨ c = TO ∨ c = i1 ∨ c = i2 := by simpa using hc
    rcases e' with q | q | q | q | q
    · rw [q]; exact ⟨_, hz, fun v q => nomatch q⟩
    · rw [q]; exact ⟨_, hTI, fun v q => nomatch q⟩
    · rw [q]; exact ⟨_, hTO, fun v q => nomatch q⟩
    · rw [q]; exact (Src.at_obj h1)
    · rw [q]; exact (Src.at_obj h2)
  keep := fun i h h' st k => by
    obtain ⟨hz, hTI, ⟨x, y, hTO⟩, h1, h2⟩ := st
    exact ⟨k z (by simp) _ hz, k TI (by simp) _ hTI, ⟨x, y, k TO (by simp) _ hTO⟩, Src.at_keep (fun o q => k i1 (by simp) o q) h1, Src.at_keep (fun o q => k i2 (by simp) o q) h2⟩
  item := by
    intro X hP hw hK hc i pins s σ H E I hf st hg
    subst hP hw hK
    obtain ⟨hz, hTI, ⟨x0, y0, hTO⟩, h1, h2⟩ := st
    obtain ⟨xs, ys, x, y, hqx, hqy, hx, hy⟩ := hg
    obtain ⟨x1, hh, hF, ap⟩ := hot_apart hc I hf
    have D := zip_sepH D (ap z (by simp)) (ap TO (by simp)) (ap i1 (by simp)) (ap i2 (by simp))
    obtain ⟨P1, S1, D1, st1, p1, n1⟩ := Src.drawsH (A := X.A.in1) I hh hF (ap i1 (by simp)) hn1 hqx h1
    obtain ⟨P2, S2, D2, st2, p2, n2⟩ := Src.drawsH (A := X.A.in1) I hh hF (ap i2 (by simp)) hn2 hqy h2
    have hzl : z < s.heap.objs.size := Heap.lt_size hz
    refine wpAny_pyNext_zipD2_item D D1 D2 hz hTI hTO st1 st2 (List.getElem?_eq_some_iff.mp hx).1 (List.getElem?_eq_some_iff.mp hy).1 fun u u2 h' tk hu hu2 z' TO' h1' h2' hT hsz hk => ?_
    obtain ⟨x', hx', ru⟩ := p1 _ _ hu
    obtain ⟨y', hy', ru2⟩ := p2 _ _ hu2
    rw [hx] at hx'; cases hx'
    rw [hy] at hy'; cases hy'
    refine ⟨_, rfl, wpAny_letOwnedTupleGo_zip (s := { s with heap := h', toks := tk }) z' fun h'' z'' sb => ?_⟩
    have hT2 : h''.get? s.heap.objs.size = some { cls := .type "tuple", data := .seq #[u, u2] } := (sb.2 _ (Nat.ne_of_gt hzl)).trans hT
    have new : ObjOk X.prog X.w (upd H s.heap.objs.size (.frz { cls := .type "tuple", data := .seq #[u, u2] } (.tup [x, y]))) h'' s.heap.objs.size (.frz { cls := .type "tuple", data := .seq #[u, u2] } (.tup [x, y])) :=
      ⟨hT2, by show 2 ≤ sizeLine; decide, [u, u2], .cons ru (.cons ru2 .nil), ⟨_, hT2, rfl, _, rfl⟩⟩
    have I1 : Inv X pins σ (upd H s.heap.objs.size (.frz { cls := .type "tuple", data := .seq #[u, u2] } (.tup [x, y]))) { s with heap := h'', toks := tk } :=
      I.turnedNew (t' := tk) (ch := [z, TI, TO, i1, i2]) (fun c o hb q => (sb.2 c (fun q' => hb (by simp [q']))).trans (hk c o (fun q' => hb (by simp [q'])) (fun q' => hb (by simp [q'])) (fun q' => hb (by simp [q'])) (fun q' => hb (by simp [q'])) q)) hf (Nat.le_refl _) new
    refine ⟨.ref s.heap.objs.size, _, I1, rfl, ⟨_, _, x, y, rfl, I.hok.fresh (Nat.le_refl _), ⟨rfl, rfl⟩, rfl, fun l hl => by rw [Src.has_inj I hl hqx]; exact hx, fun l hl => by rw [Src.has_inj I hl hqy]; exact hy⟩, ⟨z'', ?_, ⟨u, u2, ?_⟩, ?_, ?_⟩, fun c hcm => ?_⟩
    · exact (sb.2 _ D.TIz).trans (hk _ _ D.TIz D.TITO D.TIi1 D.TIi2 hTI)
    · exact (sb.2 _ D.TOz).trans TO'
    · exact Src.at_keep (fun o q => (sb.2 _ (fun e => D.zi1 e.symm)).trans q) (n1 _ _ h1')
    · exact Src.at_keep (fun o q => (sb.2 _ (fun e => D.zi2 e.symm)).trans q) (n2 _ _ h2')
    · have hlt : c < s.heap.objs.size := by
        have e' : c = z ∨ c = TI ∨ c = TO ∨ c = i1 ∨ c = i2 := by simpa using hcm
        rcases e' with q | q | q | q | q
        · rw [q]; exact hzl
        · rw [q]; exact Heap.lt_size hTI
        · rw [q]; exact Heap.lt_size hTO
        · rw [q]; obtain ⟨_, e1, _⟩ := (Src.at_obj h1); exact Heap.lt_size e1
        · rw [q]; obtain ⟨_, e2, _⟩ := (Src.at_obj h2); exact Heap.lt_size e2
      rw [upd_ne (Nat.ne_of_lt hlt)]
      exact (hf c hcm).1
  done := by
    intro X hP hw hK hc i pins s σ H E I hf st hg
    subst hP hw hK
    obtain ⟨hz, hTI, ⟨x0, y0, hTO⟩, h1, h2⟩ := st
    obtain ⟨xs, ys, hqx, hqy, l1, l2, hend⟩ := hg
    obtain ⟨x1, hh, hF, ap⟩ := hot_apart hc I hf
    have D := zip_sepH D (ap z (by simp)) (ap TO (by simp)) (ap i1 (by simp)) (ap i2 (by simp))
    obtain ⟨P1, S1, D1, st1, p1, n1⟩ := Src.drawsH (A := X.A.in1) I hh hF (ap i1 (by simp)) hn1 hqx h1
    obtain ⟨P2, S2, D2, st2, p2, n2⟩ := Src.drawsH (A := X.A.in1) I hh hF (ap i2 (by simp)) hn2 hqy h2
    exact wpAny_pyNext_zipD2_end D D1 D2 hz hTI hTO st1 st2 l1 l2 hend fun h' tk hk => ⟨rfl, I.turnedL (t' := tk) (ch := [z, TI, TO, i1, i2]) (fun c o hb q =>
      hk c o (fun q' => hb (by simp [q'])) (fun q' => hb (by simp [q'])) (fun q' => hb (by simp [q'])) (fun q' => hb (by simp [q'])) q) hf⟩
  self := fun A i s Q E st h => wpAny_pyIter_zip st.1 h

section
variable {X : Cx} {tg : Expr}
theorem pi_oneH {pins : List (Addr × Obj)} {σ : L2.St} {H : Hp} {s : Shared} {R : L2.It → Hp → Prop} {J : L2.It} {tn : Nat → Heap → Prop} {tk : Nat} (I : Inv X pins σ H s) (o : Obj)
    (T : TurnH X.prog X.w X.K tg J [s.heap.objs.size] s.heap.objs.size tn) (st : tn 0 (s.heap.push o)) (q : R J H) : PIEH X pins σ tg R (.ref s.heap.objs.size) { s with heap := s.heap.push o, toks := tk } :=
  ⟨s.heap.objs.size, [s.heap.objs.size], tn, J, H, rfl, I.kept fun b ob z => Heap.get?_push_of_some _ z, T, st, fun b hb => by
    obtain rfl : b = s.heap.objs.size := by simpa using hb
    exact I.fpOk (Nat.le_refl _) (I.hok.fresh (Nat.le_refl _)), q⟩
theorem pi_walkH {e : Expr} {te : TE} (he : PE X e te) : PIH X tg e (iWalk X.K te) := by
  refine ⟨fun pins s σ H R I h => thn (he.run pins s σ H _ I h) fun v s1 ⟨x, H1, I1, r1, xs, P, hw, q⟩ => ?_⟩
  cases hw with
  | l hq =>
    cases r1
    obtain ⟨its, rv, p, hz⟩ := I1.list hq
    exact wpAny_pyIter_list p.isList (pi_oneH (tk := s1.toks) I1 _ (turn_srcH _ (.li _)) ⟨_, Heap.get?_push_size _ rfl, rfl, rfl⟩ (q (.li _) rfl))
  | t hq =>
    cases r1
    obtain ⟨its, rv, p, hz⟩ := I1.tuple hq
    exact wpAny_pyIter_tuple (show s1.heap.IsTuple _ its.toArray from p) (pi_oneH (tk := s1.toks) I1 _ (turn_srcH _ (.tu _)) ⟨_, Heap.get?_push_size _ rfl, rfl, rfl⟩ (q (.tu _) rfl))
  | s =>
    rename_i x
    obtain ⟨t, rfl⟩ := r1
    have q' := q (.tx x t) ⟨t, rfl⟩
    cases ha : x.cps.all (· < 128)
    · refine wpAny_pyIter_wide ha (pi_oneH (tk := s1.toks) I1 _ (turn_srcH _ (.tx x t)) ?_ q')
      show Heap.IsStrIter _ _ (strIterType x) x t 0
      simp only [strIterType, ha, Bool.false_eq_true, if_false]
      exact ⟨_, Heap.get?_push_size _ rfl, rfl, rfl⟩
    · refine wpAny_pyIter_ascii ha (pi_oneH (tk := s1.toks) I1 _ (turn_srcH _ (.tx x t)) ?_ q')
      show Heap.IsStrIter _ _ (strIterType x) x t 0
      simp only [strIterType, ha, if_true]
      exact ⟨_, Heap.get?_push_size _ rfl, rfl, rfl⟩
theorem pi_zipH {e e2 : Expr} {ta : TA} {p pos tpos : Pos} {elts : List Expr} {kk : Nat} (hg : Gl X "zip") (hm : X.mg "zip" = none) (ha : PA X [e, e2] ta)
    (hs : starEach [e, e2] X.env = (false, eval e X.env) :: starEach [e2] X.env) (hpl : (backTo pos (starEach [e2] X.env)).any (·.1) = false) :
    PIH X (.Tuple elts kk tpos) (.Call (.Name "zip" p) [e, e2] [] pos) (iZipW X.K ta) := by
  refine ⟨fun pins s σ H R I h => ?_⟩
  refine Call_ (ld_blt I hg hm PyProof.Rows.boot_zip (PyProof.Rows.callWith_type1 (thn (ha.run pos pins s σ H _ I h) fun us s1 ⟨vs, H1, I1, r1, q1⟩ => ?_) hs hpl))
  obtain ⟨v, v2, xs, ys, Q1, Q2, ex, w1, w2, q⟩ := q1
  subst ex
  cases r1 with
  | cons r rr =>
    cases rr with
    | cons r' rr =>
      cases rr
      obtain ⟨r1, rfl, h1, m1⟩ := w1.src r
      obtain ⟨r2, rfl, h2, m2⟩ := w2.src r'
      obtain ⟨P1, B1, p1, lt1⟩ := Src.begins I1 h1
      obtain ⟨P2, B2, p2, lt2⟩ := Src.begins I1 h2
      refine zip_begins2 B1 B2 p1 p2 fun h' hz hTI hTO g1 g2 hsz hk => wpAny_pyIter_zip hz ?_
      have I2 : Inv X pins σ H1 { s1 with heap := h' } := I1.kept (t' := s1.toks) hk
      refine ⟨s1.heap.objs.size + 4, [s1.heap.objs.size + 4, s1.heap.objs.size + 2, s1.heap.objs.size + 3, s1.heap.objs.size, s1.heap.objs.size + 1], _, _, H1, rfl, I2,
        turn_zipH (zip_sep2 lt1 lt2) (fun a ha => Nat.ne_of_lt (lt1 a ha)) (fun a ha => Nat.ne_of_lt (Nat.lt_succ_of_lt (lt2 a ha))), ⟨hz, hTI, ⟨_, _, hTO⟩, Src.at_zero g1, Src.at_zero g2⟩, fun c hcm => ?_, q r1 r2 m1 m2⟩
      have e' : c = s1.heap.objs.size + 4 ∨ c = s1.heap.objs.size + 2 ∨ c = s1.heap.objs.size + 3 ∨ c = s1.heap.objs.size ∨ c = s1.heap.objs.size + 1 := by simpa using hcm
      have hle : s1.heap.objs.size ≤ c := by
        rcases e' with z | z | z | z | z <;> rw [z] <;> first | exact Nat.le_add_right _ _ | exact Nat.le_refl _
      exact I1.fpOk hle (I1.hok.fresh hle)
end
end RA

set_option maxHeartbeats 2000000
/-! While an exception is handled: comprehensions. -/
namespace RA
open PySem PySem.Spec PyProof.Rows L2 HotX L2H

/-- the block of a comprehension that knows of the handled exception -/
abbrev blkH (X : Cx) (s : Shared) (H : Hp) (scope : Scope) (ce : Env) (fp : List Addr) : Cx := { X.blk s H scope ce fp with pn := X.pn }
section
variable {X : Cx}
theorem HotC.blkH (h : HotC X) {s : Shared} {H : Hp} {scope : Scope} {ce : Env} {fp : List Addr} : HotC (blkH X s H scope ce fp) := h
theorem blkH_ok {s : Shared} {H : Hp} {scope : Scope} {ce : Env} {fp : List Addr} (o : (X.blk s H scope ce fp).Ok) : (blkH X s H scope ce fp).Ok :=
  ⟨o.mod, o.kind, o.glob, o.blt, o.above, o.inj, o.has, o.cab, o.hd, o.frames, o.stk, o.exf, o.bs, o.bsz, o.noex, o.exfs, o.funs, o.frf⟩
theorem blkH_inv {s s' : Shared} {H H' : Hp} {σ : L2.St} {scope : Scope} {ce : Env} {fp : List Addr} (J : Inv (X.blk s H scope ce fp) [] σ H' s')
    (h : ∀ p ∈ X.pn, s'.heap.get? p.1 = some p.2 ∧ H' p.1 = none ∧ p.1 ≠ ce.locals ∧ p.1 ∉ frs X.stack ∧ ∀ v, p.2.data ≠ .cell v) : Inv (blkH X s H scope ce fp) [] σ H' s' :=
  ⟨blkH_ok J.ok, J.os, J.bare, J.base, J.loc, J.cell, J.free, J.freeC, fun p hp => h p (by simpa using hp), J.hok, J.len⟩
theorem pe_lcH {elt tg iter : Expr} {ifs : List Expr} {scope : Scope} {own : List (Str × Nat)} {pos : Pos} {wi : TI} {g : TG} {tt : TT} {te : TE} (hc : HotC X) (hN : X.N.Nodup) (hi : PIH X tg iter wi) (ok : BlkOk X.N X.env.scope scope own)
    (hg : ∀ s H C cl fp, PG (blkH X s H scope (compEnvC scope cl C X.env) fp) tg g) (ht : ∀ s H C cl fp, PTs (blkH X s H scope (compEnvC scope cl C X.env) fp) ifs tt)
    (he : ∀ s H C cl fp, PE (blkH X s H scope (compEnvC scope cl C X.env) fp) elt te) (hs : ∀ x, foldedSetIterable iter X.env x = pure x) :
    PE X (.ListComp elt [⟨tg, iter, ifs, 0⟩] scope pos) (tLc wi g tt te (own.map (·.2))) := by
  refine ⟨fun pins sa σ Ha Q Ia asked => ?_⟩
  have cells : ∀ y ∈ scope.names, y.2 = .free → ∃ c, X.env.cells.lookup y.1 = some c := fun y hy z => Ia.ok.has _ ((ok.free y hy z).imp id id)
  rw [eval_ListComp]
  refine wpAny_comprehension_free rfl hs (closure_ok cells) ok.kind (fun y hy z => (ok.uniq y hy).trans (by rw [z])) (thn (hi.run pins sa σ Ha _ Ia asked) fun xv sb xb => thn xb fun iv sc xc => ?_)
  obtain ⟨it, fp, tn, J, Hc, rfl, Ic, T, st0, fpc, wish⟩ := xc
  refine wpAny_newObj_type (newEnv_comp ?_) (by show 0 ≤ sizeLine; decide)
  -- the new list at D
  let D : Addr := sc.heap.objs.size
  let hd : Heap := sc.heap.push { cls := .type "list", data := .seq ([] : List Value).toArray }
  let sd : Shared := { sc with heap := hd }
  let Hd : Hp := upd Hc D (.lst [])
  have nD : Hc D = none := Ic.hok.fresh (Nat.le_refl _)
  obtain ⟨W, ⟨m0, w0⟩, turn⟩ := wish D nD
  have Id : Inv X pins σ Hd sd := Ic.laid (t' := sc.toks) (fun b o z => Heap.get?_push_of_some _ z) (Nat.le_refl _) ⟨Nat.zero_le _, [], 0, .nil, Heap.get?_push_size _ rfl⟩
  have small : ∀ b ∈ fp, b < sc.heap.objs.size := fun b hb => by
    obtain ⟨o, z, _⟩ := T.obj _ _ st0 b hb
    exact Heap.lt_size z
  have fpd : ∀ b ∈ fp, FpOk X pins Hd b ∧ b < sd.heap.objs.size := fun b hb =>
    ⟨⟨(upd_ne (Nat.ne_of_lt (small b hb))).trans (fpc b hb).1, (fpc b hb).2⟩, by show b < hd.objs.size; rw [Heap.size_push]; exact Nat.lt_succ_of_lt (small b hb)⟩
  -- the block
  let L : Addr := sd.heap.objs.size
  let cls := cellsFrom (sd.heap.objs.size + 1) scope.names (cloFrom X.env.cells scope.names [])
  let ce : Env := compEnvC scope cls L X.env
  let Y : Cx := blkH X sd Hd scope ce fp
  let se : Shared := { sd with heap := pushCells (sd.heap.push { cls := .type "dict", data := .dict #[] }) scope.names }
  have kp : ∀ b o, sd.heap.get? b = some o → se.heap.get? b = some o := fun b o z => pushCells_keeps _ _ _ _ (Heap.get?_push_of_some _ z)
  have Ie : Inv Y [] (L2.wipe σ (own.map (·.2))) Hd se := blkH_inv (block_start Id ok hN fpd) fun p hp => by
    obtain ⟨k1, k2, k3, k4, k5⟩ := Id.pin p (List.mem_append_left _ hp)
    exact ⟨kp _ _ k1, k2, Nat.ne_of_lt (Heap.lt_size k1), fun z => (List.mem_cons.mp (Id.stkSub p.1 z)).elim k3 k4, k5⟩
  have tge := hg sd Hd L cls fp
  have tse := ht sd Hd L cls fp
  have ele := he sd Hd L cls fp
  have ste : tn 0 se.heap := T.keep _ _ _ st0 fun b _ o z => kp b o (Heap.get?_push_of_some _ z)
  have fpY : ∀ {σ' : L2.St} {H' : Hp} {s' : Shared}, Inv Y [] σ' H' s' → (∀ b ∈ fp, H' b = none) → ∀ b ∈ fp, FpOk Y [] H' b := fun {σ' H' s'} I' n b hb =>
    ⟨n b hb, (I'.ok.exf b hb).1, I'.ok.exfs b hb, .inl hb, fun x c z => (I'.ok.exf b hb).2 x c z, fun p hp => (fpd b hb).1.2.2.2.2.2 p (List.mem_append_left _ (by simpa using hp))⟩
  refine codeAny_compStart_list ?loop (T.self X.A 0 _ _ _ ste ?loop)
  refine compLoop_any (fun n s' => ∃ i H', Inv Y [] (L2.wipe σ (own.map (·.2))) H' s' ∧ tn i s'.heap ∧ (∀ b ∈ fp, H' b = none) ∧ W i n H') (fun n s5 at5 => ?_) m0 ⟨0, Hd, Ie, ste, fun b hb => (fpd b hb).1.1, w0⟩
  obtain ⟨i, H5, I5, st5, n5, w5⟩ := at5
  rcases turn i n H5 w5 with ⟨stop, q5⟩ | ⟨go, Nx, next, step⟩
  · refine thnF (T.done Y rfl rfl rfl hc i [] s5 _ H5 (fun _ _ => False) I5 (fpY I5 n5) st5 stop) fun r s6 ⟨hr, I6⟩ => ?_
    subst hr
    have I7 : Inv X pins σ H5 s6 := Id.call' (ch := fp) I6.os I6.base I6.hok I6.bare fun b hb => ⟨(fpd b hb).1.2.2.2.1, (fpd b hb).1.2.1, (fpd b hb).1.2.2.2.2.1, (fpd b hb).1.2.2.2.2.2⟩
    obtain ⟨m, ns, _⟩ := I6.loc
    have nL : H5 L = none := I6.free
    obtain ⟨f0, f1, f2, f3, f4, f5⟩ := Id.fpOk (b := L) (Nat.le_refl _) nL
    exact ⟨m, ns, fun h8 sb8 => ⟨.ref D, H5, I7.turned (t' := s6.toks) (fun b o hb z => (sb8.2 b hb).trans z) f0 f1 f3 f4 f5, rfl, q5⟩⟩
  · refine thnF (T.item Y rfl rfl rfl hc i [] s5 _ H5 (fun _ _ => False) I5 (fpY I5 n5) st5 go) fun r s6 ⟨u, hr, x6⟩ => ?_
    subst hr
    refine thnF x6 fun _ s7 ⟨x, H7, I7, r7, y7, st7, n7⟩ => ?_
    have P7 := I7.pinned (fpY I7 n7) (T.obj _ _ st7)
    refine thnF (tge.run _ s7 _ H7 x u _ P7 r7 (step x H7 y7)) fun _ s8 ⟨σ8, H8, I8, hw, q8⟩ => thnF (tse.run _ s8 σ8 H8 _ I8 q8) fun b s9 ⟨H9, I9, q9⟩ => ?_
    -- back to the loop's head
    have again : ∀ {s' : Shared} {H' : Hp}, Inv Y ([] ++ pinsAt fp s7.heap) σ8 H' s' → Nx H' → ∃ m, m < n ∧ ∃ i H', Inv Y [] (L2.wipe σ (own.map (·.2))) H' s' ∧ tn i s'.heap ∧ (∀ b ∈ fp, H' b = none) ∧ W i m H' := fun {s' H'} I' nx => by
      obtain ⟨m', lt, w'⟩ := next H' nx
      have held : ∀ b ∈ fp, ∀ o, s7.heap.get? b = some o → s'.heap.get? b = some o ∧ H' b = none := fun b hb o z => by
        have y := I'.pin (b, o) (List.mem_append_right _ (List.mem_append_right _ (mem_pinsAt hb z)))
        exact ⟨y.1, y.2.1⟩
      refine ⟨m', lt, i + 1, H', (I'.unpinned (pins := [])).weak (by rw [← hw, wipe_length]) (fun j v z => ?_), T.keep _ _ _ st7 fun b hb o z => (held b hb o z).1, fun b hb => ?_, w'⟩
      · rw [← hw] at z
        exact (wipe_some z).1
      · obtain ⟨o, z, _⟩ := T.obj _ _ st7 b hb
        exact (held b hb o z).2
    cases b with
    | false => exact again I9 (by simpa using q9)
    | true =>
      rw [if_pos rfl] at q9
      refine thnF (ele.run _ s9 σ8 H9 _ I9 q9) fun z s10 ⟨y, H10, I10, r10, acc, hD, hz, nx⟩ => ?_
      exact app_ok (X := Y) I10 hD hz r10 fun s11 I11 => again I11 nx
end
end RA

set_option maxHeartbeats 2000000
/-! While an exception is handled: tuples as targets, all, sum. -/
namespace RA
open PySem PySem.Spec PyProof.Rows L2 HotX L2H

section
variable {prog : Program} {w : World} {A : Around} {E : Value → Shared → Prop} {s : Shared}
theorem hwalks_li {x1 : Addr} (hh : A.handled = some (.ref x1)) (I l : Addr) (hne : l ≠ I) (hx : x1 ≠ I) (items : Array Value) :
    Walks prog w A I [I, l, x1] [I] items.size (fun i v => items[i]? = some v) (fun i h => (h.IsListIter I l i ∧ h.IsList l items) ∧ HF x1 h) where
  sub := fun b hb => by simp at hb; simp [hb]
  frame := fun i h h' st k => ⟨⟨st.1.1.at fun o z => k I (by simp) o z, st.1.2.at fun o z => k l (by simp) o z⟩, st.2.up fun o z => k x1 (by simp) o z⟩
  item := fun i s Q E hi st q => wpAny_pyNext_list_item st.1.1 st.1.2 (x := items[i]) (by simp [hi]) fun h' it' sb =>
    q _ h' s.toks (by simp [hi]) ⟨⟨it', st.1.2.extBut sb.extBut hne⟩, st.2.up fun o z => (sb.2 x1 hx).trans z⟩ fun b o hb z => (sb.2 b (by simpa using hb)).trans z
  done := fun s Q E st q => li_pn ⟨hh, st.2⟩ hx st.1.1 st.1.2 (by simp) fun h' eb => q h' s.toks fun b o hb z => eb b o (by simpa using hb) z
  self := fun i s Q E st q => wpAny_pyIter_listiter st.1.1 q
/-- items of a tuple are handed out -/
theorem unpack_hot {t x1 : Addr} {items : Array Value} {Q : List Value → Shared → Prop} (hot : HotAt A x1 s.heap) (ht : IsTup s.heap t items)
    (k : ∀ h', Heap.ExtBut s.heap.objs.size s.heap h' → Q items.toList { s with heap := h' }) : wpAny (model prog w) A (unpackItems (.ref t) items.size none) Q E s := by
  obtain ⟨hh, hF⟩ := hot
  have tl : t < s.heap.objs.size := by obtain ⟨o, z, _⟩ := ht; exact Heap.lt_size z
  have xl : x1 < s.heap.objs.size := by obtain ⟨o, _, z, _⟩ := hF; exact Heap.lt_size z
  have hF : HF x1 s.heap := hF
  unfold unpackItems
  refine wpAny_bind ?_
  unfold notIterableAtAll
  refine wpAny_bind (wpAny_specialOf ht.typeIs slot_tuple_iter.lookup (wpAny_pure ?_))
  simp only [Bool.false_eq_true, if_false]
  refine wpAny_bind (wpAny_holding (iter_tuple ht (wpAny_bind (wpAny_holding (draw_tuple (Nat.ne_of_lt tl) items.size 0 _ _ ⟨_, Heap.get?_push_size _ rfl, rfl, rfl⟩ (ht.push _) (by omega) fun g it1 sb => ?_)))))
  have whole : List.take items.size (List.drop 0 items.toList) = items.toList := by
    rw [List.drop_zero]; exact List.take_of_length_le (by simp)
  rw [whole, if_neg (by simp)]
  have t1 : IsTup g t items := (ht.push _).extBut sb.extBut (Nat.ne_of_lt tl)
  have f1 : HF x1 g := (hF.up (h' := s.heap.push _) fun o z => Heap.get?_push_of_some _ z).up fun o z => (sb.2 x1 (Nat.ne_of_lt xl)).trans z
  refine wpAny_bind (wpAny_holding (tu_pn (s := { s with heap := g }) (x1 := x1) ⟨hh, f1⟩ (Nat.ne_of_lt xl) it1 (show g.IsTuple t items from t1) (by simp) fun g2 eb => ?_))
  simp only [Option.isSome_none, Bool.false_eq_true, if_false]
  exact wpAny_pure (k g2 fun b o hb z => eb b o hb (sb.extBut b o hb (Heap.get?_push_of_some _ z)))
end
section
variable {X : Cx}
theorem pg_tupH {es : List Expr} {kk n : Nat} {t : TGs} {pos : Pos} (hc : HotC X) (h : PGs X es t) (hn : (assignEach es X.env).length = n) (hst : (assignEach es X.env).findIdx? (·.1) = none) : PG X (.Tuple es kk pos) (gTup X.K n t) := by
  refine ⟨fun pins s σ H v u Q I r asked => ?_⟩
  obtain ⟨a, xs, rfl, hq, hl, asked⟩ := asked
  cases r
  obtain ⟨its, rv, ht, hz⟩ := I.tuple hq
  obtain ⟨x1, hot⟩ := hc.at I
  rw [assign_Tuple]
  refine wpAny_bind (wpAny_standAt ?_)
  unfold unpack
  have e : (assignEach es X.env).length = its.toArray.size := by rw [hn, ← hl, rv.length]; simp
  rw [e, hst]
  refine wpAny_bind (wpAny_holding (unpack_hot hot ht fun g eb => ?_))
  have J : Inv X pins σ H { s with heap := g } := I.kept (t' := s.toks) fun b o z => eb b o (Nat.ne_of_lt (Heap.lt_size z)) z
  exact h.run pins _ σ H xs _ Q J (by simpa using rv) asked
theorem hot_new {pins : List (Addr × Obj)} {σ : L2.St} {H : Hp} {s : Shared} (hc : HotC X) (I : Inv X pins σ H s) : ∃ x1, X.A.handled = some (.ref x1) ∧ HF x1 s.heap ∧ x1 ≠ s.heap.objs.size := by
  obtain ⟨x1, hh, hF⟩ := hc.at I
  obtain ⟨o, v, z, r⟩ := id hF
  exact ⟨x1, hh, hF, Nat.ne_of_lt (Heap.lt_size z)⟩
theorem cr_allH (hc : HotC X) : CallR X (.builtin "all") (rAll X.K) := by
  intro pins s σ H vs us Q I r asked
  obtain ⟨a, bs, rfl, hs, q⟩ := asked
  obtain ⟨its, rv, hl, _⟩ := I.list hs
  obtain ⟨x1, hh, hF, hne⟩ := hot_new hc I
  have hb := rv.bls
  rw [Vals.ref1 r]
  refine call_all_walk (iter_any hl.isList fun s2 e2 st ne => ?_)
  subst e2
  refine ⟨_, _, _, _, _, _, _, rfl, hwalks_li (A := X.A.in1) hh _ a ne hne its.toArray, ⟨st, hF.up fun o z => Heap.get?_push_of_some _ z⟩, truth_bools hb, fun g tk k => ⟨.bl _, H, I.kept fun b o z => k b o (fun m => ?_) (Heap.get?_push_of_some _ z), ?_, q⟩⟩
  · obtain rfl : b = s.heap.objs.size := by simpa using m
    exact absurd (Heap.lt_size z) (Nat.lt_irrefl _)
  · show Value.bool _ = Value.bool _
    rw [← L2.all_range, hb, List.size_toArray, List.length_map]
theorem cr_sumH (hc : HotC X) : CallR X (.builtin "sum") (rSum X.K) := by
  intro pins s σ H vs us Q I r asked
  obtain ⟨a, ns, rfl, hs, q⟩ := asked
  obtain ⟨its, rv, hl, _⟩ := I.list hs
  obtain ⟨x1, hh, hF, hne⟩ := hot_new hc I
  rw [Vals.ref1 r]
  obtain ⟨xs, e⟩ := rv.ints.allInts.items
  have hn : numsOf (intItems xs).toList = ns := by rw [← e]; exact rv.ints.numsOf
  rw [nums_intItems] at hn
  have hl' := hl.isList
  rw [e] at hl'
  refine call_sum_walkG (iter_any hl' fun s2 e2 st ne => ?_)
  subst e2
  have hlt : a < s.heap.objs.size := hl.lt
  have hxl : x1 < s.heap.objs.size := by obtain ⟨o, v, z, _⟩ := id hF; exact Heap.lt_size z
  refine ⟨_, _, _, _, _, _, numAt xs, rfl, hwalks_li (A := X.A.in1) hh _ a ne hne (intItems xs), ⟨st, hF.up fun o z => Heap.get?_push_of_some _ z⟩, fun b hb => ?_, fun _ _ => intItems_at, fun g tk t' k => ?_⟩
  · show b < (s.heap.push _).objs.size
    rw [Heap.size_push]
    have o3 : b = s.heap.objs.size ∨ b = a ∨ b = x1 := by simpa using hb
    rcases o3 with z | z | z <;> rw [z]
    · exact Nat.lt_succ_self _
    · exact Nat.lt_succ_of_lt hlt
    · exact Nat.lt_succ_of_lt hxl
  · have J : Inv X pins σ H { s with heap := g, toks := tk } := I.kept fun b o z => k b o (fun m => by
      obtain rfl : b = s.heap.objs.size := by simpa using m
      exact absurd (Heap.lt_size z) (Nat.lt_irrefl _)) (Heap.get?_push_of_some _ z)
    refine ⟨.int _, H, J, ⟨t', ?_⟩, q⟩
    show Value.int _ t' = Value.int _ t'
    rw [preSum_eq, List.take_of_length_le (by simp [intItems]), hn]
end
end RA

set_option maxHeartbeats 2000000
/-! While an exception is handled: list(range(..)). -/
namespace RA
open PySem PySem.Spec PyProof.Rows L2 HotX L2H

section
variable {prog : Program} {w : World} {A : Around} {E : Value → Shared → Prop} {s : Shared}
theorem hwalks_rg {x1 : Addr} (hh : A.handled = some (.ref x1)) (I : Addr) (hx : x1 ≠ I) (lo : Int) (n : Nat) :
    Walks prog w A I [I, x1] [I] n (fun i v => ∃ t, v = .int (lo + i * 1) t) (fun i h => IsRangeIter h I (lo + (i : Nat) * 1) ((n : Int) - (i : Nat)) 1 ∧ HF x1 h) where
  sub := fun b hb => by
    obtain rfl : b = I := by simpa using hb
    simp
  frame := fun i h h' st k => ⟨k I (by simp) _ st.1, st.2.up fun o z => k x1 (by simp) o z⟩
  item := fun i s Q E hi st q => wpAny_pyNext_range_item st.1 (by omega) fun h' it' sb => by
    have e1 : lo + ((i : Nat) : Int) * 1 + 1 = lo + ((i + 1 : Nat) : Int) * 1 := by omega
    have e2 : (n : Int) - ((i : Nat) : Int) - 1 = (n : Int) - ((i + 1 : Nat) : Int) := by omega
    rw [e1, e2] at it'
    exact q _ h' _ ⟨_, rfl⟩ ⟨it', st.2.up fun o z => (sb.2 x1 hx).trans z⟩ fun b o hb z => (sb.2 b (by simpa using hb)).trans z
  done := fun s Q E st q => pyNext_range_end_hot ⟨hh, st.2⟩ st.1 (by omega) fun h' k => q h' s.toks fun b o _ z => k b o z
  self := fun i s Q E st q => wpAny_pyIter_rangeiter st.1 q
/-- the new list S is filled from the range r -/
theorem fill_rg {R : Result → Shared → Prop} {r x1 : Addr} {lo hi : Int} {t u v : Tok} {n : Nat} (hot : HotAt A x1 s.heap) (hr : IsRange s.heap r lo hi 1 t u v) (hsmall : Builtin.Range.small lo hi 1 = true) (hn : Builtin.Range.rangeSize lo hi 1 = n) (hl : n ≤ 2 ^ 24)
    (S : Addr) (hSx : x1 ≠ S) (hS : s.heap.get? S = some { cls := .type "list", data := .seq #[] })
    (k : ∀ h' tk acc c, (∀ b o, b ≠ S → s.heap.get? b = some o → h'.get? b = some o) → h'.get? S = some { cls := .type "list", dict := none, data := .seq acc c, slots := #[] } → ItemsOf (fun i v => ∃ t, v = .int (lo + i * 1) t) acc n → R (.ok (.ret .none)) { s with heap := h', toks := tk }) :
    wpAny (model prog w) A.in1 (Builtin.«list.__init__» ⟨[.ref S, .ref r], []⟩) (fun fin s' => match fin with | .done f => R (.ok f) s' | .again c' => c'.quiet = true ∧ codeAny (model prog w) A c' R s') (fun e s' => R (.error e) s') s := by
  obtain ⟨hh, hF⟩ := hot
  have hF : HF x1 s.heap := hF
  have Sr : S ≠ r := fun z => by rw [z, hr] at hS; simp at hS
  have Slt : S < s.heap.objs.size := Heap.lt_size hS
  have xlt : x1 < s.heap.objs.size := by obtain ⟨o, _, z, _⟩ := id hF; exact Heap.lt_size z
  -- emptied once more
  show wpAny _ _ (do let old ← Builtin.List.listItems (.ref S); Builtin.List.listUpdate (.ref S) (fun _ => #[]); letGo old.toList.reverse; Builtin.List.listExtendWith (.ref S) (.ref r) .none) _ _ s
  refine wpAny_bind ?_
  unfold Builtin.List.listItems
  refine wpAny_bind (wpAny_seqItems hS rfl (wpAny_pure ?_))
  show wpAny _ _ (updateSeq S (fun _ => #[]) >>= fun _ => letGo (#[] : Array Value).toList.reverse >>= fun _ => Builtin.List.listExtendWith (.ref S) (.ref r) .none) _ _ s
  refine wpAny_bind (wpAny_updateSeq hS rfl (wpAny_bind (wpAny_letGo ?_)))
  generalize hg : s.heap.update S (Obj.mapSeq (fun _ => (#[] : Array Value))) = g
  have gS : g.get? S = some (Obj.mapSeq (fun _ => (#[] : Array Value)) { cls := .type "list", data := .seq #[] }) := by rw [← hg]; exact Heap.get?_update_self _ hS rfl
  have up : ∀ b o, b ≠ S → s.heap.get? b = some o → g.get? b = some o := fun b o hb z => by rw [← hg]; exact (Heap.get?_update_other _ _ (Ne.symm hb)).trans z
  have gr : IsRange g r lo hi 1 t u v := up r _ (Ne.symm Sr) hr
  have gF : HF x1 g := hF.up fun o z => up x1 o hSx z
  have gz : g.objs.size = s.heap.objs.size := by rw [← hg]; exact (Heap.SameBut.update ..).1
  -- the loop, from any heap where the iterator and the list stand
  have xI : x1 ≠ g.objs.size := by rw [gz]; exact Nat.ne_of_lt xlt
  have SI : S ≠ g.objs.size := by rw [gz]; exact Nat.ne_of_lt Slt
  have WS := (hwalks_rg (prog := prog) (w := w) (A := A.in1) hh g.objs.size xI lo n).toS
  have loop : ∀ (h : Heap) (c tk : Nat), IsRangeIter h g.objs.size (lo + ((0 : Nat) : Int) * 1) ((n : Int) - ((0 : Nat) : Int)) 1 → (∀ b o, b ≠ S → g.get? b = some o → h.get? b = some o) → h.get? S = some { cls := .type "list", data := .seq #[] c } →
      codeAny (model prog w) A (.builtin "list.extend.loop" ⟨[.ref S, .ref g.objs.size, .none], []⟩) R { s with heap := h, toks := tk } := fun h c tk hit kp hSh => by
    refine codeAny_extend_loopS WS (by rw [sizeLine_eq]; omega) S (fun m => by
      have : S = g.objs.size ∨ S = x1 := by simpa using m
      exact this.elim SI (Ne.symm hSx)) .none n 0 _ #[] c rfl (Nat.zero_le _) ⟨hit, gF.up fun o z => kp x1 o hSx z⟩ hSh (ItemsOf.nil _) fun s' acc c' moved hS' items => ?_
    rw [Moved.eq_with moved]
    refine k s'.heap s'.toks acc c' (fun b o hb z => moved.heap b o (fun m => ?_) (kp b o hb (up b o hb z))) hS' items
    have : b = S ∨ b = g.objs.size := by simpa using m
    rcases this with y | y
    · exact hb y
    · exact absurd (Heap.lt_size z) (by rw [y, gz]; exact Nat.lt_irrefl _)
  unfold Builtin.List.listExtendWith
  refine wpAny_bind (wpAny_typeOf (T := "range") ⟨_, gr, rfl⟩ ?_)
  have n1 : Builtin.List.listSameRef (.ref S) (.ref r) = false := by simp [Builtin.List.listSameRef, Sr]
  have n2 : (Value.type "range" == Value.type "list") = false := by decide
  have n3 : (Value.type "range" == Value.type "tuple") = false := by decide
  simp only [n1, n2, n3, Bool.or_false, Bool.false_eq_true, if_false]
  refine wpAny_bind (wpAny_pyIter_range gr hsmall (wpAny_bind (wpAny_holding (wpAny_hint_range (n := n) (Heap.get?_push_of_some _ gr) hn hl ?_))))
  have it0 : IsRangeIter (g.push { cls := .type "range_iterator", data := .fields #[rawInt lo, rawInt (Builtin.Range.rangeSize lo hi 1), rawInt 1] }) g.objs.size (lo + ((0 : Nat) : Int) * 1) ((n : Int) - ((0 : Nat) : Int)) 1 := by
    rw [hn]
    simpa using Heap.get?_push_size _ rfl
  have pS := Heap.get?_push_of_some { cls := .type "range_iterator", data := .fields #[rawInt lo, rawInt (Builtin.Range.rangeSize lo hi 1), rawInt 1] } gS
  refine wpAny_ite_split (fun _ => ?_) fun _ => wpAny_pure ⟨plainId_quiet F.plain_extend_loop _, loop _ _ _ it0 (fun b o _ z => Heap.get?_push_of_some _ z) pS⟩
  refine wpAny_bind (wpAny_rule (wpAny_bind ?_))
  show wpAny _ _ (updateSeq S (·.push .none) >>= fun _ => updateSeq S (·.pop)) _ _ _
  refine wpAny_bind (wpAny_updateSeq pS rfl ?_)
  have qS := Heap.get?_update_self (Obj.mapSeq (·.push Value.none)) pS rfl
  refine wpAny_updateSeq (hz := by seq_fits) qS rfl ?_
  have rS := Heap.get?_update_self (Obj.mapSeq (·.pop)) qS rfl
  refine wpAny_pure ⟨plainId_quiet F.plain_extend_loop _, loop _ _ _ ?_ (fun b o hb z => ?_) rS⟩
  · exact (Heap.get?_update_other _ _ SI).trans ((Heap.get?_update_other _ _ SI).trans it0)
  · exact (Heap.get?_update_other _ _ (Ne.symm hb)).trans ((Heap.get?_update_other _ _ (Ne.symm hb)).trans (Heap.get?_push_of_some _ z))
theorem call_lrg_hot {Q : Value → Shared → Prop} {r x1 : Addr} {lo hi : Int} {t u v : Tok} {n : Nat} (hot : HotAt A x1 s.heap) (hr : IsRange s.heap r lo hi 1 t u v) (hsmall : Builtin.Range.small lo hi 1 = true) (hn : Builtin.Range.rangeSize lo hi 1 = n) (hl : n ≤ 2 ^ 24)
    (q : ∀ h' tk acc c, (∀ b o, s.heap.get? b = some o → h'.get? b = some o) → h'.get? s.heap.objs.size = some { cls := .type "list", dict := none, data := .seq acc c, slots := #[] } → ItemsOf (fun i v => ∃ t, v = .int (lo + i * 1) t) acc n → Q (.ref s.heap.objs.size) { s with heap := h', toks := tk }) :
    wpAny (model prog w) A (call (.type "list") [.ref r]) Q E s := by
  obtain ⟨hh, hF⟩ := hot
  have hF : HF x1 s.heap := hF
  have xlt : x1 < s.heap.objs.size := by obtain ⟨o, _, z, _⟩ := id hF; exact Heap.lt_size z
  refine callType_codes (Q₁ := fun obj s₁ => obj = .ref s.heap.objs.size ∧ s₁ = { s with heap := s.heap.push { cls := .type "list", data := .seq #[] } }) F.called_list (F.typeCall_list_1 _) F.entry_list_init (code_list_new _ ⟨rfl, rfl⟩) fun obj s1 h1 => ?_
  obtain ⟨rfl, rfl⟩ := h1
  have nw : (s.heap.push { cls := .type "list", data := .seq #[] }).get? s.heap.objs.size = some { cls := .type "list", data := .seq #[] } := Heap.get?_push_size _ rfl
  exact ⟨⟨_, nw, rfl⟩, F.args_list_init_2 _ _, fill_rg (A := A.in1) ⟨hh, hF.up fun o z => Heap.get?_push_of_some _ z⟩ (Heap.get?_push_of_some _ hr) hsmall hn hl _ (Nat.ne_of_lt xlt) nw fun h' tk acc c k at' items =>
    ⟨rfl, q h' tk acc c (fun b o z => k b o (Nat.ne_of_lt (Heap.lt_size z)) (Heap.get?_push_of_some _ z)) at' items⟩⟩
end
theorem pe_lrgH {X : Cx} {e : Expr} {te : L2.St → Hp → (Int → Int → Hp → Prop) → Prop} {p pos : Pos} (hc : HotC X) (hg : Gl X "list") (hm : X.mg "list" = none) (he : PRg X e te) (na : starEach [e] X.env = (false, eval e X.env) :: starEach [] X.env) : PE X (.Call (.Name "list" p) [e] [] pos) (tLstRg te) := by
  refine ⟨fun pins s σ H Q I asked => Call_ (ld_blt I hg hm boot_list (PyProof.Rows.callWith_type1 (args_cons (thn (he pins s σ H _ I asked) fun x s1 ⟨r, a, b, t, u, v, H1, ex, hr, I1, ok, q⟩ => args_nil ?_) na) na))⟩
  subst ex
  obtain ⟨b1, b2, b3, b4, b5⟩ := ok
  obtain ⟨x1, hot⟩ := hc.at I1
  refine call_lrg_hot (n := (b - a).toNat) hot hr (small_one b1 b2 b3 b4) (rangeSize_nat a b) b5 fun g tk acc c k at' items => ?_
  have obj : ObjOk X.prog X.w (upd H1 s1.heap.objs.size (.lst (rgV a b))) g s1.heap.objs.size (.lst (rgV a b)) := ⟨by rw [rgV_length, sizeLine_eq]; omega, acc.toList, c, vals_rg items, by rw [Array.toArray_toList]; exact at'⟩
  exact ⟨.ref s1.heap.objs.size, _, I1.laid k (Nat.le_refl _) obj, rfl, q _ (I1.hok.fresh (Nat.le_refl _))⟩
end RA

/-! Soundness: expressions. -/
namespace RA
open PySem L2

/-- the setting: tables, the own exception classes, the constants, the callees, their level -/
structure Gs where
  T : Tb
  C : Nat → Value
  G : List PV
  cf : Nat → List PV → List PV → CR
  r : Nat

/-- what a def promises: what the interpreter says -/
def spF (S : Gs) (f : Nat) : Sp := fun vs H Q E => ∃ w ps mu, w.H = H ∧ WOk w ∧ CRel S.T w mu ∧ (∀ a, w.wr a → a ∈ w.m) ∧ Reps S.T w ps vs ∧
  match S.cf f ps mu with
  | .stk => False
  | .ok p mu' => ∀ v w', Ext w w' → WOk w' → CRel S.T w' mu' → RepV S.T w' p v → Q v w'.H
  | .exc e mu' => ∀ cls d w', Ext w w' → WOk w' → CRel S.T w' mu' → RepX S.T S.C w' e cls d → E cls d w'.H

def bNames : List Str := ["len", "all", "any", "sum", "min", "max", "list", "tuple", "str", "abs", "int", "bool", "isinstance", "range", "enumerate", "zip", "dict", "repr"]
/-- an own exception's initializer: the fields by the arguments, from behind -/
def spX (T : Tb) (c : Nat) (Ca : Addr) (ok : List V → Prop) : Sp := fun vs H Q _ => ∃ a us, vs = .ref a :: us ∧ us.length = (T.fld c).length ∧ ok us ∧ H a = some (exo a Ca none) ∧
  ∀ d H', H d = none → d ≠ a → H' a = some (exo a Ca (some d)) → H' d = some (exd d ((T.fld c).zip us.reverse)) → (∀ b o, b ≠ a → H b = some o → H' b = some o) → Q .non H'
/-- .. of the arguments as they are -/
def okV : List Bool → List V → Prop
  | [], l => l = []
  | b :: bs, l => ∃ x r, l = x :: r ∧ (b = true → ∃ i : Int, x = .int i ∧ 0 ≤ i ∧ i.toNat < 10 ^ 200) ∧ okV bs r
theorem okV_len : ∀ {ks : List Bool} {vs : List V}, okV ks vs → vs.length = ks.length
  | [], vs, h => by rw [show vs = [] from h]; rfl
  | b :: ks, vs, h => by
    obtain ⟨x, r, rfl, _, h2⟩ := h
    rw [List.length_cons, List.length_cons, okV_len h2]
/-- what isinstance asks of an exception's class -/
structure XiC (K : PySem.W.Frag) (C : Addr) : Prop where
  hcl : (PySem.W.clsIn K C).isSome = true
  ha : PySem.W.findIn K (.ref C) "__class__" = some (some (.builtin "object.__class__"))
  hn : PySem.W.specialIn K (.builtin "object.__class__") "__get__" = some (some (.builtin "getset_descriptor.__get__"))
  ht : PySem.W.takesIn K (.builtin "object.__class__") = some true
  hm : PySem.W.mroIn K C (.type "object") = some true
/-- an own exception class -/
structure XcOk (S : Gs) (X : Cx) (c : Nat) (x : Str) (ks : List Bool) : Prop where
  ex : ∃ (Ca fI : Addr) (fd : FuncData) (ps : List Str) (l : Nat), l + 1 ≤ S.r ∧ S.C c = .ref Ca ∧ X.mg x = some (.ref Ca) ∧ OexC X.K Ca ∧ PySem.W.findIn X.K (.ref Ca) "__init__" = some (some (.ref fI)) ∧ PySem.W.typeIn X.K (.ref fI) = some (.type "function") ∧
    FnOk X.prog X.w X.K X.mg X.base (L2N.CX X.prog X.w) l fI fd ps (spX S.T c Ca (okV ks)) ∧ Binds X.K fd ps [] ∧ XfC X.K Ca ∧ (∀ n ∈ S.T.fld c, PySem.W.findIn X.K (.ref Ca) n = some none) ∧ (S.T.fld c).Nodup ∧ ks.length = (S.T.fld c).length ∧ ks.length ≤ 900 ∧ S.T.xca c = Ca ∧ XiC X.K Ca
/-- a function that may be called -/
structure FcOk (S : Gs) (X : Cx) (f : Nat) (a : Addr) : Prop where
  ex : ∃ (fd : FuncData) (ps : List Str) (l : Nat), l + 1 ≤ S.r ∧ PySem.W.keepIn X.K (.ref a) = true ∧ Binds X.K fd ps [] ∧ FnOk X.prog X.w X.K X.mg X.base (L2N.CX X.prog X.w) l a fd ps (spF S f)
/-- a function that may be called where an exception is handled -/
structure FcH (S : Gs) (X : Cx) (f : Nat) (a : Addr) : Prop where
  ex : ∃ (fd : FuncData) (ps : List Str) (l : Nat), l + 1 ≤ S.r ∧ PySem.W.keepIn X.K (.ref a) = true ∧ Binds X.K fd ps [] ∧ L2H.FnH X.prog X.w X.K X.mg X.base (L2N.CX X.prog X.w) l a fd ps (spF S f)
structure XOk (S : Gs) (C : Ck) (sc : Scope) (fb : Str → Bool) (X : Cx) : Prop where
  hK : S.T.K = X.K
  sc : X.env.scope = sc
  fb : X.fn = fb
  N : X.N = C.N
  nd : X.N.Nodup
  calm : C.hot = false → X.calm = true
  hotc : C.hot = true → L2H.HotC X
  roomH : L2H.RoomH S.r X.A
  fnsH : ∀ (f : Nat) a, C.hf.contains f = true → S.T.fa f = some a → FcH S X f a
  room : C.hot = false → Room S.r X.A
  un : X.A.units + 66 < cLine
  glob : ∀ (g : Nat) x, C.gn[g]? = some x → ∃ u v p, X.mg x = some u ∧ RelV v u ∧ S.G[g]? = some p ∧ ∀ w, WOk w → RepV S.T w p v
  fa : ∀ (f : Nat) x, C.fnm[f]? = some (some x) → ∃ a, X.mg x = some (.ref a) ∧ S.T.fa f = some a
  fns : C.hot = false → ∀ (f : Nat) a, S.T.fa f = some a → FcOk S X f a
  mts : C.hot = false → ∀ (f c : Nat) n, C.mtn[f]? = some (some (c, n)) → ∃ a, Cls X.K (S.T.cla c) ∧ L2.Meth X.K (S.T.cla c) n a ∧ FcOk S X f a ∧ (n = ("__init__" : Str) → Mk X.K (S.T.cla c) a)
  cls : ∀ (c : Nat) x, C.cln[c]? = some x → X.mg x = some (.ref (S.T.cla c))
  atr : ∀ (c : Nat) ns, C.atn[c]? = some ns → S.T.atn c = ns ∧ ns.Nodup ∧ ns.length ≤ 900 ∧ Cls X.K (S.T.cla c) ∧ ∀ n ∈ ns, NoAttr X.K (S.T.cla c) n
  nom : ∀ (f c : Nat) n, C.mtn[f]? = some (some (c, n)) → n ∉ S.T.atn c
  xcs : ∀ (c : Nat) x ks, C.xcn[c]? = some (x, ks) → XcOk S X c x ks
  exm : ∀ (c c' : Nat), c < C.xcn.length → c' ∈ C.hnd → PySem.W.exmOne X.K (S.C c) (S.C c') = some (c == c')
  xfl : ∀ (c : Nat) ns, C.xfl[c]? = some ns → S.T.fld c = ns
  nx : S.T.nx = C.xcn.length
  icl : ∀ (k : Nat) y tb, C.icl[k]? = some (y, tb) → ∃ (v : V) (cv : Value), RelV v cv ∧ (∀ u, RelV v u → u = cv) ∧ (X.mg y = some cv ∨ (X.mg y = none ∧ bootBuiltins y = some cv)) ∧ ∀ p ∈ tb, p.1 < C.xcn.length ∧ PySem.W.kitOne X.K (.ref (S.T.xca p.1)) cv = some p.2
  cold : C.hot = false → S.T.xs = []
  pin : ∀ p ∈ S.T.xs, p.2.2.1 < C.xcn.length ∧ ∃ oe, (p.2.1, oe) ∈ X.pn ∧ L2N.Zn (S.C p.2.2.1) (some p.2.2.2) oe ∧ ∃ vs, oe.data = .fields vs
  blt : ∀ x ∈ bNames, X.mg x = none

section
variable {S : Gs} {C : Ck} {sc : Scope} {fb : Str → Bool} {X : Cx}
theorem FcOk.same {X X' : Cx} {f : Nat} {a : Addr} (h : FcOk S X f a) (h1 : X'.prog = X.prog := by rfl) (h2 : X'.w = X.w := by rfl) (h3 : X'.K = X.K := by rfl) (h4 : X'.mg = X.mg := by rfl) (h5 : X'.base = X.base := by rfl) : FcOk S X' f a := by
  obtain ⟨fd, ps, l, q⟩ := h.ex
  exact ⟨fd, ps, l, by rw [h1, h2, h3, h4, h5]; exact q⟩
theorem FcH.same {X X' : Cx} {f : Nat} {a : Addr} (h : FcH S X f a) (h1 : X'.prog = X.prog := by rfl) (h2 : X'.w = X.w := by rfl) (h3 : X'.K = X.K := by rfl) (h4 : X'.mg = X.mg := by rfl) (h5 : X'.base = X.base := by rfl) : FcH S X' f a := by
  obtain ⟨fd, ps, l, q⟩ := h.ex
  exact ⟨fd, ps, l, by rw [h1, h2, h3, h4, h5]; exact q⟩
theorem XcOk.same {X X' : Cx} {c : Nat} {x : Str} {ks : List Bool} (h : XcOk S X c x ks) (h1 : X'.prog = X.prog := by rfl) (h2 : X'.w = X.w := by rfl) (h3 : X'.K = X.K := by rfl) (h4 : X'.mg = X.mg := by rfl) (h5 : X'.base = X.base := by rfl) : XcOk S X' c x ks := by
  obtain ⟨Ca, fI, fd, ps, l, q⟩ := h.ex
  exact ⟨Ca, fI, fd, ps, l, by rw [h1, h2, h3, h4, h5]; exact q⟩
theorem XOk.blk (x : XOk S C sc fb X) (hc : C.hot = false) (s : Shared) (H : Hp) (scope : Scope) (A : Addr) (cl : List (Str × Addr)) (fp : List Addr) :
    XOk S C (relS scope sc) (fun y => scope.names.lookup y == some .cell) (X.blk s H scope (compEnvC scope cl A X.env) fp) where
  hK := x.hK
  sc := by rw [← x.sc]; rfl
  fb := rfl
  N := x.N
  nd := x.nd
  calm := x.calm
  hotc := fun h => by rw [hc] at h; cases h
  roomH := x.roomH
  fnsH := fun f a h q => (x.fnsH f a h q).same
  room := x.room
  un := x.un
  glob := x.glob
  fa := x.fa
  fns := fun h f a q => (x.fns h f a q).same
  mts := fun h f c n q => by
    obtain ⟨a, k1, k2, k3, k4⟩ := x.mts h f c n q
    exact ⟨a, k1, k2, k3.same, k4⟩
  cls := x.cls
  atr := x.atr
  nom := x.nom
  xcs := fun c y ks q => (x.xcs c y ks q).same
  exm := x.exm
  xfl := x.xfl
  nx := x.nx
  icl := x.icl
  cold := x.cold
  pin := fun p hp => by
    rw [x.cold hc] at hp
    cases hp
  blt := x.blt
theorem XOk.blkH (x : XOk S C sc fb X) (hc : C.hot = true) (s : Shared) (H : Hp) (scope : Scope) (A : Addr) (cl : List (Str × Addr)) (fp : List Addr) :
    XOk S C (relS scope sc) (fun y => scope.names.lookup y == some .cell) (RA.blkH X s H scope (compEnvC scope cl A X.env) fp) where
  hK := x.hK
  sc := by rw [← x.sc]; rfl
  fb := rfl
  N := x.N
  nd := x.nd
  calm := fun h => by rw [hc] at h; cases h
  hotc := fun h => HotC.blkH (x.hotc h)
  roomH := x.roomH
  fnsH := fun f a h q => (x.fnsH f a h q).same
  room := fun h => by rw [hc] at h; cases h
  un := x.un
  glob := x.glob
  fa := x.fa
  fns := fun h => by rw [hc] at h; cases h
  mts := fun h => by rw [hc] at h; cases h
  cls := x.cls
  atr := x.atr
  nom := x.nom
  xcs := fun c y ks q => (x.xcs c y ks q).same
  exm := x.exm
  xfl := x.xfl
  nx := x.nx
  icl := x.icl
  cold := fun h => by rw [hc] at h; cases h
  pin := x.pin
  blt := x.blt
theorem XOk.wish (x : XOk S C sc fb X) (E : Value → Shared → Prop) : XOk S C sc fb (X.wish E) := ⟨x.hK, x.sc, x.fb, x.N, x.nd, x.calm, x.hotc, x.roomH, fun f a h q => (x.fnsH f a h q).same, x.room, x.un, x.glob, x.fa, fun h f a q => (x.fns h f a q).same, fun h f c n q => by
    obtain ⟨a, k1, k2, k3, k4⟩ := x.mts h f c n q
    exact ⟨a, k1, k2, k3.same, k4⟩, x.cls, x.atr, x.nom, fun c y ks q => (x.xcs c y ks q).same, x.exm, x.xfl, x.nx, x.icl, x.cold, x.pin, x.blt⟩

theorem vis_of {x : Str} (x0 : XOk S C sc fb X) (h : vis sc x = true) : Vis X.env.scope x := by
  rw [x0.sc]
  unfold vis at h
  split at h <;> first | (exact .inl (by assumption)) | (exact .inr (.inl (by assumption))) | (exact .inr (.inr (by assumption))) | cases h
theorem glb_of {x : Str} (x0 : XOk S C sc fb X) (h : glb sc x = true) : Gl X x := by
  unfold glb at h
  show X.env.scope.names.lookup x = _
  rw [x0.sc]
  split at h
  · assumption
  · cases h
theorem okNm_of {x : Str} (h : okNm x = true) : (x == ("__debug__" : Str)) = false ∧ (x == ("__classdict__" : Str)) = false ∧ x ≠ ("__name__" : Str) := by
  unfold okNm at h
  simp only [Bool.and_eq_true, Bool.not_eq_true'] at h
  exact ⟨h.1.1, h.1.2, fun e => by rw [e] at h; exact absurd h.2 (by decide)⟩
theorem loc_of {x : Str} (x0 : XOk S C sc fb X) (h : loc sc fb x = true) : Loc X.env.scope x ∧ (X.fn x = true ∨ X.env.scope.names.lookup x = some .local) := by
  unfold loc at h
  rw [x0.sc, x0.fb]
  split at h
  · rename_i e; exact ⟨.inl e, .inr e⟩
  · rename_i e; exact ⟨.inr e, .inl h⟩
  · cases h

/-! ### the environment does not matter -/
theorem star_cons {e : Expr} {es : List Expr} {env : Env} (h : notStar e = true) : starEach (e :: es) env = (false, eval e env) :: starEach es env := by
  cases e <;> first | rfl | (simp [notStar] at h)
theorem star_nil {env : Env} : starEach [] env = [] := rfl
theorem back_any {pos : Pos} {env : Env} : ∀ {es : List Expr}, (∀ e ∈ es, notStar e = true) → (backTo pos (starEach es env)).any (·.1) = false
  | [], _ => rfl
  | e :: es, h => by
    rw [star_cons (h e List.mem_cons_self)]
    show (false || (backTo pos (starEach es env)).any (·.1)) = false
    rw [back_any fun x hx => h x (List.mem_cons_of_mem _ hx)]
    rfl
theorem back_all {pos : Pos} {env : Env} : ∀ {es : List Expr}, (∀ e ∈ es, notStar e = true) → (backTo pos (starEach es env)).all (fun x => !x.1) = true
  | [], _ => rfl
  | e :: es, h => by
    rw [star_cons (h e List.mem_cons_self)]
    show (!false && (backTo pos (starEach es env)).all (fun x => !x.1)) = true
    rw [back_all fun x hx => h x (List.mem_cons_of_mem _ hx)]
    rfl
theorem plainIx_of {e : Expr} (h : notSlice e = true) : PlainIx e := by
  intro o i
  cases e <;> first | rfl | (simp [notSlice] at h)
theorem noMark {e : Expr} (h : notSet e = true) (op : CmpOp) : behindInMarks op e = false := by
  cases e <;> first | rfl | (simp [notSet] at h)
theorem isTrue_of {e : Expr} {env : Env} (h : plainT e = true) (whole : Sem Value) : isTrue e env whole = (do let v ← whole; standAt e.pos; holding [v] (truthy v)) := by
  cases e <;> first | rfl | (simp [plainT] at h; done) | skip
  rename_i op _ _
  cases op <;> first | rfl | (simp [plainT] at h)
theorem attr_of {e : Expr} {n : Str} {env : Env} (h : notSuper e = true) : attributeBase e n env (eval e env) = eval e env := by
  unfold attributeBase
  cases e <;> try rfl
  rename_i f as ks p
  cases f <;> try rfl
  cases as <;> try rfl
  cases ks <;> try rfl
  simp [notSuper] at h
theorem noFold {e : Expr} {env : Env} (h : notSet e = true) (x : Value) : foldedSetIterable e env x = pure x := by
  cases e <;> first | rfl | (simp [notSet] at h)
theorem notStar_all {es : Exs} {xs : List Expr} (h : ckEs C sc fb es xs = true) : ∀ e ∈ xs, notStar e = true := by
  induction xs generalizing es with
  | nil => intro e he; cases he
  | cons x r ih =>
    cases es with
    | nil => simp [ckEs] at h
    | cons a es =>
      simp only [ckEs, Bool.and_eq_true] at h
      intro e he
      rcases List.mem_cons.mp he with rfl | he
      · exact h.1.2
      · exact ih h.2 e he

/-! ### readings from the interpreter's results -/
variable {W : WX}
abbrev rE (S : Gs) (W : WX) (m : List Sl → List PV → Res PV) : TE := tE S.T S.C W m
theorem tE.bnd {α : Type} {T : Tb} {Cl : Nat → Value} {σ : St} {H : Hp} {m : List Sl → List PV → Res PV} {f : PV → List Sl → List PV → Res α} {w : Wd} {sl : List Sl} {mu : List PV} {R : V → Hp → Prop} {Q : α → List Sl → List PV → Wd → Prop}
    (hH : w.H = H) (F : FRel T w σ sl mu) (P : Pst T Cl W σ w ((m sl mu).bnd f) Q)
    (k : ∀ p v sl1 mu1 w1, Ext w w1 → FRel T w1 σ sl1 mu1 → RepV T w1 p v → Pst T Cl W σ w1 (f p sl1 mu1) Q → R v w1.H) : tE T Cl W m σ H R :=
  ⟨w, sl, mu, hH, F, (P.bnd F.wok).mono fun p sl1 mu1 w1 e1 F1 P1 v rv => k p v sl1 mu1 w1 e1 F1 rv P1⟩
theorem tA.bnd {α : Type} {T : Tb} {Cl : Nat → Value} {σ : St} {H : Hp} {m : List Sl → List PV → Res (List PV)} {f : List PV → List Sl → List PV → Res α} {w : Wd} {sl : List Sl} {mu : List PV} {R : List V → Hp → Prop} {Q : α → List Sl → List PV → Wd → Prop}
    (hH : w.H = H) (F : FRel T w σ sl mu) (P : Pst T Cl W σ w ((m sl mu).bnd f) Q)
    (k : ∀ p v sl1 mu1 w1, Ext w w1 → FRel T w1 σ sl1 mu1 → Reps T w1 p v → Pst T Cl W σ w1 (f p sl1 mu1) Q → R v w1.H) : tA T Cl W m σ H R :=
  ⟨w, sl, mu, hH, F, (P.bnd F.wok).mono fun p sl1 mu1 w1 e1 F1 P1 v rv => k p v sl1 mu1 w1 e1 F1 rv P1⟩
theorem tT.bnd {α : Type} {T : Tb} {Cl : Nat → Value} {σ : St} {H : Hp} {m : List Sl → List PV → Res Bool} {f : Bool → List Sl → List PV → Res α} {w : Wd} {sl : List Sl} {mu : List PV} {R : Bool → Hp → Prop} {Q : α → List Sl → List PV → Wd → Prop}
    (hH : w.H = H) (F : FRel T w σ sl mu) (P : Pst T Cl W σ w ((m sl mu).bnd f) Q)
    (k : ∀ p sl1 mu1 w1, Ext w w1 → FRel T w1 σ sl1 mu1 → Pst T Cl W σ w1 (f p sl1 mu1) Q → R p w1.H) : tT T Cl W m σ H R :=
  ⟨w, sl, mu, hH, F, (P.bnd F.wok).mono fun p sl1 mu1 w1 e1 F1 P1 => k p sl1 mu1 w1 e1 F1 P1⟩
/-- the wish behind a value -/
abbrev QE (T : Tb) (Q : VK) : PV → List Sl → List PV → Wd → Prop := fun p _ _ w' => ∀ v, RepV T w' p v → Q v w'.H

/-- slots are read -/
theorem getS_ok {T : Tb} {Cl : Nat → Value} {σ : St} {w : Wd} {sl : List Sl} {mu : List PV} {i : Nat} {Q : PV → List Sl → List PV → Wd → Prop} (F : FRel T w σ sl mu) (P : Pst T Cl W σ w (getS sl i mu) Q) :
    ∃ p v sl' w', σ[i]? = some (some v) ∧ Ext w w' ∧ w'.H = w.H ∧ FRel T w' σ sl' mu ∧ RepV T w' p v ∧ Q p sl' mu w' := by
  unfold getS at P
  split at P
  · rename_i p e
    obtain ⟨v, h1, h2⟩ := F.va i p e
    exact ⟨p, v, sl, w, h1, Ext.refl w, rfl, F, h2, P w (Ext.refl w) F⟩
  · rename_i p e
    obtain ⟨a, h1, h2, h3, h4⟩ := F.ow i p e
    -- the container is one's own no more
    let w' : Wd := { w with wr := fun b => w.wr b ∧ b ≠ a, mb := fun b => w.mb b ∧ b ≠ a }
    have ex : Ext w w' := ⟨fun _ _ h => h, fun _ _ h _ => h, fun _ h => h, fun _ h => .inl h.1, fun b h hn => ⟨h, fun z => hn (z ▸ h3)⟩, fun _ h => .inl h.1, rfl⟩
    have ok' : WOk w' := ⟨fun b h => ⟨F.wok.sub b h.1, h.2⟩, fun b h => F.wok.mtr b h.1⟩
    have hi : i < sl.length := (List.getElem?_eq_some_iff.mp e).1
    have crep : ∀ {b : Addr} {c : PV}, CRep T w b c → CRep T w' b c := fun {b c} h => h.ext_keep F.wok ex fun _ q => q
    have F' : FRel T w' σ (sl.set i (.va p)) mu := by
      refine ⟨ok', by rw [List.length_set]; exact F.len, fun j q hj => ?_, fun j q hj => ?_, fun j j' q q' b hj hj' s1 s2 => ?_, ⟨F.cel.mlen, fun n c b hc hm => ?_, F.cel.inj⟩, fun j c fs hj => ?_⟩
      · by_cases z : i = j
        · subst z
          rw [List.getElem?_set_self hi] at hj
          cases hj
          refine ⟨.ref a, h1, ?_⟩
          cases p with
          | lst l =>
            obtain ⟨xs, k1, k2⟩ := h2
            simp only [RepV]
            exact ⟨a, xs, rfl, k1, fun z => z.2 rfl, Reps.ext F.wok ex l xs k2⟩
          | _ => exact h2.elim
        · rw [List.getElem?_set_ne z] at hj
          obtain ⟨v, k1, k2⟩ := F.va j q hj
          exact ⟨v, k1, RepV.ext F.wok ex q v k2⟩
      · by_cases z : i = j
        · subst z
          rw [List.getElem?_set_self hi] at hj
          cases hj
        · rw [List.getElem?_set_ne z] at hj
          obtain ⟨b, k1, k2, k3, k4⟩ := F.ow j q hj
          exact ⟨b, k1, k2.ext_keep F.wok ex fun _ q => q, ⟨k3, fun y => z (F.ows i j p q a e hj h1 (y ▸ k1))⟩, k4⟩
      · by_cases z : i = j
        · subst z
          rw [List.getElem?_set_self hi] at hj
          cases hj
        · by_cases z' : i = j'
          · subst z'
            rw [List.getElem?_set_self hi] at hj'
            cases hj'
          · rw [List.getElem?_set_ne z] at hj
            rw [List.getElem?_set_ne z'] at hj'
            exact F.ows j j' q q' b hj hj' s1 s2
      · obtain ⟨k1, k2⟩ := F.cel.cl n c b hc hm
        exact ⟨crep k1, k2, fun y => h4 (y ▸ List.mem_of_getElem? hm)⟩
      · by_cases z : i = j
        · subst z
          rw [List.getElem?_set_self hi] at hj
          cases hj
        · rw [List.getElem?_set_ne z] at hj
          exact ex_ext F.wok ex (F.ex j c fs hj)
    refine ⟨p, .ref a, _, w', h1, ex, rfl, F', ?_, P w' ex F'⟩
    obtain ⟨v, k1, k2⟩ := F'.va i p (by rw [List.getElem?_set_self hi])
    rw [h1] at k1; cases k1
    exact k2
  · exact P.elim
end
end RA

/-! Soundness of the single constructs of expressions. -/
namespace RA
open PySem L2

section
variable {S : Gs} {C : Ck} {sc : Scope} {fb : Str → Bool} {X : Cx} {W : WX}
abbrev sE (S : Gs) (e : Ex) : List Sl → List PV → Res PV := ev S.G S.cf e
abbrev sA (S : Gs) (e : Exs) : List Sl → List PV → Res (List PV) := evs S.G S.cf e
abbrev sT (S : Gs) (e : Tt) : List Sl → List PV → Res Bool := evt S.G S.cf e
/-- what is shown of an expression -/
def SE (S : Gs) (W : WX) (X : Cx) (a : Ex) (e : Expr) : Prop := PE X e (tE S.T S.C W (sE S a))
def SA (S : Gs) (W : WX) (X : Cx) (a : Exs) (e : List Expr) : Prop := PA X e (tA S.T S.C W (sA S a))
def ST (S : Gs) (W : WX) (X : Cx) (a : Tt) (e : Expr) : Prop := PT X e (tT S.T S.C W (sT S a))

theorem here {T : Tb} {Cl : Nat → Value} {σ : St} {H : Hp} {Q : VK} {p : PV} {v : V} (h : tE T Cl W (fun s m => .ok p s m) σ H Q) (r : ∀ w, RepV T w p v) : Q v H := by
  obtain ⟨w, sl, mu, rfl, F, P⟩ := h
  exact P w (Ext.refl w) F v (r w)
theorem s_non {j pos} : SE S W X .non (.Constant .none j pos) := PE.imp pe_non fun σ H Q h => here h fun w => by simp only [RepV]
theorem s_bl {b j pos} : SE S W X (.bl b) (.Constant (.bool b) j pos) := PE.imp pe_bl fun σ H Q h => here h fun w => by simp only [RepV]
theorem s_int {i j pos} : SE S W X (.int i) (.Constant (.int i) j pos) := PE.imp pe_int fun σ H Q h => here h fun w => by simp only [RepV]
theorem s_str {x : List Nat} {y : Str} {j pos} (h : y.cps.toList = x) (hl : x.length ≤ SZ) : SE S W X (.str x) (.Constant (.str y) j pos) := PE.imp pe_str fun σ H Q h' => here h' fun w => by
  simp only [RepV]
  refine ⟨?_, hl⟩
  subst h
  simp
theorem s_loc (x0 : XOk S C sc fb X) {i : Nat} {x : Str} {pos : Pos} (hi : C.N[i]? = some x) (hv : vis sc x = true) (ho : okNm x = true) : SE S W X (.loc i) (.Name x pos) := by
  obtain ⟨h1, h2, _⟩ := okNm_of ho
  refine PE.imp (pe_var (by rw [x0.N]; exact hi) (vis_of x0 hv) h1 h2) fun σ H Q h => ?_
  obtain ⟨w, sl, mu, rfl, F, P⟩ := h
  obtain ⟨p, v, sl', w', k1, ex, eH, F', rv, q⟩ := getS_ok F P
  exact ⟨v, k1, eH ▸ q v rv⟩
theorem s_glo (x0 : XOk S C sc fb X) {g : Nat} {x : Str} {pos : Pos} (hi : C.gn[g]? = some x) (hv : glb sc x = true) (ho : okNm x = true) : SE S W X (.glo g) (.Name x pos) := by
  obtain ⟨h1, h2, _⟩ := okNm_of ho
  obtain ⟨u, v, p, k1, k2, k3, k4⟩ := x0.glob g x hi
  refine PE.imp (pe_glob (glb_of x0 hv) k1 k2 h1) fun σ H Q h => ?_
  obtain ⟨w, sl, mu, rfl, F, P⟩ := h
  have P : Pst S.T S.C W σ w (lift S.G[g]? sl mu) _ := P
  rw [k3] at P
  exact P w (Ext.refl w) F v (k4 w F.wok)
theorem s_op (x0 : XOk S C sc fb X) {o : O2} {a b : Ex} {x y : Expr} {pos : Pos} (ha : SE S W X a x) (hb : SE S W X b y) : SE S W X (.op o a b) (.BinOp x (opE o) y pos) := by
  refine PE.imp (pe_op (snd_op x0.hK o) ha hb) fun σ H Q h => ?_
  obtain ⟨w, sl, mu, hH, F, P⟩ := h
  have P : Pst S.T S.C W σ w ((sE S a sl mu).bnd fun p s m => (sE S b s m).bnd fun q s m => lift (op2 o p q) s m) (QE S.T Q) := P
  refine tE.bnd hH F P fun p v sl1 mu1 w1 e1 F1 rv P1 => ?_
  refine tE.bnd rfl F1 P1 fun q u sl2 mu2 w2 e2 F2 ru P2 => ?_
  obtain ⟨z, hz, h⟩ := P2.lift
  exact ⟨w2, σ, sl2, mu2, p, q, z, rfl, F2, RepV.ext F1.wok e2 p v rv, ru, hz, h⟩
theorem s_neg {a : Ex} {x : Expr} {pos : Pos} (ha : SE S W X a x) : SE S W X (.neg a) (.UnaryOp .USub x pos) := by
  refine PE.imp (pe_un un_neg ha) fun σ H Q h => ?_
  obtain ⟨w, sl, mu, hH, F, P⟩ := h
  refine tE.bnd hH F P fun p v sl1 mu1 w1 e1 F1 rv P1 => ?_
  obtain ⟨z, hz, h⟩ := P1.lift
  cases p <;> simp at hz
  subst hz
  simp only [RepV] at rv
  exact ⟨_, rv, h w1 (Ext.refl w1) F1 _ (by simp only [RepV])⟩
theorem s_and {a b : Ex} {x y z : Expr} {r : List Expr} {pos : Pos} (ha : SE S W X a x) (hb : SE S W X b z) (hz : (z = .BoolOp .And (y :: r) pos) ∨ (z = y ∧ r = [])) : SE S W X (.and a b) (.BoolOp .And (x :: y :: r) pos) := by
  have hb' : PE X (.BoolOp .And (y :: r) pos) (tE S.T S.C W (sE S b)) := by
    rcases hz with rfl | ⟨rfl, rfl⟩
    · exact hb
    · exact pe_one hb
  refine PE.imp (pe_and ha hb') fun σ H Q h => ?_
  obtain ⟨w, sl, mu, hH, F, P⟩ := h
  refine tE.bnd hH F P fun p v sl1 mu1 w1 e1 F1 rv P1 => ?_
  cases p with
  | bl c =>
    simp only [RepV] at rv
    refine ⟨c, rv, ?_⟩
    cases c with
    | true => exact ⟨w1, sl1, mu1, rfl, F1, P1⟩
    | false => exact P1 w1 (Ext.refl w1) F1 _ (by simp only [RepV])
  | _ => exact P1.elim
theorem s_or {a b : Ex} {x y z : Expr} {r : List Expr} {pos : Pos} (ha : SE S W X a x) (hb : SE S W X b z) (hz : (z = .BoolOp .Or (y :: r) pos) ∨ (z = y ∧ r = [])) : SE S W X (.or a b) (.BoolOp .Or (x :: y :: r) pos) := by
  have hb' : PE X (.BoolOp .Or (y :: r) pos) (tE S.T S.C W (sE S b)) := by
    rcases hz with rfl | ⟨rfl, rfl⟩
    · exact hb
    · exact pe_one hb
  refine PE.imp (pe_or ha hb') fun σ H Q h => ?_
  obtain ⟨w, sl, mu, hH, F, P⟩ := h
  refine tE.bnd hH F P fun p v sl1 mu1 w1 e1 F1 rv P1 => ?_
  cases p with
  | bl c =>
    simp only [RepV] at rv
    refine ⟨c, rv, ?_⟩
    cases c with
    | false => exact ⟨w1, sl1, mu1, rfl, F1, P1⟩
    | true => exact P1 w1 (Ext.refl w1) F1 _ (by simp only [RepV])
  | _ => exact P1.elim
theorem asBl_some {p : PV} {b : Bool} (h : asBl p = some b) : p = .bl b := by cases p <;> simp_all [asBl]
theorem s_nt {a : Ex} {x : Expr} {pos : Pos} (ha : SE S W X a x) : SE S W X (.nt a) (.UnaryOp .Not x pos) := by
  refine PE.imp (pe_not ha) fun σ H Q h => ?_
  obtain ⟨w, sl, mu, hH, F, P⟩ := h
  refine tE.bnd hH F P fun p v sl1 mu1 w1 e1 F1 rv P1 => ?_
  obtain ⟨z, hz, h⟩ := P1.lift
  simp only [Option.map_eq_some_iff] at hz
  obtain ⟨b, hb, rfl⟩ := hz
  obtain rfl := asBl_some hb
  simp only [RepV] at rv
  exact ⟨b, rv, h w1 (Ext.refl w1) F1 _ (by simp only [RepV])⟩
theorem r_cmp (x0 : XOk S C sc fb X) {o : C2} {a b : Ex} {x y : Expr} {pos : Pos} {σ : St} {H : Hp} {Q : VK} (h : tE S.T S.C W (sE S (.cmp o a b)) σ H Q) :
    tOp (rC2 S.T (cmp o)) (tE S.T S.C W (sE S a)) (tE S.T S.C W (sE S b)) σ H Q := by
  obtain ⟨w, sl, mu, hH, F, P⟩ := h
  refine tE.bnd hH F P fun p v sl1 mu1 w1 e1 F1 rv P1 => ?_
  refine tE.bnd rfl F1 P1 fun q u sl2 mu2 w2 e2 F2 ru P2 => ?_
  obtain ⟨z, hz, h⟩ := P2.lift
  exact ⟨w2, σ, sl2, mu2, p, q, z, rfl, F2, RepV.ext F1.wok e2 p v rv, ru, hz, h⟩
theorem s_cmp (x0 : XOk S C sc fb X) {o : C2} {a b : Ex} {x y : Expr} {pos : Pos} (ha : SE S W X a x) (hb : SE S W X b y) (hm : notSet y = true) : SE S W X (.cmp o a b) (.Compare x [cmE o] [y] pos) :=
  PE.imp (pe_cmpR (snd_cmp x0.hK x0.un o) ha hb (noMark hm _)) fun σ H Q h => r_cmp (x := x) (y := y) (pos := pos) x0 h
/-- a test's reading, of an expression that gives a bool -/
theorem test_of {a : Ex} {σ : St} {H : Hp} {Q : Bool → Hp → Prop} (h : tT S.T S.C W (sT S (.v a)) σ H Q) : tE S.T S.C W (sE S a) σ H fun x H' => ∃ k, x = .bl k ∧ Q k H' := by
  obtain ⟨w, sl, mu, hH, F, P⟩ := h
  refine tE.bnd hH F P fun p v sl1 mu1 w1 e1 F1 rv P1 => ?_
  obtain ⟨z, hz, h⟩ := P1.lift
  obtain rfl := asBl_some hz
  simp only [RepV] at rv
  exact ⟨z, rv, h w1 (Ext.refl w1) F1⟩
theorem t_cmp (x0 : XOk S C sc fb X) {o : C2} {a b : Ex} {x y : Expr} {pos : Pos} (ha : SE S W X a x) (hb : SE S W X b y) (hm : notSet y = true) : ST S W X (.v (.cmp o a b)) (.Compare x [cmE o] [y] pos) :=
  PT.imp (pt_cmpR (snd_cmp x0.hK x0.un o) ha hb (noMark hm _)) fun σ H Q h => r_cmp (x := x) (y := y) (pos := pos) x0 (test_of h)
theorem t_val {a : Ex} {e : Expr} (ha : SE S W X a e) (hp : plainT e = true) : ST S W X (.v a) e := PT.imp (pt_val ha (isTrue_of hp)) fun σ H Q h => test_of h
theorem r_chn {o o' : C2} {a b c : Ex} {σ : St} {H : Hp} {Q : VK} (h : tE S.T S.C W (sE S (.chn o o' a b c)) σ H Q) :
    tChain (rC2 S.T (cmp o)) (rC2 S.T (cmp o')) (tE S.T S.C W (sE S a)) (tE S.T S.C W (sE S b)) (tE S.T S.C W (sE S c)) σ H Q := by
  obtain ⟨w, sl, mu, hH, F, P⟩ := h
  refine tE.bnd hH F P fun p v sl1 mu1 w1 e1 F1 rv P1 => ?_
  refine tE.bnd rfl F1 P1 fun q u sl2 mu2 w2 e2 F2 ru P2 => ?_
  obtain ⟨k, hk, h⟩ := (P2.bnd F2.wok).lift
  refine ⟨w2, σ, sl2, mu2, p, q, .bl k, rfl, F2, RepV.ext F1.wok e2 p v rv, ru, by show (cmp o p q).map PV.bl = _; rw [hk]; rfl, fun w3 e3 F3 z rz => ?_⟩
  simp only [RepV] at rz
  refine ⟨k, rz, ?_⟩
  have P3 := h w3 e3 F3
  cases k with
  | false => exact P3 w3 (Ext.refl w3) F3 _ (by simp only [RepV])
  | true =>
    rw [if_pos rfl]
    refine tE.bnd rfl F3 P3 fun t y sl4 mu4 w4 e4 F4 ry P4 => ?_
    obtain ⟨z', hz', h'⟩ := P4.lift
    exact ⟨w4, σ, sl4, mu4, q, t, z', rfl, F4, RepV.ext F2.wok (e3.trans F2.wok e4) q u ru, ry, hz', h'⟩
theorem lastMark {x : List CmpOp} {p q : CmpOp} {y z : Expr} (h : notSet z = true) : lastMarks [p, q] [y, z] = false := noMark h q
theorem s_chn (x0 : XOk S C sc fb X) {o o' : C2} {a b c : Ex} {x y z : Expr} {pos : Pos} (ha : SE S W X a x) (hb : SE S W X b y) (hc : SE S W X c z) (hm : notSet z = true) : SE S W X (.chn o o' a b c) (.Compare x [cmE o, cmE o'] [y, z] pos) :=
  PE.imp (pe_chain (snd_cmp x0.hK x0.un o) (snd_cmp x0.hK x0.un o') ha hb hc (noMark hm _)) fun σ H Q h => r_chn h
theorem t_chn (x0 : XOk S C sc fb X) {o o' : C2} {a b c : Ex} {x y z : Expr} {pos : Pos} (ha : SE S W X a x) (hb : SE S W X b y) (hc : SE S W X c z) (hm : notSet z = true) : ST S W X (.v (.chn o o' a b c)) (.Compare x [cmE o, cmE o'] [y, z] pos) :=
  PT.imp (pt_chain (snd_cmp x0.hK x0.un o) (snd_cmp x0.hK x0.un o') ha hb hc (noMark hm _)) fun σ H Q h => r_chn (test_of h)
def isNonP : PV → Bool
  | .non => true
  | _ => false
theorem RepV.isNon {T : Tb} {w : Wd} {p : PV} {v : V} (h : RepV T w p v) : decide (v = .non) = isNonP p := by
  cases p <;> simp only [RepV] at h <;> first
    | (subst h; simp [isNonP]; done)
    | (obtain ⟨rfl, _⟩ := h; simp [isNonP]; done)
    | (obtain ⟨_, _, rfl, _⟩ := h; simp [isNonP]; done)
    | (obtain ⟨_, rfl, _⟩ := h; simp [isNonP]; done)
    | (obtain ⟨_, _, _, rfl, _⟩ := h; simp [isNonP]; done)
theorem r_isn {n : Bool} {a : Ex} {σ : St} {H : Hp} {Q : VK} (h : tE S.T S.C W (sE S (.isn n a)) σ H Q) : tE S.T S.C W (sE S a) σ H fun x H1 => Q (.bl (decide (x = .non) != n)) H1 := by
  obtain ⟨w, sl, mu, hH, F, P⟩ := h
  refine tE.bnd hH F P fun p v sl1 mu1 w1 e1 F1 rv P1 => ?_
  rw [rv.isNon]
  refine P1 w1 (Ext.refl w1) F1 _ ?_
  simp only [RepV]
  cases p <;> rfl
theorem c_isn {n : Bool} {a : Ex} {x : Expr} {j pos} (ha : SE S W X a x) : PC X (if n = true then .IsNot else .Is) x (.Constant .none j pos) (fun σ H Q => tE S.T S.C W (sE S (.isn n a)) σ H Q) := by
  cases n with
  | true => exact ⟨fun pins s σ H Q I h => (pc_notN ha).run pins s σ H Q I (by
      have h2 := r_isn h
      simp only [Bool.bne_true] at h2
      exact h2)⟩
  | false => exact ⟨fun pins s σ H Q I h => (pc_isN ha).run pins s σ H Q I (by
      have h2 := r_isn h
      simp only [Bool.bne_false] at h2
      exact h2)⟩
theorem nobeh {n : Bool} {j pos} : behindInMarks (if n = true then CmpOp.IsNot else .Is) (.Constant .none j pos) = false := by cases n <;> rfl
theorem s_isn {n : Bool} {a : Ex} {x : Expr} {j pos pos'} (ha : SE S W X a x) : SE S W X (.isn n a) (.Compare x [if n = true then .IsNot else .Is] [.Constant .none j pos] pos') := pe_cmp (c_isn ha) nobeh
theorem t_isn {n : Bool} {a : Ex} {x : Expr} {j pos pos'} (ha : SE S W X a x) : ST S W X (.v (.isn n a)) (.Compare x [if n = true then .IsNot else .Is] [.Constant .none j pos] pos') :=
  PT.imp (pt_cmp (c_isn ha) nobeh) fun σ H Q h => test_of h
theorem s_ife {t : Tt} {a b : Ex} {x y z : Expr} {pos : Pos} (ht : ST S W X t x) (ha : SE S W X a y) (hb : SE S W X b z) : SE S W X (.ife t a b) (.IfExp x y z pos) := by
  refine PE.imp (pe_ifExp ht ha hb) fun σ H Q h => ?_
  obtain ⟨w, sl, mu, hH, F, P⟩ := h
  refine tT.bnd hH F P fun c sl1 mu1 w1 e1 F1 P1 => ?_
  cases c with
  | true => exact ⟨w1, sl1, mu1, rfl, F1, P1⟩
  | false => exact ⟨w1, sl1, mu1, rfl, F1, P1⟩
theorem s_idx (x0 : XOk S C sc fb X) {a b : Ex} {x y : Expr} {pos : Pos} (ha : SE S W X a x) (hb : SE S W X b y) (hs : notSlice y = true) : SE S W X (.idx a b) (.Subscript x y pos) := by
  refine PE.imp (pe_ix (snd_idx x0.hK) ha hb (plainIx_of hs)) fun σ H Q h => ?_
  obtain ⟨w, sl, mu, hH, F, P⟩ := h
  refine tE.bnd hH F P fun p v sl1 mu1 w1 e1 F1 rv P1 => ?_
  refine tE.bnd rfl F1 P1 fun q u sl2 mu2 w2 e2 F2 ru P2 => ?_
  obtain ⟨z, hz, h⟩ := P2.lift
  exact ⟨w2, σ, sl2, mu2, p, q, z, rfl, F2, RepV.ext F1.wok e2 p v rv, ru, hz, h⟩
/-- bounds of a slice -/
def tO (T : Tb) (Cl : Nat → Value) (W : WX) (m : List Sl → List PV → Res (Option Int)) : TO := fun σ H Q => ∃ w sl mu, w.H = H ∧ FRel T w σ sl mu ∧ Pst T Cl W σ w (m sl mu) fun o _ _ w' => Q o w'.H
def SO (S : Gs) (W : WX) (X : Cx) (a : Oe) (e : Option Expr) : Prop := PO X e (tO S.T S.C W (evo S.G S.cf a))
theorem PO.imp {X : Cx} {e : Option Expr} {t t' : TO} (h : PO X e t) (f : ∀ σ H Q, t' σ H Q → t σ H Q) : PO X e t' := ⟨fun pins s σ H Q I q => h.run pins s σ H Q I (f σ H Q q)⟩
theorem tO.bnd {α : Type} {T : Tb} {Cl : Nat → Value} {σ : St} {H : Hp} {m : List Sl → List PV → Res (Option Int)} {f : Option Int → List Sl → List PV → Res α} {w : Wd} {sl : List Sl} {mu : List PV} {R : Option Int → Hp → Prop} {Q : α → List Sl → List PV → Wd → Prop}
    (hH : w.H = H) (F : FRel T w σ sl mu) (P : Pst T Cl W σ w ((m sl mu).bnd f) Q)
    (k : ∀ p sl1 mu1 w1, Ext w w1 → FRel T w1 σ sl1 mu1 → Pst T Cl W σ w1 (f p sl1 mu1) Q → R p w1.H) : tO T Cl W m σ H R :=
  ⟨w, sl, mu, hH, F, (P.bnd F.wok).mono fun p sl1 mu1 w1 e1 F1 P1 => k p sl1 mu1 w1 e1 F1 P1⟩
theorem o_no : SO S W X .no none := PO.imp po_none fun σ H Q h => by
  obtain ⟨w, sl, mu, rfl, F, P⟩ := h
  exact P w (Ext.refl w) F
theorem o_so {a : Ex} {e : Expr} (ha : SE S W X a e) : SO S W X (.so a) (some e) := PO.imp (po_some ha) fun σ H Q h => by
  obtain ⟨w, sl, mu, hH, F, P⟩ := h
  refine tE.bnd hH F P fun p v sl1 mu1 w1 e1 F1 rv P1 => ?_
  obtain ⟨z, hz, h⟩ := P1.lift
  cases p <;> simp at hz
  subst hz
  simp only [RepV] at rv
  exact ⟨_, rv, h w1 (Ext.refl w1) F1⟩
theorem s_sli (x0 : XOk S C sc fb X) {a : Ex} {lo hi : Oe} {x : Expr} {l u : Option Expr} {p2 pos : Pos} (ha : SE S W X a x) (hl : SO S W X lo l) (hu : SO S W X hi u) : SE S W X (.sli a lo hi) (.Subscript x (.Slice l u none p2) pos) := by
  refine PE.imp (pe_slice (snd_sli x0.hK) ha hl hu) fun σ H Q h => ?_
  obtain ⟨w, sl, mu, hH, F, P⟩ := h
  refine tE.bnd hH F P fun p v sl1 mu1 w1 e1 F1 rv P1 => ?_
  refine tO.bnd rfl F1 P1 fun o1 sl2 mu2 w2 e2 F2 P2 => ?_
  refine tO.bnd rfl F2 P2 fun o2 sl3 mu3 w3 e3 F3 P3 => ?_
  obtain ⟨z, hz, h⟩ := P3.lift
  exact ⟨w3, σ, sl3, mu3, p, z, rfl, F3, RepV.ext F1.wok (e2.trans F1.wok e3) p v rv, hz, h⟩

/-! ### lists of expressions, displays -/
theorem a_nil : SA S W X .nil [] := PA.imp pa_nil fun σ H Q h => by
  obtain ⟨w, sl, mu, rfl, F, P⟩ := h
  exact P w (Ext.refl w) F [] (by simp only [Reps])
theorem a_cons {a : Ex} {as : Exs} {e : Expr} {es : List Expr} (ha : SE S W X a e) (hr : SA S W X as es) (hs : notStar e = true) : SA S W X (.cons a as) (e :: es) := by
  refine PA.imp (pa_cons ha hr (star_cons hs)) fun σ H Q h => ?_
  obtain ⟨w, sl, mu, hH, F, P⟩ := h
  refine tE.bnd hH F P fun p v sl1 mu1 w1 e1 F1 rv P1 => ?_
  refine tA.bnd rfl F1 P1 fun ps vs sl2 mu2 w2 e2 F2 rvs P2 => ?_
  exact P2 w2 (Ext.refl w2) F2 _ (by simp only [Reps]; exact ⟨_, _, rfl, RepV.ext F1.wok e2 p v rv, rvs⟩)
theorem evs_len {G : List PV} {cf : Nat → List PV → List PV → CR} : ∀ (as : Exs) (sl : List Sl) (mu : List PV) {ps : List PV} {sl' : List Sl} {mu' : List PV} {es : List Expr}, ckEs C sc fb as es = true → evs G cf as sl mu = .ok ps sl' mu' → ps.length = es.length
  | .nil, sl, mu, ps, sl', mu', es, hk, h => by
    simp only [evs, Res.ok.injEq] at h
    simp only [ckEs, List.isEmpty_iff] at hk
    rw [← h.1, hk]; rfl
  | .cons a as, sl, mu, ps, sl', mu', es, hk, h => by
    cases es with
    | nil => simp [ckEs] at hk
    | cons e es =>
      simp only [ckEs, Bool.and_eq_true] at hk
      simp only [evs] at h
      cases q : ev G cf a sl mu with
      | stk => rw [q] at h; simp [Res.bnd] at h
      | exc _ _ _ => rw [q] at h; simp [Res.bnd] at h
      | ok p s1 m1 =>
        rw [q] at h
        simp only [Res.bnd] at h
        cases q2 : evs G cf as s1 m1 with
        | stk => rw [q2] at h; simp at h
        | exc _ _ _ => rw [q2] at h; simp at h
        | ok l s2 m2 =>
          rw [q2] at h
          simp only [Res.ok.injEq] at h
          rw [← h.1, List.length_cons, List.length_cons, evs_len as s1 m1 hk.2 q2]
theorem Pst.mono_ok {α : Type} {T : Tb} {Cl : Nat → Value} {σ : St} {w : Wd} {r : Res α} {Q Q' : α → List Sl → List PV → Wd → Prop} (h : Pst T Cl W σ w r Q) (f : ∀ a sl mu w', r = .ok a sl mu → Ext w w' → FRel T w' σ sl mu → Q a sl mu w' → Q' a sl mu w') : Pst T Cl W σ w r Q' := by
  cases r with
  | stk => exact h
  | ok a sl mu => exact fun w' e F => f a sl mu w' rfl e F (h w' e F)
  | exc x sl mu => exact h
theorem s_tup {as : Exs} {es : List Expr} {k pos} (ha : SA S W X as es) (hk : ckEs C sc fb as es = true) (hl : es.length ≤ 1000) : SE S W X (.tup as) (.Tuple es k pos) := by
  refine PE.imp (pe_tupP ha) fun σ H Q h => ?_
  obtain ⟨w, sl, mu, hH, F, P⟩ := h
  refine ⟨w, sl, mu, hH, F, (Pst.bnd F.wok (f := fun l s m => .ok (PV.tup l) s m) P).mono_ok fun l s m w' e ex F' P' vs rv => ?_⟩
  have hlen := evs_len as sl mu hk e
  refine ⟨by rw [← rv.len, hlen, sizeLine_eq]; omega, fun p O hp hO => P2.tup F' P' rv hp hO⟩
theorem s_lst {as : Exs} {es : List Expr} {pos} (ha : SA S W X as es) (hk : ckEs C sc fb as es = true) (hl : es.length ≤ 1000) : SE S W X (.lst as) (.List es pos) := by
  refine PE.imp (pe_lst ha) fun σ H Q h => ?_
  obtain ⟨w, sl, mu, hH, F, P⟩ := h
  refine ⟨w, sl, mu, hH, F, (Pst.bnd F.wok (f := fun l s m => .ok (PV.lst l) s m) P).mono_ok fun l s m w' e ex F' P' vs rv => ?_⟩
  have hlen := evs_len as sl mu hk e
  refine ⟨by rw [← rv.len, hlen, sizeLine_eq]; omega, fun p hp => P2.lst F' P' rv hp⟩
end
end RA

/-! Soundness: calls. -/
namespace RA
open PySem L2

/-- the same heap, cells and locks: what may be written here does not matter -/
def Wd.wrs (w : Wd) (f : Addr → Prop) : Wd := { w with wr := f }
section
variable {T : Tb}
mutual
theorem RepV.wrs {w : Wd} {f : Addr → Prop} : ∀ (p : PV) (v : V), RepV T w p v → RepV T (w.wrs f) p v
  | .non, _, h => h
  | .bl _, _, h => h
  | .int _, _, h => h
  | .str _, _, h => h
  | .tup l, v, h => by
    simp only [RepV] at h ⊢
    obtain ⟨a, xs, h1, h2, h3⟩ := h
    exact ⟨a, xs, h1, h2, Reps.wrs l xs h3⟩
  | .lst l, v, h => by
    simp only [RepV] at h ⊢
    obtain ⟨a, xs, h1, h2, h3, h4⟩ := h
    exact ⟨a, xs, h1, h2, h3, Reps.wrs l xs h4⟩
  | .fro l, v, h => h
  | .ref n, v, h => h
  | .exc c fs, v, h => by
    simp only [RepV] at h ⊢
    obtain ⟨a, d, vs, h1, h2, h3, h4, h5, h6, h7⟩ := h
    exact ⟨a, d, vs, h1, h2, h3, h4, h5, h6, Reps.wrs fs vs h7⟩
  | .dic ks vs, v, h => by
    simp only [RepV] at h ⊢
    obtain ⟨a, kvs, h1, h2, h3, h4, h5⟩ := h
    exact ⟨a, kvs, h1, h2, h3, Reps.wrs ks _ h4, Reps.wrs vs _ h5⟩
  | .fn _, _, h => by simp only [RepV] at h ⊢; exact h
  | .cl _, _, h => by simp only [RepV] at h
  | .obj _ _, _, h => by simp only [RepV] at h
theorem Reps.wrs {w : Wd} {f : Addr → Prop} : ∀ (ps : List PV) (vs : List V), Reps T w ps vs → Reps T (w.wrs f) ps vs
  | [], _, h => h
  | p :: ps, vs, h => by
    simp only [Reps] at h ⊢
    obtain ⟨v, r, h1, h2, h3⟩ := h
    exact ⟨v, r, h1, RepV.wrs p v h2, Reps.wrs ps r h3⟩
end
theorem CRep.wrs {w : Wd} {f : Addr → Prop} {a : Addr} {c : PV} (h : CRep T w a c) : CRep T (w.wrs f) a c := by
  cases c with
  | lst l =>
    obtain ⟨xs, h1, h2⟩ := h
    exact ⟨xs, h1, Reps.wrs l xs h2⟩
  | obj c fs =>
    obtain ⟨dx, vs, h1, h2, h3⟩ := h
    exact ⟨dx, vs, h1, h2, Reps.wrs fs vs h3⟩
  | _ => exact h.elim
variable {w1 w' : Wd} {σ : St} {sl : List Sl} {mu1 mu' : List PV}
theorem FRel.cellOf (F : FRel T w1 σ sl mu1) {a : Addr} (h : a ∈ w1.m) : w1.wr a := by
  obtain ⟨n, hn, e⟩ := List.getElem_of_mem h
  have e1 : w1.m[n]? = some a := by rw [List.getElem?_eq_getElem hn, e]
  have hn' : n < mu1.length := by rw [← F.cel.mlen]; exact hn
  exact (F.cel.cl n mu1[n] a (List.getElem?_eq_getElem hn') e1).2
theorem CRel.cellOf (F : CRel T w1 mu1) {a : Addr} (h : a ∈ w1.m) : w1.wr a := by
  obtain ⟨n, hn, e⟩ := List.getElem_of_mem h
  have e1 : w1.m[n]? = some a := by rw [List.getElem?_eq_getElem hn, e]
  have hn' : n < mu1.length := by rw [← F.mlen]; exact hn
  exact (F.cl n mu1[n] a (List.getElem?_eq_getElem hn') e1).2
/-- the world of a callee at its entry -/
theorem call_in (F : FRel T w1 σ sl mu1) : WOk (w1.wrs (· ∈ w1.m)) ∧ CRel T (w1.wrs (· ∈ w1.m)) mu1 :=
  ⟨⟨fun a h => F.wok.sub a (F.cellOf h), F.wok.mtr⟩, F.cel.mlen, fun n c a h1 h2 => ⟨(F.cel.cl n c a h1 h2).1.wrs, List.mem_of_getElem? h2⟩, F.cel.inj⟩
/-- .. and behind it -/
theorem call_out (F : FRel T w1 σ sl mu1) (ex : Ext (w1.wrs (· ∈ w1.m)) w') (ok : WOk w') (cr : CRel T w' mu') :
    Ext w1 (w'.wrs fun a => w1.wr a ∨ w'.wr a) ∧ FRel T (w'.wrs fun a => w1.wr a ∨ w'.wr a) σ sl mu' := by
  have cell' : ∀ a, a ∈ w1.m → w'.wr a := fun a h => by
    obtain ⟨n, hn, e⟩ := List.getElem_of_mem h
    exact cr.cellOf (List.mem_of_getElem? (ex.pre n a (by show w1.m[n]? = _; rw [List.getElem?_eq_getElem hn, e])))
  have e2 : Ext w1 (w'.wrs fun a => w1.wr a ∨ w'.wr a) := by
    refine ⟨ex.pre, fun a o h hw => ex.keep a o h fun z => hw (F.cellOf z), ex.trk, ex.mt, fun a h hw => ex.mkp a h fun z => hw (F.cellOf z), fun a h => ?_, ex.xs⟩
    rcases h with h | h
    · exact .inl h
    · rcases ex.ws a h with z | z
      · exact .inl (F.cellOf z)
      · exact .inr z
  have ok2 : WOk (w'.wrs fun a => w1.wr a ∨ w'.wr a) := by
    refine ⟨fun a h => ?_, ok.mtr⟩
    rcases h with h | h
    · by_cases z : a ∈ w1.m
      · exact ok.sub a (cell' a z)
      · exact ex.mkp a (F.wok.sub a h) z
    · exact ok.sub a h
  refine ⟨e2, ok2, F.len, fun i p h => ?_, fun i p h => ?_, F.ows, ⟨cr.mlen, fun n c a h1 h2 => ?_, cr.inj⟩, fun i c fs h => ex_ext F.wok e2 (F.ex i c fs h)⟩
  · obtain ⟨v, k1, k2⟩ := F.va i p h
    exact ⟨v, k1, RepV.ext F.wok e2 p v k2⟩
  · obtain ⟨a, k1, k2, k3, k4⟩ := F.ow i p h
    refine ⟨a, k1, k2.ext_keep F.wok e2 fun o q => ex.keep a o q k4, .inl k3, fun z => ?_⟩
    have z' : w'.wr a := cr.cellOf z
    rcases ex.ws a z' with y | y
    · exact k4 y
    · exact F.wok.mtr a (F.wok.sub a k3) y
  · obtain ⟨k1, k2⟩ := cr.cl n c a h1 h2
    exact ⟨k1.wrs, .inr k2⟩
end

section
variable {S : Gs} {C : Ck} {sc : Scope} {fb : Str → Bool} {X : Cx} {W : WX}
theorem pe_call0S {CX : CXT} {k : Nat} {f : Addr} {fd : FuncData} {ps : List Str} {sp : Sp} {ds : List Value} {dvs : List V} {E : St → XK} {x : Str} {p pos : Pos}
    (F : FnOk X.prog X.w X.K X.mg X.base CX k f fd ps sp) (hr : Room k X.A) (hg : Gl X x) (hm : X.mg x = some (.ref f)) (hk : PySem.W.keepIn X.K (.ref f) = true) (hb : Binds X.K fd ps ds) (hd : Vals dvs ds) (hx : ∀ σ, PassesAt CX X σ (E σ))
    (hdb : (x == ("__debug__" : Str)) = false) : PE X (.Call (.Name x p) [] [] pos) (tCallSD sp dvs E tNil) := by
  refine ⟨fun pins s σ H Q I h => ?_⟩
  refine wpAny_Call_Name_kw (ld_glob I hg hm ?_ hdb)
  exact PySem.W.callWith_K0 I.kIn hk (run_fnSD (us := []) F hr hb hd (hx σ) I .nil h)
theorem call_wish {f : Nat} {as : Exs} {σ : St} {H : Hp} {Q : VK} (h : tE S.T S.C W (sE S (.call f as)) σ H Q) : tCallSD (spF S f) [] (WE W) (tA S.T S.C W (sA S as)) σ H Q := by
  obtain ⟨w, sl, mu, hH, F, P⟩ := h
  refine tA.bnd hH F P fun ps vs sl1 mu1 w1 e1 F1 rv P1 => ?_
  obtain ⟨i1, i2⟩ := call_in F1
  refine ⟨w1.wrs (· ∈ w1.m), ps, mu1, rfl, i1, i2, fun a h => h, by rw [List.append_nil]; exact Reps.wrs ps vs rv, ?_⟩
  have P1 : Pst S.T S.C W σ w1 (match S.cf f ps mu1 with | .stk => .stk | .ok p m => .ok p sl1 m | .exc e m => .exc e sl1 m) (QE S.T Q) := P1
  generalize S.cf f ps mu1 = r at P1 ⊢
  cases r with
  | stk => exact P1
  | ok p mu' =>
    intro v w' ex ok cr rv
    obtain ⟨o1, o2⟩ := call_out F1 ex ok cr
    exact P1 _ o1 o2 v (RepV.wrs p v rv)
  | exc e mu' =>
    intro cls d w' ex ok cr rx
    obtain ⟨o1, o2⟩ := call_out F1 ex ok cr
    refine P1 cls d (w'.wrs fun a => w1.wr a ∨ w'.wr a) o1 o2 ?_
    obtain ⟨c, fs, d', vs, r1, r0, r2, r3, r4, r5, r6, r7⟩ := rx
    exact ⟨c, fs, d', vs, r1, r0, r2, r3, r4, r5, r6, Reps.wrs fs vs r7⟩
theorem s_call (x0 : XOk S C sc fb X) (hc : C.hot = false) (tk : L2N.Takes X W) {f : Nat} {x : Str} {as : Exs} {es : List Expr} {p pos : Pos} (hi : C.fnm[f]? = some (some x)) (hv : glb sc x = true) (ho : okNm x = true) (ha : SA S W X as es) (hk : ckEs C sc fb as es = true) :
    SE S W X (.call f as) (.Call (.Name x p) es [] pos) := by
  obtain ⟨h1, _, _⟩ := okNm_of ho
  obtain ⟨a, k1, g1⟩ := x0.fa f x hi
  obtain ⟨fd, ps, l, kl, k2, k3, k4⟩ := (x0.fns hc f a g1).ex
  have hr : Room l X.A := (x0.room hc).mono (by omega)
  cases es with
  | nil =>
    refine PE.imp (pe_call0S k4 hr (glb_of x0 hv) k1 k2 k3 .nil (fun σ => L2N.passAt tk σ) h1) fun σ H Q h => ?_
    have h2 := call_wish h
    cases as with
    | nil =>
      obtain ⟨w, sl, mu, rfl, F, P⟩ := h2
      exact P w (Ext.refl w) F [] (by simp only [Reps])
    | cons _ _ => simp [ckEs] at hk
  | cons e es =>
    have hs := notStar_all hk
    exact PE.imp (pe_callSD k4 hr (glb_of x0 hv) k1 k2 k3 .nil (fun σ => L2N.passAt tk σ) ha h1 (star_cons (hs e List.mem_cons_self)) (back_any fun y hy => hs y (List.mem_cons_of_mem _ hy))) fun σ H Q h => call_wish h

/-- a call where an exception is handled -/
theorem s_callH (x0 : XOk S C sc fb X) (hc : C.hot = true) (tk : L2N.Takes X W) {f : Nat} {x : Str} {as : Exs} {e : Expr} {es : List Expr} {p pos : Pos} (hf : C.hf.contains f = true) (hi : C.fnm[f]? = some (some x)) (hv : glb sc x = true) (ho : okNm x = true) (ha : SA S W X as (e :: es)) (hk : ckEs C sc fb as (e :: es) = true) :
    SE S W X (.call f as) (.Call (.Name x p) (e :: es) [] pos) := by
  obtain ⟨h1, _, _⟩ := okNm_of ho
  obtain ⟨a, k1, g1⟩ := x0.fa f x hi
  obtain ⟨fd, ps, l, kl, k2, k3, k4⟩ := (x0.fnsH f a hf g1).ex
  have hr : L2H.RoomH l X.A := x0.roomH.mono (by omega)
  have hs := notStar_all hk
  exact PE.imp (L2H.pe_callH k4 hr (x0.hotc hc) (glb_of x0 hv) k1 k2 k3 (fun σ => L2N.passAt tk σ) ha h1 (star_cons (hs e List.mem_cons_self)) (back_any fun y hy => hs y (List.mem_cons_of_mem _ hy))) fun σ H Q h => by
    have h2 := call_wish h
    simp only [tCallSD, List.append_nil] at h2
    exact h2
/-! ### built-ins by name -/
theorem isName_of {n : Str} {e : Expr} (h : isName sc n e = true) : ∃ p, e = .Name n p ∧ glb sc n = true := by
  cases e with
  | Name x p =>
    simp only [isName, Bool.and_eq_true, beq_iff_eq] at h
    exact ⟨p, by rw [h.1], h.2⟩
  | _ => simp [isName] at h
theorem biN_mem (b : Bi) : biN b ∈ bNames := by cases b <;> decide +kernel
theorem biN_boot (b : Bi) : bootBuiltins (biN b) = some (biT b) := by cases b <;> decide +kernel
theorem biN_nm (b : Bi) : (biN b == ("__debug__" : Str)) = false ∧ biN b ≠ ("__name__" : Str) := by cases b <;> decide +kernel
theorem pe_bi {b : Bi} {r : List V → Hp → VK → Prop} {e : Expr} {es : List Expr} {t : TA} {p pos : Pos} (x0 : XOk S C sc fb X) (hc : CallR X (biT b) r) (hv : glb sc (biN b) = true) (ha : PA X (e :: es) t) (hs : ∀ x ∈ e :: es, notStar x = true) :
    PE X (.Call (.Name (biN b) p) (e :: es) [] pos) (tCB r t) := by
  obtain ⟨n1, n2⟩ := biN_nm b
  have hst : starEach (e :: es) X.env = (false, eval e X.env) :: starEach es X.env := star_cons (hs e List.mem_cons_self)
  have hpl : (backTo pos (starEach es X.env)).any (·.1) = false := back_any fun y hy => hs y (List.mem_cons_of_mem _ hy)
  have hm := x0.blt _ (biN_mem b)
  have hB := biN_boot b
  cases b with
  | lsth => exact pe_callTy hc (glb_of x0 hv) hm hB ha n2 n1 hst hpl
  | list => exact pe_callTy hc (glb_of x0 hv) hm hB ha n2 n1 hst hpl
  | tuple => exact pe_callTy hc (glb_of x0 hv) hm hB ha n2 n1 hst hpl
  | str => exact pe_callTy hc (glb_of x0 hv) hm hB ha n2 n1 hst hpl
  | int => exact pe_callTy hc (glb_of x0 hv) hm hB ha n2 n1 hst hpl
  | len => exact pe_callB hc (glb_of x0 hv) hm hB ha n2 n1 hst hpl
  | all => exact pe_callB hc (glb_of x0 hv) hm hB ha n2 n1 hst hpl
  | any => exact pe_callB hc (glb_of x0 hv) hm hB ha n2 n1 hst hpl
  | sum1 => exact pe_callB hc (glb_of x0 hv) hm hB ha n2 n1 hst hpl
  | sum2 => exact pe_callB hc (glb_of x0 hv) hm hB ha n2 n1 hst hpl
  | min => exact pe_callB hc (glb_of x0 hv) hm hB ha n2 n1 hst hpl
  | max => exact pe_callB hc (glb_of x0 hv) hm hB ha n2 n1 hst hpl
  | abs => exact pe_callB hc (glb_of x0 hv) hm hB ha n2 n1 hst hpl
theorem s_bi (x0 : XOk S C sc fb X) {b : Bi} {as : Exs} {e : Expr} {es : List Expr} {p pos : Pos} (hc : CallR X (biT b) (rPs S.T (bi b))) (hv : glb sc (biN b) = true) (ha : SA S W X as (e :: es)) (hk : ckEs C sc fb as (e :: es) = true) :
    SE S W X (.bi b as) (.Call (.Name (biN b) p) (e :: es) [] pos) := by
  refine PE.imp (pe_bi x0 hc hv ha (notStar_all hk)) fun σ H Q h => ?_
  obtain ⟨w, sl, mu, hH, F, P⟩ := h
  refine tA.bnd hH F P fun ps vs sl1 mu1 w1 e1 F1 rv P1 => ?_
  obtain ⟨z, hz, h⟩ := P1.lift
  exact ⟨w1, σ, sl1, mu1, ps, z, rfl, F1, rv, hz, h⟩
theorem tyN_boot (t : Ty) : bootBuiltins (tyS t) = some (.type (tyN t)) := by cases t <;> decide +kernel
theorem tyS_mem (t : Ty) : tyS t ∈ bNames := by cases t <;> decide +kernel
theorem tyS_nm (t : Ty) : (tyS t == ("__debug__" : Str)) = false ∧ tyS t ≠ ("__name__" : Str) := by cases t <;> decide +kernel
theorem s_isi (x0 : XOk S C sc fb X) {t : Ty} {a : Ex} {x : Expr} {p p2 pos : Pos} (ha : SE S W X a x) (h1 : glb sc "isinstance" = true) (h2 : glb sc (tyS t) = true) (hs : notStar x = true) :
    SE S W X (.isi t a) (.Call (.Name "isinstance" p) [x, .Name (tyS t) p2] [] pos) := by
  obtain ⟨n1, n2⟩ := tyS_nm t
  have hty : PE X (.Name (tyS t) p2) (tC (.ty (tyN t))) := pe_bltn (glb_of x0 h2) (x0.blt _ (tyS_mem t)) (tyN_boot t) rfl n2 n1
  refine PE.imp (pe_callB (snd_isi x0.hK t) (glb_of x0 h1) (x0.blt _ (by decide +kernel)) PyProof.Rows.boot_isinstance (pa_cons ha (pa_cons hty pa_nil) (star_cons hs)) (by decide) (by decide) (star_cons hs) (by rfl)) fun σ H Q h => ?_
  obtain ⟨w, sl, mu, hH, F, P⟩ := h
  refine tE.bnd hH F P fun q v sl1 mu1 w1 e1 F1 rv P1 => ?_
  by_cases hd : isD q = true
  · rw [if_pos hd] at P1
    exact ⟨w1, σ, sl1, mu1, q, v, rfl, F1, rfl, rv, hd, P1 w1 (Ext.refl w1) F1 _ (by simp only [RepV])⟩
  · rw [if_neg hd] at P1
    exact P1.elim

/-! ### methods of texts -/
theorem s_join (x0 : XOk S C sc fb X) {a : Ex} {as : Exs} {o e : Expr} {es : List Expr} {ap cp : Pos} (ha : SE S W X a o) (hb : SA S W X as (e :: es)) (hk : ckEs C sc fb as (e :: es) = true) (hsu : notSuper o = true) (hl : es.length ≤ 5) (hline : (ap.endLine == cp.line) = true) :
    SE S W X (.mt .join a as) (.Call (.Attribute o "join" ap) (e :: es) [] cp) := by
  have hs := notStar_all hk
  refine PE.imp (pe_bm PySem.F.plainAttrs_str PySem.F.slot_str_join PySem.F.type_str_join (snd_join x0.hK) ha hb (attr_of hsu) ?_ hline (star_cons (hs e List.mem_cons_self)) (back_any fun y hy => hs y (List.mem_cons_of_mem _ hy))) fun σ H Q h => ?_
  · rw [back_all hs]
    have : decide ((e :: es).length + ([] : List Keyword).length + (if ([] : List Keyword).isEmpty then 0 else 1) < 30) = true := decide_eq_true (by simp only [List.length_cons, List.length_nil, List.isEmpty_nil, if_true]; omega)
    rw [this]
    rfl
  · obtain ⟨w, sl, mu, hH, F, P⟩ := h
    refine tE.bnd hH F P fun p v sl1 mu1 w1 e1 F1 rv P1 => ?_
    by_cases hr : recv .join p = true
    · rw [if_pos hr] at P1
      cases p <;> simp [recv] at hr
      have rv' := rv
      simp only [RepV] at rv'
      obtain ⟨rfl, hz⟩ := rv'
      refine ⟨rfl, tA.bnd rfl F1 P1 fun ps vs sl2 mu2 w2 e2 F2 rvs P2 => ?_⟩
      obtain ⟨z', hz', h⟩ := P2.lift
      exact ⟨w2, σ, sl2, mu2, _, ps, z', rfl, F2, RepV.ext F1.wok e2 _ _ rv, rvs, hz', h⟩
    · rw [if_neg hr] at P1
      exact P1.elim
end
end RA

/-! Soundness: targets, what is walked. -/
namespace RA
open PySem L2

/-! ### targets -/
theorem wipe_in {σ : L2.St} {i : Nat} : ∀ {vs : List Nat}, i ∈ vs → i < σ.length → (L2.wipe σ vs)[i]? = some none
  | [], h, _ => by cases h
  | v :: vs, h, hl => by
    unfold L2.wipe
    by_cases e : v = i
    · subst e
      rw [List.getElem?_set_self (by rw [wipe_length]; exact hl)]
    · rw [List.getElem?_set_ne e]
      exact wipe_in ((List.mem_cons.mp h).elim (fun z => absurd z.symm e) id) hl
theorem wipe_set_in {σ : L2.St} {i : Nat} {v : Option V} {vs : List Nat} (h : i ∈ vs) : L2.wipe (σ.set i v) vs = L2.wipe σ vs := by
  refine List.ext_getElem? fun j => ?_
  by_cases hj : j ∈ vs
  · by_cases hl : j < σ.length
    · rw [wipe_in hj hl, wipe_in hj (by rw [List.length_set]; exact hl)]
    · rw [List.getElem?_eq_none (by rw [wipe_length, List.length_set]; omega), List.getElem?_eq_none (by rw [wipe_length]; omega)]
  · rw [wipe_out hj, wipe_out hj, List.getElem?_set_ne (by intro e; subst e; exact hj h)]
theorem FRel.set {T : Tb} {w : Wd} {σ : L2.St} {sl : List Sl} {mu : List PV} {p : PV} {v : V} (i : Nat) (F : FRel T w σ sl mu) (r : RepV T w p v) : FRel T w (σ.set i (some v)) (setS sl i p) mu := by
  have hl := F.len
  refine ⟨F.wok, by simp [setS, hl], fun j q hj => ?_, fun j q hj => ?_, fun j j' q q' a hj hj' s1 s2 => ?_, F.cel, fun j c fs hj => ?_⟩
  · unfold setS at hj
    by_cases e : i = j
    · subst e
      by_cases z : i < sl.length
      · rw [List.getElem?_set_self z] at hj
        cases hj
        exact ⟨v, by rw [List.getElem?_set_self (by omega)], r⟩
      · rw [List.getElem?_eq_none (by simp; omega)] at hj; cases hj
    · rw [List.getElem?_set_ne e] at hj
      rw [List.getElem?_set_ne e]
      exact F.va j q hj
  · unfold setS at hj
    by_cases e : i = j
    · subst e
      by_cases z : i < sl.length
      · rw [List.getElem?_set_self z] at hj
        cases hj
      · rw [List.getElem?_eq_none (by simp; omega)] at hj; cases hj
    · rw [List.getElem?_set_ne e] at hj
      rw [List.getElem?_set_ne e]
      exact F.ow j q hj
  · unfold setS at hj hj'
    have ne : ∀ {k : Nat} {q : PV}, (sl.set i (.va p))[k]? = some (.ow q) → i ≠ k := fun {k q} h e => by
      subst e
      by_cases z : i < sl.length
      · rw [List.getElem?_set_self z] at h
        cases h
      · rw [List.getElem?_eq_none (by simp; omega)] at h; cases h
    have n1 := ne hj
    have n2 := ne hj'
    rw [List.getElem?_set_ne n1] at hj s1
    rw [List.getElem?_set_ne n2] at hj' s2
    exact F.ows j j' q q' a hj hj' s1 s2
  · unfold setS at hj
    by_cases e : i = j
    · subst e
      by_cases z : i < sl.length
      · rw [List.getElem?_set_self z] at hj
        cases hj
      · rw [List.getElem?_eq_none (by simp; omega)] at hj; cases hj
    · rw [List.getElem?_set_ne e] at hj
      rw [List.getElem?_set_ne e]
      exact F.ex j c fs hj
def tG (T : Tb) (tg : Tg) : TG := fun x σ H R => ∃ w sl mu p s', w.H = H ∧ FRel T w σ sl mu ∧ RepV T w p x ∧ asg tg p sl = some s' ∧ ∀ σ', FRel T w σ' s' mu → (∀ vs : List Nat, (∀ i ∈ tg.sl, i ∈ vs) → L2.wipe σ' vs = L2.wipe σ vs) → R σ' H
theorem PG.imp {X : Cx} {e : Expr} {t t' : TG} (h : PG X e t) (f : ∀ v σ H Q, t' v σ H Q → t v σ H Q) : PG X e t' := ⟨fun pins s σ H v u Q I r q => h.run pins s σ H v u Q I r (f v σ H Q q)⟩
theorem asg_cons {e : Expr} {es : List Expr} {env : Env} (h : notStar e = true) : assignEach (e :: es) env = (false, assign e env) :: assignEach es env := by
  cases e <;> first | rfl | (simp [notStar] at h)
def tGs (T : Tb) (ts : Tgs) : TGs := fun xs σ H R => ∃ w sl mu l s', w.H = H ∧ FRel T w σ sl mu ∧ Reps T w l xs ∧ asgs ts l sl = some s' ∧ ∀ σ', FRel T w σ' s' mu → (∀ vs : List Nat, (∀ i ∈ ts.sls, i ∈ vs) → L2.wipe σ' vs = L2.wipe σ vs) → R σ' H
theorem PGs.imp {X : Cx} {e : List Expr} {t t' : TGs} (h : PGs X e t) (f : ∀ v σ H Q, t' v σ H Q → t v σ H Q) : PGs X e t' := ⟨fun pins s σ H v u Q I r q => h.run pins s σ H v u Q I r (f v σ H Q q)⟩
def Tgs.len : Tgs → Nat
  | .nil => 0
  | .cons _ ts => ts.len + 1
theorem asgs_len : ∀ {ts : Tgs} {l : List PV} {s s' : List Sl}, asgs ts l s = some s' → l.length = ts.len
  | .nil, l, s, s', h => by
    unfold asgs at h
    split at h
    · rfl
    · cases h
  | .cons t ts, l, s, s', h => by
    unfold asgs at h
    split at h
    · simp only [Option.bind_eq_some_iff] at h
      obtain ⟨s1, _, h2⟩ := h
      rw [List.length_cons, asgs_len h2]; rfl
    · cases h
section
variable {S : Gs} {C : Ck} {sc : Scope} {fb : Str → Bool} {X : Cx} {W : WX}
theorem gs_len {N : List Str} {env : Env} : ∀ {ts : Tgs} {es : List Expr}, ckGs N sc fb ts es = true → (assignEach es env).length = ts.len ∧ (assignEach es env).findIdx? (·.1) = none
  | .nil, es, h => by
    simp only [ckGs, List.isEmpty_iff] at h
    subst h
    exact ⟨rfl, rfl⟩
  | .cons t ts, es, h => by
    match es, h with
    | e :: es, h =>
      simp only [ckGs, Bool.and_eq_true] at h
      obtain ⟨h1, h2⟩ := gs_len (env := env) h.2
      rw [asg_cons h.1.2]
      refine ⟨by rw [List.length_cons, h1]; rfl, ?_⟩
      rw [List.findIdx?_cons]
      simp [h2]
    | [], h => simp [ckGs] at h
theorem pg_tupA {es : List Expr} {kk n : Nat} {t : TGs} {pos : Pos} (x0 : XOk S C sc fb X) (h : PGs X es t) (hn : (assignEach es X.env).length = n) (hst : (assignEach es X.env).findIdx? (·.1) = none) : PG X (.Tuple es kk pos) (gTup X.K n t) := by
  cases hc : C.hot with
  | false => exact pg_tup (x0.calm hc) h hn hst
  | true => exact pg_tupH (x0.hotc hc) h hn hst
mutual
theorem s_tg (x0 : XOk S C sc fb X) : ∀ (tg : Tg) (e : Expr), ckG C.N sc fb tg e = true → PG X e (tG S.T tg)
  | .nm i, e, h => by
    cases e <;> simp only [ckG, Bool.false_eq_true, Bool.and_eq_true, decide_eq_true_eq] at h
    obtain ⟨⟨h1, h2⟩, h3⟩ := h
    obtain ⟨k1, k2⟩ := loc_of x0 h2
    refine PG.imp (pg_name x0.nd (by rw [x0.N]; exact h1) k1 k2) fun v σ H Q q => ?_
    obtain ⟨w, sl, mu, p, s', rfl, F, r, ha, k⟩ := q
    simp only [asg, Option.some.injEq] at ha
    subst ha
    exact k _ (F.set i r) fun vs hv => wipe_set_in (hv i (by simp [Tg.sl]))
  | .tp ts, e, h => by
    cases e <;> simp only [ckG, Bool.false_eq_true] at h
    obtain ⟨l1, l2⟩ := gs_len (env := X.env) h
    refine PG.imp (pg_tupA (n := ts.len) x0 (s_tgs x0 ts _ h) l1 l2) fun v σ H Q q => ?_
    obtain ⟨w, sl, mu, p, s', rfl, F, r, ha, k⟩ := q
    unfold asg at ha
    cases p with
    | tup l =>
      simp only [RepV] at r
      obtain ⟨ad, xs, rfl, hs, rx⟩ := r
      rw [x0.hK] at hs
      exact ⟨ad, xs, rfl, hs.sq, by rw [← rx.len]; exact asgs_len ha, w, sl, mu, l, s', rfl, F, rx, ha, fun σ' F' hw => k σ' F' fun vs hv => hw vs fun i hi => hv i (by simpa [Tg.sl] using hi)⟩
    | _ => simp at ha
theorem s_tgs (x0 : XOk S C sc fb X) : ∀ (ts : Tgs) (es : List Expr), ckGs C.N sc fb ts es = true → PGs X es (tGs S.T ts)
  | .nil, es, h => by
    simp only [ckGs, List.isEmpty_iff] at h
    subst h
    refine PGs.imp pgs_nil fun v σ H Q q => ?_
    obtain ⟨w, sl, mu, l, s', rfl, F, r, ha, k⟩ := q
    unfold asgs at ha
    split at ha
    · cases ha
      simp only [Reps] at r
      exact ⟨r, k σ F fun _ _ => rfl⟩
    · cases ha
  | .cons t ts, es, h => by
    match es, h with
    | e :: es, h =>
      simp only [ckGs, Bool.and_eq_true] at h
      obtain ⟨⟨h1, h2⟩, h3⟩ := h
      refine PGs.imp (pgs_cons (s_tg x0 t e h1) (s_tgs x0 ts es h3) (by rw [asg_cons h2]; rfl)) fun v σ H Q q => ?_
      obtain ⟨w, sl, mu, l, s', rfl, F, r, ha, k⟩ := q
      unfold asgs at ha
      split at ha
      · rename_i x rl
        simp only [Option.bind_eq_some_iff] at ha
        obtain ⟨s1, ha1, ha2⟩ := ha
        simp only [Reps] at r
        obtain ⟨v1, vr, rfl, r1, r2⟩ := r
        refine ⟨v1, vr, rfl, w, sl, mu, x, s1, rfl, F, r1, ha1, fun σ1 F1 w1 => ⟨w, s1, mu, rl, s', rfl, F1, r2, ha2, fun σ2 F2 w2 => k σ2 F2 fun vs hv => ?_⟩⟩
        rw [w2 vs fun i hi => hv i (by simp [Tgs.sls, hi]), w1 vs fun i hi => hv i (by simp [Tgs.sls, hi])]
      · cases ha
    | [], h => simp [ckGs] at h
end
end

/-! ### what is walked -/
structure IWalk (T : Tb) (w : Wd) (J : L2.It) (ps : List PV) : Prop where
  go : ∀ (i : Nat) p w', Ext w w' → ps[i]? = some p → J.go i w'.H
  yld : ∀ (i : Nat) p w' x H', Ext w w' → WOk w' → ps[i]? = some p → J.yld i w'.H x H' → ∃ w'', w''.H = H' ∧ (w'' = w' ∨ ∃ a o, w'.H a = none ∧ w'' = w'.put a o) ∧ RepV T w'' p x
  stop : ∀ w', Ext w w' → J.stop ps.length w'.H
/-- a source that stays -/
structure Stays (T : Tb) (w : Wd) (r : Src) (ps : List PV) (xs : List V) : Prop where
  has : ∀ w', Ext w w' → r.has T.K w'.H xs
  reps : ∀ w', Ext w w' → Reps T w' ps xs
theorem walk_of {T : Tb} {w : Wd} (ok : WOk w) {p : PV} {v : V} {ps : List PV} (r : RepV T w p v) (h : items p = some ps) : ∃ xs P, Walk T.K w.H v xs P ∧ ∀ q : Src, P q → Stays T w q ps xs := by
  unfold items at h
  split at h <;> simp only [Option.some.injEq, reduceCtorEq] at h
  · subst h
    simp only [RepV] at r
    obtain ⟨a, xs, rfl, h1, h2⟩ := r
    exact ⟨xs, _, .t h1.sq, fun q e => e ▸ ⟨fun w' ex => (h1.ext ok ex).sq, fun w' ex => Reps.ext ok ex _ _ h2⟩⟩
  · subst h
    have r' := r
    simp only [RepV] at r
    obtain ⟨a, xs, rfl, h1, h2, h3⟩ := r
    exact ⟨xs, _, .l (SqL.of h1), fun q e => e ▸ ⟨fun w' ex => SqL.of (ex.kept ok h1 h2).1, fun w' ex => Reps.ext ok ex _ _ h3⟩⟩
  · subst h
    simp only [RepV] at r
    obtain ⟨rfl, h1⟩ := r
    rename_i x
    refine ⟨_, _, .s, fun q e => ?_⟩
    obtain ⟨t, rfl⟩ := e
    exact ⟨fun w' ex => rfl, fun w' ex => charsReps x⟩
theorem IWalk.one {T : Tb} {w : Wd} {r : Src} {ps : List PV} {xs : List V} (s : Stays T w r ps xs) : IWalk T w (ItO T.K r) ps where
  go := fun i p w' ex h => by
    obtain ⟨v, hv, _⟩ := (s.reps w' ex).get h
    exact ⟨xs, v, s.has w' ex, hv⟩
  yld := fun i p w' x H' ex ok h y => by
    obtain ⟨v, hv, rv⟩ := (s.reps w' ex).get h
    obtain ⟨rfl, y⟩ := y
    have := y xs (s.has w' ex)
    rw [hv] at this; cases this
    exact ⟨w', rfl, .inl rfl, rv⟩
  stop := fun w' ex => ⟨xs, s.has w' ex, (s.reps w' ex).len⟩
theorem put_tup {T : Tb} {w : Wd} {a : Addr} {ps : List PV} {vs : List V} {O : Obj} (ok : WOk w) (ha : w.H a = none) (hO : TPl O) (r : Reps T w ps vs) : RepV T (w.put a (.frz O (.tup vs))) (.tup ps) (.ref a) := by
  simp only [RepV]
  exact ⟨a, vs, rfl, .inl ⟨O, hO, (by show upd w.H a _ a = _; rw [upd_same]), fun z => ok.mtr a z ha⟩, Reps.ext ok (Wd.put_ext ha) _ _ r⟩
theorem zipP_len : ∀ (l r : List PV), (zipP l r).length = min l.length r.length
  | [], r => by simp [zipP]
  | x :: l, [] => by simp [zipP]
  | x :: l, y :: r => by simp only [zipP, List.length_cons, zipP_len l r]; omega
theorem zipP_get : ∀ {l r : List PV} {i : Nat} {p : PV}, (zipP l r)[i]? = some p → ∃ x y, l[i]? = some x ∧ r[i]? = some y ∧ p = .tup [x, y]
  | [], r, i, p, h => by simp [zipP] at h
  | x :: l, [], i, p, h => by simp [zipP] at h
  | x :: l, y :: r, 0, p, h => by simp [zipP] at h; exact ⟨x, y, rfl, rfl, h.symm⟩
  | x :: l, y :: r, i + 1, p, h => by simpa using zipP_get (l := l) (r := r) (i := i) (p := p) (by simpa [zipP] using h)
theorem IWalk.zip {T : Tb} {w : Wd} {r1 r2 : Src} {ps qs : List PV} {xs ys : List V} (s : Stays T w r1 ps xs) (t : Stays T w r2 qs ys) : IWalk T w (ItZ T.K r1 r2) (zipP ps qs) where
  go := fun i p w' ex h => by
    obtain ⟨p1, p2, h1, h2, rfl⟩ := zipP_get h
    obtain ⟨v, hv, _⟩ := (s.reps w' ex).get h1
    obtain ⟨u, hu, _⟩ := (t.reps w' ex).get h2
    exact ⟨xs, ys, v, u, s.has w' ex, t.has w' ex, hv, hu⟩
  yld := fun i p w' x H' ex ok h y => by
    obtain ⟨p1, p2, h1, h2, rfl⟩ := zipP_get h
    obtain ⟨v, hv, rv⟩ := (s.reps w' ex).get h1
    obtain ⟨u, hu, ru⟩ := (t.reps w' ex).get h2
    obtain ⟨a, O, x1, x2, rfl, ha, hO, rfl, y1, y2⟩ := y
    have e1 := y1 xs (s.has w' ex)
    have e2 := y2 ys (t.has w' ex)
    rw [hv] at e1; cases e1
    rw [hu] at e2; cases e2
    exact ⟨w'.put a _, rfl, .inr ⟨a, _, ha, rfl⟩, put_tup ok ha hO (by simp only [Reps]; exact ⟨_, _, rfl, rv, _, _, rfl, ru, rfl⟩)⟩
  stop := fun w' ex => by
    have l1 := (s.reps w' ex).len
    have l2 := (t.reps w' ex).len
    have l3 := zipP_len ps qs
    exact ⟨xs, ys, s.has w' ex, t.has w' ex, by omega, by omega, by omega⟩
theorem enum_get : ∀ {l : List PV} {k i : Nat} {p : PV}, (enum k l)[i]? = some p → ∃ x, l[i]? = some x ∧ p = .tup [.int ((k + i : Nat) : Int), x]
  | [], k, i, p, h => by simp [enum] at h
  | x :: l, k, 0, p, h => by simp [enum] at h; exact ⟨x, rfl, by rw [← h]; simp⟩
  | x :: l, k, i + 1, p, h => by
    obtain ⟨y, h1, h2⟩ := enum_get (l := l) (k := k + 1) (i := i) (p := p) (by simpa [enum] using h)
    exact ⟨y, by simpa using h1, by rw [h2]; congr 3; congr 1; omega⟩
theorem enum_len : ∀ (l : List PV) (k : Nat), (enum k l).length = l.length
  | [], k => rfl
  | x :: l, k => by simp only [enum, List.length_cons, enum_len l]
theorem IWalk.enum {T : Tb} {w : Wd} {r : Src} {ps : List PV} {xs : List V} (s : Stays T w r ps xs) : IWalk T w (ItE T.K r 0) (RA.enum 0 ps) where
  go := fun i p w' ex h => by
    obtain ⟨p1, h1, rfl⟩ := enum_get h
    obtain ⟨v, hv, _⟩ := (s.reps w' ex).get h1
    exact ⟨xs, v, s.has w' ex, hv⟩
  yld := fun i p w' x H' ex ok h y => by
    obtain ⟨p1, h1, rfl⟩ := enum_get h
    obtain ⟨v, hv, rv⟩ := (s.reps w' ex).get h1
    obtain ⟨a, O, x1, rfl, ha, hO, rfl, y1⟩ := y
    have e1 := y1 xs (s.has w' ex)
    rw [hv] at e1; cases e1
    exact ⟨w'.put a _, rfl, .inr ⟨a, _, ha, rfl⟩, put_tup ok ha hO (by simp only [Reps, RepV]; exact ⟨_, _, rfl, by congr 1, _, _, rfl, rv, rfl⟩)⟩
  stop := fun w' ex => ⟨xs, s.has w' ex, by rw [enum_len]; exact (s.reps w' ex).len⟩
theorem IWalk.rng {T : Tb} {w : Wd} {lo : Int} {n : Nat} : IWalk T w (Itr lo n) ((List.range n).map fun (i : Nat) => PV.int (lo + (i : Int))) where
  go := fun i p w' ex h => by
    have := (List.getElem?_eq_some_iff.mp h).1
    show i < n
    simpa using this
  yld := fun i p w' x H' ex ok h y => by
    obtain ⟨rfl, rfl⟩ := y
    refine ⟨w', rfl, .inl rfl, ?_⟩
    obtain ⟨hl, he⟩ := List.getElem?_eq_some_iff.mp h
    simp only [List.getElem_map, List.getElem_range] at he
    subst he
    simp only [RepV]
  stop := fun w' ex => by show n ≤ _; simp

/-- the reading of what is walked -/
def tI (T : Tb) (Cl : Nat → Value) (W : WX) (m : List Sl → List PV → Res (List PV)) : TI := fun σ H R => ∃ w sl mu, w.H = H ∧ FRel T w σ sl mu ∧ Pst T Cl W σ w (m sl mu) fun ps _ _ w' => ∀ J : L2.It, IWalk T w' J ps → R J w'.H
theorem PI.imp {X : Cx} {tg e : Expr} {t t' : TI} (h : PI X tg e t) (f : ∀ σ H R, t' σ H R → t σ H R) : PI X tg e t' := ⟨fun pins s σ H R I q => h.run pins s σ H R I (f σ H R q)⟩
section
variable {S : Gs} {C : Ck} {sc : Scope} {fb : Str → Bool} {X : Cx} {W : WX}
abbrev sI (S : Gs) (i : It) : List Sl → List PV → Res (List PV) := evi S.G S.cf i
def SI (S : Gs) (W : WX) (X : Cx) (i : It) (tg e : Expr) : Prop := PI X tg e (tI S.T S.C W (sI S i))
def SIH (S : Gs) (W : WX) (X : Cx) (i : It) (tg e : Expr) : Prop := L2H.PIH X tg e (tI S.T S.C W (sI S i))
theorem PIH.imp {X : Cx} {tg e : Expr} {t t' : TI} (h : L2H.PIH X tg e t) (f : ∀ σ H R, t' σ H R → t σ H R) : L2H.PIH X tg e t' := ⟨fun pins s σ H R I q => h.run pins s σ H R I (f σ H R q)⟩
theorem i_val (x0 : XOk S C sc fb X) {a : Ex} {e tg : Expr} (ha : SE S W X a e) : SI S W X (.val a) tg e := by
  refine PI.imp (pi_walk ha) fun σ H R h => ?_
  obtain ⟨w, sl, mu, hH, F, P⟩ := h
  refine tE.bnd hH F P fun p v sl1 mu1 w1 e1 F1 rv P1 => ?_
  obtain ⟨ps, hz, h⟩ := P1.lift
  obtain ⟨xs, PP, hw, st⟩ := walk_of F1.wok rv hz
  rw [x0.hK] at hw
  have k := h w1 (Ext.refl w1) F1
  refine ⟨xs, PP, hw, fun r hr => ?_⟩
  have z := k _ (IWalk.one (st r hr))
  rw [x0.hK] at z
  exact z
theorem i_rg1 (x0 : XOk S C sc fb X) {a : Ex} {x tg : Expr} {p pos : Pos} (ha : SE S W X a x) (hv : glb sc "range" = true) (hs : notStar x = true) : SI S W X (.rg1 a) tg (.Call (.Name "range" p) [x] [] pos) := by
  refine PI.imp (pi_range1 (glb_of x0 hv) (x0.blt _ (by decide +kernel)) (pa_cons ha pa_nil (star_cons hs)) (star_cons hs)) fun σ H R h => ?_
  obtain ⟨w, sl, mu, hH, F, P⟩ := h
  refine tE.bnd hH F P fun p v sl1 mu1 w1 e1 F1 rv P1 => ?_
  obtain ⟨ps, hz, h⟩ := P1.lift
  split at hz
  · simp only [RepV] at rv
    subst rv
    unfold RA.rng at hz
    split at hz
    · rename_i j hj
      cases hz
      refine ⟨j, rfl, by have := hj.2; omega, by have := hj.2; omega, ?_⟩
      have k := h w1 (Ext.refl w1) F1 _ IWalk.rng
      simpa using k
    · cases hz
  · cases hz
theorem i_rg2 (x0 : XOk S C sc fb X) {a b : Ex} {x y tg : Expr} {p pos : Pos} (ha : SE S W X a x) (hb : SE S W X b y) (hv : glb sc "range" = true) (hs : notStar x = true) (hs2 : notStar y = true) : SI S W X (.rg2 a b) tg (.Call (.Name "range" p) [x, y] [] pos) := by
  refine PI.imp (pi_range2 (glb_of x0 hv) (x0.blt _ (by decide +kernel)) (pa_cons ha (pa_cons hb pa_nil (star_cons hs2)) (star_cons hs)) (by rw [star_cons hs, star_cons hs2]; rfl) (star_cons hs2)) fun σ H R h => ?_
  obtain ⟨w, sl, mu, hH, F, P⟩ := h
  simp only [iRng2, tCons]
  refine tE.bnd hH F P fun p v sl1 mu1 w1 e1 F1 rv P1 => ?_
  refine tE.bnd rfl F1 P1 fun q u sl2 mu2 w2 e2 F2 ru P2 => ?_
  obtain ⟨ps, hz, h⟩ := P2.lift
  split at hz
  · simp only [RepV] at rv ru
    subst rv ru
    unfold RA.rng at hz
    split at hz
    · rename_i i j hj
      cases hz
      refine ⟨i, j, rfl, by have := hj.2; omega, ?_⟩
      exact h w2 (Ext.refl w2) F2 _ IWalk.rng
    · cases hz
  · cases hz
theorem i_enu (x0 : XOk S C sc fb X) {a : Ex} {x : Expr} {elts : List Expr} {kk : Nat} {tpos p pos : Pos} (ha : SE S W X a x) (hv : glb sc "enumerate" = true) (hs : notStar x = true) : SI S W X (.enu a) (.Tuple elts kk tpos) (.Call (.Name "enumerate" p) [x] [] pos) := by
  refine PI.imp (pi_enumW (glb_of x0 hv) (x0.blt _ (by decide +kernel)) (pa_cons ha pa_nil (star_cons hs)) (star_cons hs)) fun σ H R h => ?_
  obtain ⟨w, sl, mu, hH, F, P⟩ := h
  refine tE.bnd hH F P fun p v sl1 mu1 w1 e1 F1 rv P1 => ?_
  obtain ⟨ps, hz, h⟩ := P1.lift
  simp only [Option.map_eq_some_iff] at hz
  obtain ⟨l, hl, rfl⟩ := hz
  obtain ⟨xs, PP, hw, st⟩ := walk_of F1.wok rv hl
  rw [x0.hK] at hw
  refine ⟨v, xs, PP, rfl, hw, fun r hr => ?_⟩
  have z := h w1 (Ext.refl w1) F1 _ (IWalk.enum (st r hr))
  rw [x0.hK] at z
  exact z
theorem i_zip (x0 : XOk S C sc fb X) {a b : Ex} {x y : Expr} {elts : List Expr} {kk : Nat} {tpos p pos : Pos} (ha : SE S W X a x) (hb : SE S W X b y) (hv : glb sc "zip" = true) (hs : notStar x = true) (hs2 : notStar y = true) : SI S W X (.zip a b) (.Tuple elts kk tpos) (.Call (.Name "zip" p) [x, y] [] pos) := by
  refine PI.imp (pi_zipW (glb_of x0 hv) (x0.blt _ (by decide +kernel)) (pa_cons ha (pa_cons hb pa_nil (star_cons hs2)) (star_cons hs)) (star_cons hs) (by rw [star_cons hs2]; rfl)) fun σ H R h => ?_
  obtain ⟨w, sl, mu, hH, F, P⟩ := h
  simp only [iZipW, tCons]
  refine tE.bnd hH F P fun p v sl1 mu1 w1 e1 F1 rv P1 => ?_
  refine tE.bnd rfl F1 P1 fun q u sl2 mu2 w2 e2 F2 ru P2 => ?_
  obtain ⟨ps, hz, h⟩ := P2.lift
  simp only [Option.bind_eq_some_iff, Option.map_eq_some_iff] at hz
  obtain ⟨l, hl, r, hr, rfl⟩ := hz
  obtain ⟨xs, PP, hw, st⟩ := walk_of F2.wok (RepV.ext F1.wok e2 _ _ rv) hl
  obtain ⟨ys, QQ, hw2, st2⟩ := walk_of F2.wok ru hr
  rw [x0.hK] at hw hw2
  refine ⟨v, u, xs, ys, PP, QQ, rfl, hw, hw2, fun r1 r2 m1 m2 => ?_⟩
  have z := h w2 (Ext.refl w2) F2 _ (IWalk.zip (st r1 m1) (st2 r2 m2))
  rw [x0.hK] at z
  exact z
theorem i_valH (x0 : XOk S C sc fb X) {a : Ex} {e tg : Expr} (ha : SE S W X a e) : SIH S W X (.val a) tg e := by
  refine PIH.imp (pi_walkH ha) fun σ H R h => ?_
  obtain ⟨w, sl, mu, hH, F, P⟩ := h
  refine tE.bnd hH F P fun p v sl1 mu1 w1 e1 F1 rv P1 => ?_
  obtain ⟨ps, hz, h⟩ := P1.lift
  obtain ⟨xs, PP, hw, st⟩ := walk_of F1.wok rv hz
  rw [x0.hK] at hw
  have k := h w1 (Ext.refl w1) F1
  refine ⟨xs, PP, hw, fun r hr => ?_⟩
  have z := k _ (IWalk.one (st r hr))
  rw [x0.hK] at z
  exact z
theorem i_rg1H (x0 : XOk S C sc fb X) {a : Ex} {x tg : Expr} {p pos : Pos} (ha : SE S W X a x) (hv : glb sc "range" = true) (hs : notStar x = true) : SIH S W X (.rg1 a) tg (.Call (.Name "range" p) [x] [] pos) := by
  refine PIH.imp (L2H.pi_range1H (glb_of x0 hv) (x0.blt _ (by decide +kernel)) (pa_cons ha pa_nil (star_cons hs)) (star_cons hs)) fun σ H R h => ?_
  obtain ⟨w, sl, mu, hH, F, P⟩ := h
  refine tE.bnd hH F P fun p v sl1 mu1 w1 e1 F1 rv P1 => ?_
  obtain ⟨ps, hz, h⟩ := P1.lift
  split at hz
  · simp only [RepV] at rv
    subst rv
    unfold RA.rng at hz
    split at hz
    · rename_i j hj
      cases hz
      refine ⟨j, rfl, by have := hj.2; omega, by have := hj.2; omega, ?_⟩
      have k := h w1 (Ext.refl w1) F1 _ IWalk.rng
      simpa using k
    · cases hz
  · cases hz
theorem i_zipH (x0 : XOk S C sc fb X) {a b : Ex} {x y : Expr} {elts : List Expr} {kk : Nat} {tpos p pos : Pos} (ha : SE S W X a x) (hb : SE S W X b y) (hv : glb sc "zip" = true) (hs : notStar x = true) (hs2 : notStar y = true) : SIH S W X (.zip a b) (.Tuple elts kk tpos) (.Call (.Name "zip" p) [x, y] [] pos) := by
  refine PIH.imp (pi_zipH (glb_of x0 hv) (x0.blt _ (by decide +kernel)) (pa_cons ha (pa_cons hb pa_nil (star_cons hs2)) (star_cons hs)) (star_cons hs) (by rw [star_cons hs2]; rfl)) fun σ H R h => ?_
  obtain ⟨w, sl, mu, hH, F, P⟩ := h
  simp only [iZipW, tCons]
  refine tE.bnd hH F P fun p v sl1 mu1 w1 e1 F1 rv P1 => ?_
  refine tE.bnd rfl F1 P1 fun q u sl2 mu2 w2 e2 F2 ru P2 => ?_
  obtain ⟨ps, hz, h⟩ := P2.lift
  simp only [Option.bind_eq_some_iff, Option.map_eq_some_iff] at hz
  obtain ⟨l, hl, r, hr, rfl⟩ := hz
  obtain ⟨xs, PP, hw, st⟩ := walk_of F2.wok (RepV.ext F1.wok e2 _ _ rv) hl
  obtain ⟨ys, QQ, hw2, st2⟩ := walk_of F2.wok ru hr
  rw [x0.hK] at hw hw2
  refine ⟨v, u, xs, ys, PP, QQ, rfl, hw, hw2, fun r1 r2 m1 m2 => ?_⟩
  have z := h w2 (Ext.refl w2) F2 _ (IWalk.zip (st r1 m1) (st2 r2 m2))
  rw [x0.hK] at z
  exact z
theorem rgV_reps {T : Tb} {w : Wd} {lo hi : Int} : Reps T w ((List.range (hi - lo).toNat).map fun (i : Nat) => PV.int (lo + (i : Int))) (rgV lo hi) := by
  have : ∀ l : List Nat, Reps T w (l.map fun (i : Nat) => PV.int (lo + (i : Int))) (l.map fun (i : Nat) => V.int (lo + (i : Int))) := fun l => by
    induction l with
    | nil => simp [Reps]
    | cons a l ih => simp only [List.map_cons, Reps, RepV]; exact ⟨_, _, rfl, rfl, ih⟩
  exact this _
theorem pe_listRgA {e : Expr} {te : L2.St → Hp → (Int → Int → Hp → Prop) → Prop} {p pos : Pos} (x0 : XOk S C sc fb X) (hg : Gl X "list") (hm : X.mg "list" = none) (he : PRg X e te) (na : starEach [e] X.env = (false, eval e X.env) :: starEach [] X.env := by rfl) : PE X (.Call (.Name "list" p) [e] [] pos) (tLstRg te) := by
  cases hc : C.hot with
  | false => exact pe_listRg (x0.calm hc) hg hm he na
  | true => exact pe_lrgH (x0.hotc hc) hg hm he na
theorem s_lrg1 (x0 : XOk S C sc fb X) {a : Ex} {x : Expr} {p pos p2 pos2 : Pos} (ha : SE S W X a x) (hv : glb sc "range" = true) (hl : glb sc "list" = true) (hs : notStar x = true) : SE S W X (.lrg (.rg1 a)) (.Call (.Name "list" p2) [.Call (.Name "range" p) [x] [] pos] [] pos2) := by
  refine PE.imp (pe_listRgA x0 (glb_of x0 hl) (x0.blt _ (by decide +kernel)) (prg_1 (glb_of x0 hv) (x0.blt _ (by decide +kernel)) ha (star_cons hs))) fun σ H Q h => ?_
  obtain ⟨w, sl, mu, hH, F, P⟩ := h
  have P : Pst S.T S.C W σ w (((sE S a sl mu).bnd fun x s m => lift (match x with | .int j => RA.rng 0 j | _ => none) s m).bnd fun xs s m => .ok (PV.lst xs) s m) (QE S.T Q) := P
  have P' := P.bnd F.wok
  simp only [tLstRg, tRg1]
  refine tE.bnd hH F P' fun p v sl1 mu1 w1 e1 F1 rv P1 => ?_
  obtain ⟨ps, hz, h⟩ := P1.lift
  split at hz
  · simp only [RepV] at rv
    subst rv
    unfold RA.rng at hz
    split at hz
    · rename_i j hj
      cases hz
      refine ⟨j, rfl, ⟨by omega, by omega, by have := hj.2; omega, by have := hj.2; omega, by have := hj.1; simp at this ⊢; omega⟩, fun q hq => ?_⟩
      exact P2.lst F1 (h w1 (Ext.refl w1) F1) rgV_reps hq
    · cases hz
  · cases hz
theorem s_lrg2 (x0 : XOk S C sc fb X) {a b : Ex} {x y : Expr} {p pos p2 pos2 : Pos} (ha : SE S W X a x) (hb : SE S W X b y) (hv : glb sc "range" = true) (hl : glb sc "list" = true) (hs : notStar x = true) (hs2 : notStar y = true) : SE S W X (.lrg (.rg2 a b)) (.Call (.Name "list" p2) [.Call (.Name "range" p) [x, y] [] pos] [] pos2) := by
  refine PE.imp (pe_listRgA x0 (glb_of x0 hl) (x0.blt _ (by decide +kernel)) (prg_2 (glb_of x0 hv) (x0.blt _ (by decide +kernel)) ha hb (star_cons hs) (star_cons hs2) (by rw [star_cons hs2]; rfl))) fun σ H Q h => ?_
  obtain ⟨w, sl, mu, hH, F, P⟩ := h
  have P : Pst S.T S.C W σ w (((sE S a sl mu).bnd fun x s m => (sE S b s m).bnd fun y s m => lift (match x, y with | .int i, .int j => RA.rng i j | _, _ => none) s m).bnd fun xs s m => .ok (PV.lst xs) s m) (QE S.T Q) := P
  have P' := P.bnd F.wok
  simp only [tLstRg, tRg2]
  refine tE.bnd hH F P' fun p v sl1 mu1 w1 e1 F1 rv P1 => ?_
  refine tE.bnd rfl F1 P1 fun q u sl2 mu2 w2 e2 F2 ru PP => ?_
  obtain ⟨ps, hz, h⟩ := PP.lift
  split at hz
  · simp only [RepV] at rv ru
    subst rv ru
    unfold RA.rng at hz
    split at hz
    · rename_i i j hj
      cases hz
      refine ⟨i, j, rfl, rfl, ⟨by have := hj.2; omega, by have := hj.2; omega, by have := hj.2; omega, by have := hj.2; omega, by have := hj.1; simp at this ⊢; omega⟩, fun q hq => ?_⟩
      exact P2.lst F2 (h w2 (Ext.refl w2) F2) rgV_reps hq
    · cases hz
  · cases hz
end
end RA

/-! Soundness: comprehensions. -/
namespace RA
open PySem L2

theorem Res.bnd_assoc {α β γ : Type} (r : Res α) (f : α → List Sl → List PV → Res β) (g : β → List Sl → List PV → Res γ) : (r.bnd f).bnd g = r.bnd fun a s m => (f a s m).bnd g := by cases r <;> rfl
/-- what a result wishes for that never raises, seen from a world -/
def Pk {α : Type} (T : Tb) (τ : L2.St) (w : Wd) (r : Res α) (Q : α → List Sl → List PV → Wd → Prop) : Prop :=
  match r with
  | .ok a sl mu => ∀ w', Ext w w' → FRel T w' τ sl mu → Q a sl mu w'
  | _ => False
theorem Pk.bnd {α β : Type} {T : Tb} {Cl : Nat → Value} {W : WX} {τ : L2.St} {w0 : Wd} {r : Res α} {f : α → List Sl → List PV → Res β} {Q : β → List Sl → List PV → Wd → Prop} (h : Pk T τ w0 (r.bnd f) Q) (σ : L2.St) (w : Wd) :
    Pst T Cl W σ w r fun a sl mu _ => Pk T τ w0 (f a sl mu) Q := by
  cases r with
  | stk => exact h
  | ok a sl mu => exact fun w' _ _ => h
  | exc x sl mu => exact h.elim
theorem Pk.map {α β : Type} {T : Tb} {τ : L2.St} {w0 : Wd} {r : Res α} {f : α → β} {Q : β → List Sl → List PV → Wd → Prop} (h : Pk T τ w0 (r.bnd fun a s m => .ok (f a) s m) Q) : Pk T τ w0 r fun a sl mu w' => Q (f a) sl mu w' := by
  cases r with
  | stk => exact h
  | ok a sl mu => exact h
  | exc x sl mu => exact h

theorem wipeS_len (s : List Sl) : ∀ vs : List Nat, (RA.wipe s vs).length = s.length
  | [] => rfl
  | v :: vs => by unfold RA.wipe; rw [List.length_set, wipeS_len s vs]
theorem wipeS_some {s : List Sl} {i : Nat} {x : Sl} (hx : x ≠ .un) : ∀ {vs : List Nat}, (RA.wipe s vs)[i]? = some x → s[i]? = some x ∧ i ∉ vs
  | [], h => ⟨h, by simp⟩
  | v :: vs, h => by
    unfold RA.wipe at h
    by_cases hi : v = i
    · subst hi
      by_cases hv : v < (RA.wipe s vs).length
      · rw [List.getElem?_set_self hv] at h; cases h; exact absurd rfl hx
      · rw [List.getElem?_eq_none (by simpa using hv)] at h; cases h
    · rw [List.getElem?_set_ne hi] at h
      obtain ⟨h1, h2⟩ := wipeS_some hx h
      exact ⟨h1, by simp only [List.mem_cons, not_or]; exact ⟨fun e => hi e.symm, h2⟩⟩
theorem rest_len (s0 s : List Sl) : ∀ vs : List Nat, (rest s0 s vs).length = s.length
  | [] => rfl
  | v :: vs => by unfold rest; rw [List.length_set, rest_len s0 s vs]
theorem rest_some {s0 s : List Sl} {i : Nat} {x : Sl} (hx : x ≠ .un) : ∀ {vs : List Nat}, (rest s0 s vs)[i]? = some x → (i ∉ vs ∧ s[i]? = some x) ∨ (∃ p, x = .va p ∧ s0[i]? = some (.va p))
  | [], h => .inl ⟨by simp, h⟩
  | v :: vs, h => by
    unfold rest at h
    by_cases hi : v = i
    · subst hi
      by_cases hv : v < (rest s0 s vs).length
      · rw [List.getElem?_set_self hv] at h
        cases h
        split at hx
        · rename_i p e
          exact .inr ⟨p, rfl, e⟩
        · exact absurd rfl hx
      · rw [List.getElem?_eq_none (by simpa using hv)] at h; cases h
    · rw [List.getElem?_set_ne hi] at h
      rcases rest_some hx h with ⟨h1, h2⟩ | h1
      · exact .inl ⟨by simp only [List.mem_cons, not_or]; exact ⟨fun e => hi e.symm, h1⟩, h2⟩
      · exact .inr h1
section
variable {T : Tb} {w w' w1 : Wd} {σ : L2.St} {sl s1 : List Sl} {mu mu1 : List PV} {D : Addr}
theorem FRel.wipe (F : FRel T w σ sl mu) (vs : List Nat) : FRel T w (L2.wipe σ vs) (RA.wipe sl vs) mu := by
  refine ⟨F.wok, by rw [wipeS_len, wipe_length]; exact F.len, fun i p h => ?_, fun i p h => ?_, fun i j p q a h1 h2 k1 k2 => ?_, F.cel, fun i c fs h => ?_⟩
  · obtain ⟨h1, h2⟩ := wipeS_some (by simp) h
    obtain ⟨v, k1, k2⟩ := F.va i p h1
    exact ⟨v, by rw [wipe_out h2]; exact k1, k2⟩
  · obtain ⟨h1, h2⟩ := wipeS_some (by simp) h
    obtain ⟨a, k1, k2⟩ := F.ow i p h1
    exact ⟨a, by rw [wipe_out h2]; exact k1, k2⟩
  · exact F.ows i j p q a (wipeS_some (by simp) h1).1 (wipeS_some (by simp) h2).1 (wipe_some k1).1 (wipe_some k2).1
  · obtain ⟨h1, h2⟩ := wipeS_some (by simp) h
    rw [wipe_out h2]
    exact F.ex i c fs h1
theorem wipe_wipe (σ : L2.St) (vs : List Nat) : L2.wipe (L2.wipe σ vs) vs = L2.wipe σ vs := by
  refine List.ext_getElem? fun j => ?_
  by_cases hj : j ∈ vs
  · by_cases hl : j < σ.length
    · rw [wipe_in hj hl, wipe_in hj (by rw [wipe_length]; exact hl)]
    · rw [List.getElem?_eq_none (by rw [wipe_length, wipe_length]; omega), List.getElem?_eq_none (by rw [wipe_length]; omega)]
  · rw [wipe_out hj]
theorem FRel.rest (F1 : FRel T w1 σ sl mu1) (ex : Ext w1 w') {vs : List Nat} (F : FRel T w' (L2.wipe σ vs) s1 mu) : FRel T w' σ (RA.rest sl s1 vs) mu := by
  refine ⟨F.wok, by rw [rest_len, F.len, wipe_length], fun i p h => ?_, fun i p h => ?_, fun i j p q a h1 h2 k1 k2 => ?_, F.cel, fun i c fs h => ?_⟩
  · rcases rest_some (by simp) h with ⟨h1, h2⟩ | ⟨q, e, h2⟩
    · obtain ⟨v, k1, k2⟩ := F.va i p h2
      exact ⟨v, (wipe_some k1).1, k2⟩
    · cases e
      obtain ⟨v, k1, k2⟩ := F1.va i p h2
      exact ⟨v, k1, RepV.ext F1.wok ex _ _ k2⟩
  · rcases rest_some (by simp) h with ⟨h1, h2⟩ | ⟨q, e, h2⟩
    · obtain ⟨a, k1, k2⟩ := F.ow i p h2
      exact ⟨a, (wipe_some k1).1, k2⟩
    · cases e
  · rcases rest_some (by simp) h1 with ⟨g1, g2⟩ | ⟨q, e, _⟩
    · rcases rest_some (by simp) h2 with ⟨g3, g4⟩ | ⟨q, e, _⟩
      · exact F.ows i j p q a g2 g4 (by rw [wipe_out g1]; exact k1) (by rw [wipe_out g3]; exact k2)
      · cases e
    · cases e
  · rcases rest_some (by simp) h with ⟨h1, h2⟩ | ⟨q, e, h2⟩
    · obtain ⟨a, d, vs', k1, k2⟩ := F.ex i c fs h2
      exact ⟨a, d, vs', (wipe_some k1).1, k2⟩
    · cases e
/-- a lock, and a thing that is locked -/
theorem lockT (F : FRel T w σ sl mu) (hm : w.mb D) : WOk (w.wrs fun a => w.wr a ∨ a = D) := ⟨fun a h => h.elim (F.wok.sub a) fun e => e ▸ hm, F.wok.mtr⟩
def Wd.putD (w : Wd) (D : Addr) (o : HO) : Wd := { w with H := upd w.H D o }
def Wd.free (w : Wd) (D : Addr) : Wd := { w with mb := fun a => w.mb a ∧ a ≠ D }
theorem ext_putD {o : HO} (hw : ¬ w.wr D) (hm : w.mb D) (hd : w.H D ≠ none) : Ext (w.wrs fun a => w.wr a ∨ a = D) ((w.putD D o).wrs fun a => w.wr a ∨ a = D) where
  pre := fun _ _ h => h
  keep := fun a u h k => by show upd w.H D o a = _; rw [upd_ne fun e => k (.inr e)]; exact h
  trk := fun a h => by
    show upd w.H D o a ≠ none
    by_cases e : a = D
    · rw [e, upd_same]; simp
    · rw [upd_ne e]; exact h
  mt := fun _ h => .inl h
  mkp := fun _ h _ => h
  ws := fun _ h => .inl h
  xs := rfl
theorem ext_free (hw : ¬ w.wr D) : Ext (w.wrs fun a => w.wr a ∨ a = D) (w.free D) where
  pre := fun _ _ h => h
  keep := fun a u h k => h
  trk := fun a h => h
  mt := fun _ h => .inl h.1
  mkp := fun a h k => ⟨h, fun e => k (.inr e)⟩
  ws := fun _ h => .inl (.inl h)
  xs := rfl
theorem reps_putD {o : HO} (F : FRel T w σ sl mu) (hw : ¬ w.wr D) (hm : w.mb D) (hd : w.H D ≠ none) {ps : List PV} {vs : List V} (r : Reps T w ps vs) : Reps T (w.putD D o) ps vs :=
  Reps.wrs (f := w.wr) ps vs (Reps.ext (lockT F hm) (ext_putD hw hm hd) ps vs (Reps.wrs ps vs r))
theorem rep_putD {o : HO} (F : FRel T w σ sl mu) (hw : ¬ w.wr D) (hm : w.mb D) (hd : w.H D ≠ none) {p : PV} {v : V} (r : RepV T w p v) : RepV T (w.putD D o) p v :=
  RepV.wrs (f := w.wr) p v (RepV.ext (lockT F hm) (ext_putD hw hm hd) p v (RepV.wrs p v r))
theorem reps_free (F : FRel T w σ sl mu) (hw : ¬ w.wr D) (hm : w.mb D) {ps : List PV} {vs : List V} (r : Reps T w ps vs) : Reps T (w.free D) ps vs :=
  Reps.ext (lockT F hm) (ext_free hw) ps vs (Reps.wrs ps vs r)
theorem rep_free (F : FRel T w σ sl mu) (hw : ¬ w.wr D) (hm : w.mb D) {p : PV} {v : V} (r : RepV T w p v) : RepV T (w.free D) p v :=
  RepV.ext (lockT F hm) (ext_free hw) p v (RepV.wrs p v r)
theorem FRel.putD {o : HO} (F : FRel T w σ sl mu) (hw : ¬ w.wr D) (hm : w.mb D) (hd : w.H D ≠ none) : FRel T (w.putD D o) σ sl mu := by
  have ne : ∀ {a : Addr}, w.wr a → a ≠ D := fun h e => hw (e ▸ h)
  have cr : ∀ {a : Addr} {c : PV}, w.wr a → CRep T w a c → CRep T (w.putD D o) a c := fun {a c} hwa h => by
    cases c with
    | lst l =>
      obtain ⟨xs, h1, h2⟩ := h
      exact ⟨xs, by show upd w.H D o a = _; rw [upd_ne (ne hwa)]; exact h1, reps_putD F hw hm hd h2⟩
    | obj c fs =>
      obtain ⟨dx, vs, h1, h2, h3⟩ := h
      exact ⟨dx, vs, by show upd w.H D o a = _; rw [upd_ne (ne hwa)]; exact h1, h2, reps_putD F hw hm hd h3⟩
    | _ => exact h.elim
  have co : ∀ {a : Addr} {c : PV}, w.wr a → ORep T w a c → ORep T (w.putD D o) a c := fun {a c} hwa h => by
    cases c with
    | lst l =>
      obtain ⟨xs, h1, h2⟩ := h
      exact ⟨xs, by show upd w.H D o a = _; rw [upd_ne (ne hwa)]; exact h1, reps_putD F hw hm hd h2⟩
    | _ => exact h.elim
  refine ⟨⟨F.wok.sub, fun a h => (ext_putD hw hm hd).trk a (F.wok.mtr a h)⟩, F.len, fun i p h => ?_, fun i p h => ?_, F.ows, ⟨F.cel.mlen, fun n c a h1 h2 => ?_, F.cel.inj⟩, fun i c fs h => ?_⟩
  · obtain ⟨v, k1, k2⟩ := F.va i p h
    exact ⟨v, k1, rep_putD F hw hm hd k2⟩
  · obtain ⟨a, k1, k2, k3, k4⟩ := F.ow i p h
    exact ⟨a, k1, co k3 k2, k3, k4⟩
  · obtain ⟨k1, k2⟩ := F.cel.cl n c a h1 h2
    exact ⟨cr k2 k1, k2⟩
  · obtain ⟨a, d, vs, k1, k2, k3, k4, k5, k6⟩ := F.ex i c fs h
    exact ⟨a, d, vs, k1, k2, by show upd w.H D o d = _; rw [upd_ne (show d ≠ D by intro z; subst z; exact k5 hm)]; exact k3, k4, k5, reps_putD F hw hm hd k6⟩
theorem FRel.free (F : FRel T w σ sl mu) (hw : ¬ w.wr D) (hm : w.mb D) : FRel T (w.free D) σ sl mu := by
  have ne : ∀ {a : Addr}, w.wr a → a ≠ D := fun h e => hw (e ▸ h)
  have cr : ∀ {a : Addr} {c : PV}, CRep T w a c → CRep T (w.free D) a c := fun {a c} h => by
    cases c with
    | lst l =>
      obtain ⟨xs, h1, h2⟩ := h
      exact ⟨xs, h1, reps_free F hw hm h2⟩
    | obj c fs =>
      obtain ⟨dx, vs, h1, h2, h3⟩ := h
      exact ⟨dx, vs, h1, h2, reps_free F hw hm h3⟩
    | _ => exact h.elim
  have co : ∀ {a : Addr} {c : PV}, ORep T w a c → ORep T (w.free D) a c := fun {a c} h => by
    cases c with
    | lst l =>
      obtain ⟨xs, h1, h2⟩ := h
      exact ⟨xs, h1, reps_free F hw hm h2⟩
    | _ => exact h.elim
  refine ⟨⟨fun a h => ⟨F.wok.sub a h, ne h⟩, fun a h => F.wok.mtr a h.1⟩, F.len, fun i p h => ?_, fun i p h => ?_, F.ows, ⟨F.cel.mlen, fun n c a h1 h2 => ?_, F.cel.inj⟩, fun i c fs h => ?_⟩
  · obtain ⟨v, k1, k2⟩ := F.va i p h
    exact ⟨v, k1, rep_free F hw hm k2⟩
  · obtain ⟨a, k1, k2, k3, k4⟩ := F.ow i p h
    exact ⟨a, k1, co k2, k3, k4⟩
  · obtain ⟨k1, k2⟩ := F.cel.cl n c a h1 h2
    exact ⟨cr k1, k2⟩
  · obtain ⟨a, d, vs, k1, k2, k3, k4, k5, k6⟩ := F.ex i c fs h
    exact ⟨a, d, vs, k1, k2, k3, k4, fun z => k5 z.1, reps_free F hw hm k6⟩
/-- a new list that is being filled: locked, not to be written by others -/
def Wd.lay (w : Wd) (D : Addr) : Wd := { w with H := upd w.H D (.lst []), mb := fun a => w.mb a ∨ a = D }
theorem lay_ext (hD : w.H D = none) : Ext w (w.lay D) where
  pre := fun _ _ h => h
  keep := fun a u h _ => by show upd w.H D _ a = _; rw [upd_ne (ne_of_none h hD)]; exact h
  trk := fun a h => by
    show upd w.H D _ a ≠ none
    by_cases e : a = D
    · rw [e, upd_same]; simp
    · rw [upd_ne e]; exact h
  mt := fun a h => h.elim .inl fun e => .inr (e ▸ hD)
  mkp := fun a h _ => .inl h
  ws := fun _ h => .inl h
  xs := rfl
theorem FRel.lay (F : FRel T w σ sl mu) (hD : w.H D = none) : FRel T (w.lay D) σ sl mu := by
  have e := lay_ext hD
  have k : ∀ a u, w.H a = some u → (w.lay D).H a = some u := fun a u h => by show upd w.H D _ a = _; rw [upd_ne (ne_of_none h hD)]; exact h
  refine ⟨⟨fun a h => .inl (F.wok.sub a h), fun a h => ?_⟩, F.len, fun i q h => ?_, fun i q h => ?_, F.ows, ⟨F.cel.mlen, fun n c a h1 h2 => ?_, F.cel.inj⟩, fun i c fs h => ?_⟩
  · rcases h with h | rfl
    · exact e.trk a (F.wok.mtr a h)
    · show upd w.H a _ a ≠ none
      rw [upd_same]; simp
  · obtain ⟨v, h1, h2⟩ := F.va i q h
    exact ⟨v, h1, RepV.ext F.wok e q v h2⟩
  · obtain ⟨a, h1, h2, h3, h4⟩ := F.ow i q h
    exact ⟨a, h1, h2.ext_keep F.wok e (k a), h3, h4⟩
  · obtain ⟨h3, h4⟩ := F.cel.cl n c a h1 h2
    exact ⟨h3.ext_keep F.wok e (k a), h4⟩
  · exact ex_ext F.wok e (F.ex i c fs h)
end
def W0 : WX := fun _ _ _ _ => False

section
variable {S : Gs} {C : Ck} {sc : Scope} {fb : Str → Bool} {X : Cx} {W : WX}
theorem PTs.imp {X : Cx} {e : List Expr} {t t' : TT} (h : PTs X e t) (f : ∀ σ H Q, t' σ H Q → t σ H Q) : PTs X e t' := ⟨fun pins s σ H Q I q => h.run pins s σ H Q I (f σ H Q q)⟩
theorem s_ifs {ts : Tts} {es : List Expr} (h : (ts = .nil ∧ es = []) ∨ ∃ t e, ts = .cons t .nil ∧ es = [e] ∧ ST S W X t e) : PTs X es (tT S.T S.C W (evall S.G S.cf ts)) := by
  rcases h with ⟨rfl, rfl⟩ | ⟨t, e, rfl, rfl, h⟩
  · refine PTs.imp pts_nil fun σ H Q h => ?_
    obtain ⟨w, sl, mu, rfl, F, P⟩ := h
    exact P w (Ext.refl w) F
  · refine PTs.imp (pts_one h) fun σ H Q h => ?_
    obtain ⟨w, sl, mu, hH, F, P⟩ := h
    refine tT.bnd hH F P fun c sl1 mu1 w1 e1 F1 P1 => ?_
    cases c with
    | true => exact P1 w1 (Ext.refl w1) F1
    | false => exact P1 w1 (Ext.refl w1) F1
/-- one turn -/
def lcG (S : Gs) (own : List Nat) (elt : Ex) (tg : Tg) (ifs : Tts) : PV → List Sl → List PV → Res (Option PV) :=
  fun x s1 m => (lift (asg tg x s1) s1 m).bnd fun s2 _ m => (evall S.G S.cf ifs s2 m).bnd fun c s3 m => if c then (ev S.G S.cf elt s3 m).bnd fun y s4 m => .ok (some y) (RA.wipe s4 own) m else .ok none (RA.wipe s3 own) m
theorem ev_lc {own : List Nat} {elt : Ex} {tg : Tg} {it : It} {ifs : Tts} {s : List Sl} {m : List PV} : ev S.G S.cf (.lc own elt tg it ifs) s m = (evi S.G S.cf it s m).bnd fun xs s m => if Nat.ble xs.length SZ then ((lcL (lcG S own elt tg ifs) xs (RA.wipe s own) m).nox).bnd fun ys s1 m => .ok (.lst ys) (RA.rest s s1 own) m else .stk := by
  conv => lhs; unfold ev
  rfl
theorem lc_wish {own : List Nat} {elt : Ex} {tg : Tg} {it : It} {ifs : Tts} (hsl : ∀ i ∈ tg.sl, i ∈ own) {σ : St} {H : Hp} {Q : VK} (h : tE S.T S.C W (sE S (.lc own elt tg it ifs)) σ H Q) :
    tLc (tI S.T S.C W (sI S it)) (tG S.T tg) (tT S.T S.C W0 (evall S.G S.cf ifs)) (tE S.T S.C W0 (sE S elt)) own σ H Q := by
  obtain ⟨w0, sl0, mu0, hH, F0, P⟩ := h
  have P : Pst S.T S.C W σ w0 (ev S.G S.cf (.lc own elt tg it ifs) sl0 mu0) (QE S.T Q) := P
  rw [ev_lc] at P
  refine ⟨w0, sl0, mu0, hH, F0, (P.bnd F0.wok).mono fun ps s mu1 w1 e1 F1 P1 J hJ D hD => ?_⟩
  by_cases hz : Nat.ble ps.length SZ = true
  case neg => rw [if_neg hz] at P1; exact P1.elim
  rw [if_pos hz] at P1
  have hz : ps.length ≤ 16777216 := Nat.le_of_ble_eq_true hz
  -- what the turns' result wishes for
  let R : List PV → List Sl → List PV → Wd → Prop := fun ys s1 m1 w' => ∀ acc, w'.H D = some (.lst acc) → w'.mb D → ¬ w'.wr D → Reps S.T w' ys acc → Q (.ref D) w'.H
  have hk : Pk S.T (L2.wipe σ own) w1 (lcL (lcG S own elt tg ifs) ps (RA.wipe s own) mu1) R := by
    generalize lcL (lcG S own elt tg ifs) ps (RA.wipe s own) mu1 = r at P1
    cases r with
    | stk => exact P1
    | exc _ _ _ => exact P1
    | ok ys s1 m1 =>
      intro w' ex F' acc h1 h2 h3 h4
      have P1 : ∀ w', Ext w1 w' → FRel S.T w' σ (RA.rest s s1 own) m1 → ∀ v, RepV S.T w' (.lst ys) v → Q v w'.H := P1
      have F2 := (F1.rest ex F')
      have F3 := F2.free (D := D) h3 h2
      have ex' : Ext w1 (w'.free D) := ⟨ex.pre, ex.keep, ex.trk, fun a h => ex.mt a h.1, fun a h k => ⟨ex.mkp a h k, fun e => F1.wok.mtr a h (e ▸ hD)⟩, ex.ws, ex.xs⟩
      refine P1 _ ex' F3 (.ref D) ?_
      simp only [RepV]
      exact ⟨D, acc, rfl, h1, fun z => z.2 rfl, reps_free F2 h3 h2 h4⟩
  have FL := (F1.wipe own).lay hD
  refine ⟨fun i n H' => n = ps.length - i ∧ i ≤ ps.length ∧ ∃ w sl mu dn acc, w.H = H' ∧ Ext w1 w ∧ w.H D = some (.lst acc) ∧ w.mb D ∧ ¬ w.wr D ∧ Reps S.T w dn acc ∧ dn.length ≤ i ∧ FRel S.T w (L2.wipe σ own) sl mu ∧
    Pk S.T (L2.wipe σ own) w1 (lcL (lcG S own elt tg ifs) (ps.drop i) sl mu) (fun ys s1 m1 w' => R (dn ++ ys) s1 m1 w'), ⟨ps.length, by simp, Nat.zero_le _, w1.lay D, RA.wipe s own, mu1, [], [], rfl, lay_ext hD, by show upd w1.H D _ D = _; rw [upd_same], .inr rfl, fun z => F1.wok.mtr D (F1.wok.sub D z) hD, by simp only [Reps], Nat.zero_le _, FL, by simpa using hk⟩, ?_⟩
  rintro i n H' ⟨rfl, hi, w, sl, mu, dn, acc, rfl, ex, hDa, hDm, hDw, rdn, hdn, F, pk⟩
  by_cases hlt : i < ps.length
  case neg =>
    have e : i = ps.length := by omega
    subst e
    refine .inl ⟨hJ.stop w ex, ?_⟩
    rw [List.drop_length] at pk
    have pk : ∀ w', Ext w1 w' → FRel S.T w' (L2.wipe σ own) sl mu → R (dn ++ []) sl mu w' := pk
    rw [List.append_nil] at pk
    exact pk w ex F acc hDa hDm hDw rdn
  have hp : ps[i]? = some ps[i] := List.getElem?_eq_getElem hlt
  refine .inr ⟨hJ.go i ps[i] w ex hp, fun H' => ∃ w sl mu dn acc, w.H = H' ∧ Ext w1 w ∧ w.H D = some (.lst acc) ∧ w.mb D ∧ ¬ w.wr D ∧ Reps S.T w dn acc ∧ dn.length ≤ i + 1 ∧ FRel S.T w (L2.wipe σ own) sl mu ∧
    Pk S.T (L2.wipe σ own) w1 (lcL (lcG S own elt tg ifs) (ps.drop (i + 1)) sl mu) (fun ys s1 m1 w' => R (dn ++ ys) s1 m1 w'), fun H' h => ⟨ps.length - (i + 1), by omega, rfl, hlt, h⟩, fun x H' hy => ?_⟩
  obtain ⟨w2, rfl, hw2, rx⟩ := hJ.yld i ps[i] w x H' ex F.wok hp hy
  have step : Ext w w2 ∧ FRel S.T w2 (L2.wipe σ own) sl mu := by
    rcases hw2 with rfl | ⟨a, o, ha, rfl⟩
    · exact ⟨Ext.refl _, F⟩
    · exact ⟨Wd.put_ext ha, F.put ha⟩
  obtain ⟨e2, F2⟩ := step
  -- D stands from here on
  have stand : ∀ {w3 : Wd}, Ext w w3 → Ext w1 w3 ∧ w3.H D = some (.lst acc) ∧ w3.mb D ∧ ¬ w3.wr D ∧ Reps S.T w3 dn acc := fun {w3} e3 =>
    ⟨ex.trans F1.wok e3, e3.keep D _ hDa hDw, e3.mkp D hDm hDw, fun z => (e3.ws D z).elim hDw fun q => (by rw [hDa] at q; cases q), Reps.ext F.wok e3 _ _ rdn⟩
  rw [List.drop_eq_getElem_cons hlt] at pk
  unfold lcL at pk
  unfold lcG at pk
  rw [Res.bnd_assoc] at pk
  obtain ⟨s2, ha⟩ : ∃ s2, asg tg ps[i] sl = some s2 := by
    cases q : asg tg ps[i] sl with
    | none => rw [q] at pk; exact pk.elim
    | some s2 => exact ⟨s2, rfl⟩
  rw [ha] at pk
  have pk : Pk S.T (L2.wipe σ own) w1 (((evall S.G S.cf ifs s2 mu).bnd fun c s3 m => if c then (ev S.G S.cf elt s3 m).bnd fun y s4 m => .ok (some y) (RA.wipe s4 own) m else .ok none (RA.wipe s3 own) m).bnd fun o s m => (lcL (lcG S own elt tg ifs) (ps.drop (i + 1)) s m).bnd fun ys s m => .ok (match o with | some y => y :: ys | none => ys) s m) (fun ys s1 m1 w' => R (dn ++ ys) s1 m1 w') := pk
  rw [Res.bnd_assoc] at pk
  refine ⟨w2, sl, mu, ps[i], s2, rfl, F2, rx, ha, fun σ2 Fσ hw => ?_⟩
  have hwe : L2.wipe σ2 own = L2.wipe σ own := by rw [hw own hsl, wipe_wipe]
  refine ⟨hwe, w2, s2, mu, rfl, Fσ, (pk.bnd σ2 w2).mono fun c s3 m3 w3 e3 F3 pk3 => ?_⟩
  cases c with
  | false =>
    have pk3 : Pk S.T (L2.wipe σ own) w1 ((lcL (lcG S own elt tg ifs) (ps.drop (i + 1)) (RA.wipe s3 own) m3).bnd fun ys s m => .ok ys s m) (fun ys s1 m1 w' => R (dn ++ ys) s1 m1 w') := pk3
    obtain ⟨k1, k2, k3, k4, k5⟩ := stand (e2.trans F.wok e3)
    have F3' := F3.wipe own
    rw [hwe] at F3'
    exact ⟨w3, _, m3, dn, acc, rfl, k1, k2, k3, k4, k5, by omega, F3', pk3.map⟩
  | true =>
    have pk3 : Pk S.T (L2.wipe σ own) w1 (((ev S.G S.cf elt s3 m3).bnd fun y s4 m => .ok (some y) (RA.wipe s4 own) m).bnd fun o s m => (lcL (lcG S own elt tg ifs) (ps.drop (i + 1)) s m).bnd fun ys s m => .ok (match o with | some y => y :: ys | none => ys) s m) (fun ys s1 m1 w' => R (dn ++ ys) s1 m1 w') := pk3
    rw [Res.bnd_assoc] at pk3
    rw [if_pos rfl]
    refine ⟨w3, s3, m3, rfl, F3, (pk3.bnd σ2 w3).mono fun y s4 m4 w4 e4 F4 pk4 v rv => ?_⟩
    have pk4 : Pk S.T (L2.wipe σ own) w1 ((lcL (lcG S own elt tg ifs) (ps.drop (i + 1)) (RA.wipe s4 own) m4).bnd fun ys s m => .ok (y :: ys) s m) (fun ys s1 m1 w' => R (dn ++ ys) s1 m1 w') := pk4
    obtain ⟨k1, k2, k3, k4, k5⟩ := stand ((e2.trans F.wok e3).trans F.wok e4)
    have hacc := k5.len
    have hd4 : w4.H D ≠ none := by rw [k2]; simp
    have F4' := F4.wipe own
    rw [hwe] at F4'
    refine ⟨acc, k2, by rw [sizeLine_eq]; omega, w4.putD D (.lst (acc ++ [v])), _, m4, dn ++ [y], acc ++ [v], rfl, ?_, by show upd w4.H D _ D = _; rw [upd_same], k3, k4, ?_, by simp; omega, F4'.putD k4 k3 hd4, ?_⟩
    · exact ⟨k1.pre, fun a o h k => by show upd w4.H D _ a = _; rw [upd_ne (ne_of_none h hD)]; exact k1.keep a o h k, fun a h => (ext_putD k4 k3 hd4).trk a (k1.trk a h), k1.mt, k1.mkp, k1.ws, k1.xs⟩
    · exact (reps_putD F4 k4 k3 hd4 k5).append (by simp only [Reps]; exact ⟨v, [], rfl, rep_putD F4 k4 k3 hd4 rv, rfl⟩)
    · have := pk4.map
      simpa using this
theorem s_lc (x0 : XOk S C sc fb X) (hc : C.hot = false) {own : List Nat} {elt : Ex} {tg : Tg} {it : It} {ifs : Tts} {x tge iter : Expr} {fs : List Expr} {scope : Scope} {pos : Pos} (hown : (ownOf C.N own).map (·.2) = own) (hb : blkC C.N sc scope (ownOf C.N own) = true) (hsl : ∀ i ∈ tg.sl, i ∈ own) (hi : SI S W X it tge iter) (hn : notSet iter = true)
    (hg : ∀ (s : Shared) (H : Hp) (A : Addr) (cl : List (Str × Addr)) (fp : List Addr), PG (X.blk s H scope (compEnvC scope cl A X.env) fp) tge (tG S.T tg))
    (ht : ∀ (s : Shared) (H : Hp) (A : Addr) (cl : List (Str × Addr)) (fp : List Addr), PTs (X.blk s H scope (compEnvC scope cl A X.env) fp) fs (tT S.T S.C W0 (evall S.G S.cf ifs)))
    (he : ∀ (s : Shared) (H : Hp) (A : Addr) (cl : List (Str × Addr)) (fp : List Addr), SE S W0 (X.blk s H scope (compEnvC scope cl A X.env) fp) elt x) :
    SE S W X (.lc own elt tg it ifs) (.ListComp x [⟨tge, iter, fs, 0⟩] scope pos) := by
  refine PE.imp (pe_lc (x0.calm hc) x0.nd hi (by rw [x0.N, x0.sc]; exact blkOk_by hb) hg ht he (noFold hn)) fun σ H Q h => by rw [hown]; exact lc_wish hsl h
theorem s_lcH (x0 : XOk S C sc fb X) (hc : C.hot = true) {own : List Nat} {elt : Ex} {tg : Tg} {it : It} {ifs : Tts} {x tge iter : Expr} {fs : List Expr} {scope : Scope} {pos : Pos} (hown : (ownOf C.N own).map (·.2) = own) (hb : blkC C.N sc scope (ownOf C.N own) = true) (hsl : ∀ i ∈ tg.sl, i ∈ own) (hi : SIH S W X it tge iter) (hn : notSet iter = true)
    (hg : ∀ (s : Shared) (H : Hp) (A : Addr) (cl : List (Str × Addr)) (fp : List Addr), PG (RA.blkH X s H scope (compEnvC scope cl A X.env) fp) tge (tG S.T tg))
    (ht : ∀ (s : Shared) (H : Hp) (A : Addr) (cl : List (Str × Addr)) (fp : List Addr), PTs (RA.blkH X s H scope (compEnvC scope cl A X.env) fp) fs (tT S.T S.C W0 (evall S.G S.cf ifs)))
    (he : ∀ (s : Shared) (H : Hp) (A : Addr) (cl : List (Str × Addr)) (fp : List Addr), SE S W0 (RA.blkH X s H scope (compEnvC scope cl A X.env) fp) elt x) :
    SE S W X (.lc own elt tg it ifs) (.ListComp x [⟨tge, iter, fs, 0⟩] scope pos) := by
  refine PE.imp (pe_lcH (x0.hotc hc) x0.nd hi (by rw [x0.N, x0.sc]; exact blkOk_by hb) (fun s H C cl fp => hg s H C cl fp) (fun s H C cl fp => ht s H C cl fp) (fun s H C cl fp => he s H C cl fp) (noFold hn)) fun σ H Q h => by rw [hown]; exact lc_wish hsl h
end
end RA

/-! The last built-ins: list of a text, sum of lists, index of a sign. -/
namespace RA
open PySem PySem.Spec PyProof.Rows L2

/-- the heap grows -/
def Grow (H H' : Hp) : Prop := ∀ a o, H a = some o → H' a = some o
theorem sub_list_bytes' : isSubtype (.type "list") (.type "bytes") = pure false := by rw [isSubtype_type]; kernel_rfl
theorem sub_list_bytearray' : isSubtype (.type "list") (.type "bytearray") = pure false := by rw [isSubtype_type]; kernel_rfl
theorem args_sum2 (a b : Value) : argsOk "sum" ⟨[a, b], []⟩ := by unfold argsOk; kernel_rfl
section
variable {X : Cx}
theorem FpOk.upd {pins : List (Addr × Obj)} {H : Hp} {b p : Addr} {o : HO} (f : FpOk X pins H b) (h : b ≠ p) : FpOk X pins (upd H p o) b := ⟨by rw [upd_ne h]; exact f.1, f.2⟩
theorem sum_lists (hc : X.calm = true) {A : Around} (hh : A.handled = none) {R : Result → Shared → Prop} {pins : List (Addr × Obj)} {σ : L2.St} {S I a : Addr} {vs : List V} {f : List (List V)} (hSI : S ≠ I) (hlen : f.length = vs.length) :
    ∀ (k i : Nat) (s : Shared) (H : Hp) (acc : List V) (tot : Addr) (c : Nat), vs.length - i = k → i ≤ vs.length → Inv X pins σ H s → s.heap.get? S = some { cls := .type "list", dict := none, data := .seq #[.ref tot] c, slots := #[] } → FpOk X pins H S → FpOk X pins H I →
    s.heap.IsListIter I a i → SqL X.K H a vs → (∀ (j : Nat) xs, f[j]? = some xs → ∃ q, vs[j]? = some (.ref q) ∧ H q = some (.lst xs)) → H tot = some (.lst acc) → acc.length + (f.drop i).flatten.length ≤ sizeLine →
    (∀ H' p s', Grow H H' → Inv X pins σ H' s' → H' p = some (.lst (acc ++ (f.drop i).flatten)) → (p = tot ∨ H p = none) → R (.ok (.ret (.ref p))) s') →
    codeAny (model X.prog X.w) A (.builtin "sum.loop" ⟨[.ref I, .ref S, rawInt 2, rawInt 0], []⟩) R s := by
  intro k
  induction k with
  | zero =>
    intro i s H acc tot c hk hi I0 hS fS fI hit ha hf hT hz hR
    have hin : i = vs.length := by omega
    subst hin
    obtain ⟨its, rv, pl, _⟩ := I0.list ha
    have hvl := rv.length
    refine codeAny_builtin F.entry_sum_loop ?_
    rw [Around.under_plainId F.plain_sum_loop _]
    show wpAny _ A.in1 (seqItems? (.ref S) >>= _) _ _ s
    refine wpAny_bind (wpAny_seqItems hS rfl ?_)
    show wpAny _ A.in1 (tryCatch (pyNext (.ref I)) _ >>= _) _ _ s
    refine wpAny_bind (wpAny_tryCatch (wpAny_pyNext_list_end hh hit pl.isList (by simp; omega) fun h' eb => ?_))
    obtain ⟨g0, g1, g2, g3, g4, g5⟩ := fI
    have I1 : Inv X pins σ H { s with heap := h' } := I0.turned (t' := s.toks) (fun b o hb e => eb b o hb e) g0 g1 g3 g4 g5
    refine wpAny_pure (hR H tot _ (fun _ _ h => h) I1 ?_ (.inl rfl))
    rw [List.drop_eq_nil_of_le (by omega)]
    simpa using hT
  | succ k ih =>
    intro i s H acc tot c hk hi I0 hS fS fI hit ha hf hT hz hR
    have hlt : i < vs.length := by omega
    have hfl : i < f.length := by omega
    obtain ⟨its, rv, pl, _⟩ := I0.list ha
    obtain ⟨q, hq, hHq⟩ := hf i f[i] (List.getElem?_eq_getElem hfl)
    obtain ⟨u, hu, ru⟩ := rv.get hq
    cases ru
    refine codeAny_builtin F.entry_sum_loop ?_
    rw [Around.under_plainId F.plain_sum_loop _]
    show wpAny _ A.in1 (seqItems? (.ref S) >>= _) _ _ s
    refine wpAny_bind (wpAny_seqItems hS rfl ?_)
    show wpAny _ A.in1 (tryCatch (pyNext (.ref I)) _ >>= _) _ _ s
    refine wpAny_bind (wpAny_tryCatch (wpAny_pyNext_list_item hit pl.isList (x := .ref q) (by simpa using hu) fun h' hit' sb => ?_))
    obtain ⟨g0, g1, g2, g3, g4, g5⟩ := id fI
    have I1 : Inv X pins σ H { s with heap := h' } := I0.turned (t' := s.toks) (fun b o hb e => (sb.2 b hb).trans e) g0 g1 g3 g4 g5
    have hS1 : h'.get? S = some { cls := .type "list", dict := none, data := .seq #[.ref tot] c, slots := #[] } := (sb.2 S hSI).trans hS
    obtain ⟨z, i1, n1, r1, hl1, e1⟩ := I1.lstM hT
    obtain ⟨z2, i2, n2, r2, hl2, e2⟩ := I1.lstM hHq
    have hdrop : f.drop i = f[i] :: f.drop (i + 1) := List.drop_eq_getElem_cons hfl
    rw [hdrop, List.flatten_cons, List.length_append] at hz
    show wpAny _ A.in1 ((holding [Value.ref q] (binaryOp .Add (.ref tot) (.ref q))).attempt >>= _) _ _ _
    refine wpAny_bind (wpAny_attempt (wpAny_holding (PySem.P.add_list e1 e2 ?_ (by rw [List.size_toArray, List.size_toArray]; omega))))
    have ea : i1.toArray ++ i2.toArray = (i1 ++ i2).toArray := by simp
    rw [ea]
    have I2 := I1.lnew (t' := s.toks) (r1.append r2) (by rw [List.length_append]; omega)
    generalize hp : h'.objs.size = p at I2
    have hpS : S ≠ p := by rw [← hp]; exact Nat.ne_of_lt (Heap.lt_size hS1)
    have hpI : I ≠ p := by obtain ⟨oi, ei, _⟩ := hit'; rw [← hp]; exact Nat.ne_of_lt (Heap.lt_size ei)
    have hpn : H p = none := by rw [← hp]; exact I1.hok.fresh (Nat.le_refl _)
    have fS2 : FpOk X pins (L2.upd H p (.lst (acc ++ f[i]))) S := FpOk.upd fS hpS
    have fI2 : FpOk X pins (L2.upd H p (.lst (acc ++ f[i]))) I := FpOk.upd fI hpI
    show wpAny _ A.in1 (updateSeq S (fun _ => #[.ref p]) >>= _) _ _ _
    generalize hs2 : ({ s with heap := h'.push { cls := .type "list", data := .seq (i1 ++ i2).toArray } } : Shared) = s2
    have I2 : Inv X pins σ (L2.upd H p (.lst (acc ++ f[i]))) s2 := by
      subst hs2
      subst hp
      exact I2
    have hS2 : s2.heap.get? S = some { cls := .type "list", dict := none, data := .seq #[.ref tot] c, slots := #[] } := by subst hs2; exact Heap.get?_push_of_some _ hS1
    have hit2 : s2.heap.IsListIter I a (i + 1) := by
      obtain ⟨oi, ei, di⟩ := hit'
      subst hs2
      exact ⟨oi, Heap.get?_push_of_some _ ei, di⟩
    have hs2' : ({ heap := h'.push { cls := .type "list", data := .seq (i1 ++ i2).toArray }, gens := s.gens, drawn := s.drawn, toks := s.toks, os := s.os } : Shared) = s2 := hs2
    have goal : wpAny (model X.prog X.w) A.in1 (updateSeq S (fun _ => #[.ref p]) >>= fun _ => letGo [Value.ref tot, Value.ref q] >>= fun _ => (updateSeq S (fun _ => #[.ref p]) >>= fun _ => pure (Fin.again (.builtin "sum.loop" ⟨[.ref I, .ref S, rawInt 2, rawInt 0], []⟩))))
      (fun fin s' => match fin with
        | .done f => R (.ok f) s'
        | .again c' => c'.quiet = true ∧ codeAny (model X.prog X.w) A c' R s') (fun e s' => R (.error e) s') s2 := by
      refine wpAny_bind (wpAny_updateSeq hS2 rfl ?_)
      have hS3 := Heap.get?_update_self (Obj.mapSeq fun _ => #[Value.ref p]) hS2 rfl
      refine wpAny_bind (wpAny_letGo ?_)
      refine wpAny_bind (wpAny_updateSeq hS3 rfl (wpAny_pure ⟨plainId_quiet F.plain_sum_loop _, ?_⟩))
      have hS4 := Heap.get?_update_self (Obj.mapSeq fun _ => #[Value.ref p]) hS3 rfl
      obtain ⟨k0, k1, k2, k3, k4, k5⟩ := id fS2
      have oth : ∀ b o, b ≠ S → s2.heap.get? b = some o → ((s2.heap.update S (Obj.mapSeq fun _ => #[Value.ref p])).update S (Obj.mapSeq fun _ => #[Value.ref p])).get? b = some o := fun b o hb e =>
        (Heap.get?_update_other _ _ (Ne.symm hb)).trans ((Heap.get?_update_other _ _ (Ne.symm hb)).trans e)
      have I3 : Inv X pins σ (L2.upd H p (.lst (acc ++ f[i]))) { s2 with heap := (s2.heap.update S (Obj.mapSeq fun _ => #[Value.ref p])).update S (Obj.mapSeq fun _ => #[Value.ref p]) } := I2.turned (t' := s2.toks) oth k0 k1 k3 k4 k5
      have gr : Grow H (L2.upd H p (.lst (acc ++ f[i]))) := fun b o e => by rw [upd_ne (ne_of_none e hpn)]; exact e
      refine ih (i + 1) _ _ (acc ++ f[i]) p _ (by omega) hlt I3 hS4 fS2 fI2 ?_ ?_ (fun j xs hj => ?_) (by rw [upd_same]) (by rw [List.length_append]; omega) fun H' p' s' g I' hp' hor => hR H' p' s' (fun b o e => g b o (gr b o e)) I' ?_ (.inr ?_)
      · obtain ⟨oi, ei, di⟩ := hit2
        exact ⟨oi, oth _ _ (Ne.symm hSI) ei, di⟩
      · rcases ha with (ha | ⟨o, ha⟩) | ha
        · exact .inl (.inl (gr _ _ ha))
        · exact .inl (.inr ⟨o, gr _ _ ha⟩)
        · exact .inr ha
      · obtain ⟨q', h1, h2⟩ := hf j xs hj
        exact ⟨q', h1, gr _ _ h2⟩
      · rw [hdrop, List.flatten_cons, ← List.append_assoc]; exact hp'
      · rcases hor with rfl | h
        · exact hpn
        · cases e : H p' with
          | none => rfl
          | some o => rw [gr _ _ e] at h; cases h
    exact goal
def rSumL (K : PySem.W.Frag) : List V → Hp → VK → Prop := fun vs H Q => ∃ (a b : Addr) (xs : List V) (f : List (List V)), vs = [.ref a, .ref b] ∧ SqL K H a xs ∧ f.length = xs.length ∧ (∀ (j : Nat) ys, f[j]? = some ys → ∃ q, xs[j]? = some (.ref q) ∧ H q = some (.lst ys)) ∧ H b = some (.lst []) ∧ f.flatten.length ≤ sizeLine ∧
  ∀ H' p, Grow H H' → H' p = some (.lst f.flatten) → (p = b ∨ H p = none) → Q (.ref p) H'
theorem cr_sumL (hc : X.calm = true) : CallR X (.builtin "sum") (rSumL X.K) := by
  intro pins s σ H vs us Q I0 r h
  obtain ⟨a, b, xs, f, rfl, ha, hl, hf, hb, hz, hQ⟩ := h
  cases r with
  | cons r1 rr =>
    cases rr with
    | cons r2 rr =>
      cases rr
      cases r1
      cases r2
      have hh : X.A.in1.handled = none := I0.ok.hd hc
      obtain ⟨its, rv, pl, _⟩ := I0.list ha
      obtain ⟨z, ib, nb, rb, hlb, eb⟩ := I0.lstM hb
      refine call_function_tree F.kind_sum F.plain_sum F.entry_sum (args_sum2 _ _) ?_
      unfold Builtin.«sum»
      simp only [List.length_cons, List.length_nil]
      rw [if_neg (by decide)]
      refine wpAny_bind (wpAny_of_eq (show Builtin.Builtins.bindParams "sum" ["start"] 0 ⟨[.ref b], []⟩ = pure [some (.ref b)] from rfl) ?_)
      refine wpAny_bind (wpAny_pyIter_list pl.isList ?_)
      have I1 : Inv X pins σ H { s with heap := s.heap.push { cls := .type "list_iterator", data := .fields #[.ref a, .int 0 0] } } := I0.kept (t' := s.toks) fun b o e => Heap.get?_push_of_some _ e
      have fI : FpOk X pins H s.heap.objs.size := I0.fpOk (Nat.le_refl _) (I0.hok.fresh (Nat.le_refl _))
      have hit : (s.heap.push { cls := .type "list_iterator", data := .fields #[.ref a, .int 0 0] }).IsListIter s.heap.objs.size a 0 := ⟨_, Heap.get?_push_size _ rfl, rfl, rfl⟩
      have eb1 : (s.heap.push { cls := .type "list_iterator", data := .fields #[.ref a, .int 0 0] }).get? b = some _ := Heap.get?_push_of_some _ eb
      generalize hI : s.heap.objs.size = I at fI hit I1 ⊢
      generalize hs1 : ({ s with heap := s.heap.push { cls := .type "list_iterator", data := .fields #[.ref a, .int 0 0] } } : Shared) = s1 at I1 ⊢
      have hit1 : s1.heap.IsListIter I a 0 := by subst hs1; exact hit
      have tb : s1.TypeIs (.ref b) "list" := by subst hs1; exact ⟨_, eb1, rfl⟩
      refine wpAny_bind (wpAny_pure ?_)
      simp only [List.forIn_cons, List.forIn_nil]
      refine wpAny_bind (wpAny_bind (wpAny_bind (wpAny_isInstance (T := "list") (b := false) tb F.sub_list_str ?_)))
      simp only [Bool.false_eq_true, if_false]
      refine wpAny_pure (wpAny_bind (wpAny_bind (wpAny_isInstance (T := "list") (b := false) tb sub_list_bytes' ?_)))
      simp only [Bool.false_eq_true, if_false]
      refine wpAny_pure (wpAny_bind (wpAny_bind (wpAny_isInstance (T := "list") (b := false) tb sub_list_bytearray' ?_)))
      simp only [Bool.false_eq_true, if_false]
      refine wpAny_pure (wpAny_pure ?_)
      refine wpAny_bind (wpAny_newObj_type ?_)
      have I2 : Inv X pins σ H { s1 with heap := s1.heap.push { cls := .type "list", data := .seq [Value.ref b].toArray } } := I1.kept (t' := s1.toks) fun b o e => Heap.get?_push_of_some _ e
      have fS : FpOk X pins H s1.heap.objs.size := I1.fpOk (Nat.le_refl _) (I1.hok.fresh (Nat.le_refl _))
      have hSI : s1.heap.objs.size ≠ I := by obtain ⟨oi, ei, _⟩ := hit1; exact Nat.ne_of_gt (Heap.lt_size ei)
      refine wpAny_pure ⟨plainId_quiet F.plain_sum_loop _, sum_lists hc (A := X.A) (I0.ok.hd hc) hSI hl xs.length 0 _ H [] b 0 rfl (Nat.zero_le _) I2 (Heap.get?_push_size _ rfl) fS fI ?_ ha hf hb (by simpa using hz) fun H' p s' g I' hp hor => ?_⟩
      · obtain ⟨oi, ei, di⟩ := hit1
        exact ⟨oi, Heap.get?_push_of_some _ ei, di⟩
      · exact ⟨.ref p, H', I', rfl, hQ H' p g (by simpa using hp) hor⟩
end

/-! ### worlds that grow by themselves -/
def Wd.hp (w : Wd) (H : Hp) : Wd := { w with H := H }
theorem Wd.hp_ext {w : Wd} {H : Hp} (g : Grow w.H H) : Ext w (w.hp H) where
  pre := fun _ _ h => h
  keep := fun a u h _ => g a u h
  trk := fun a h z => by
    cases e : w.H a with
    | none => exact h e
    | some o => have e2 : H a = some o := g a o e; have z : H a = none := z; rw [e2] at z; cases z
  mt := fun _ h => .inl h
  mkp := fun _ h _ => h
  ws := fun _ h => .inl h
  xs := rfl
theorem FRel.hp {T : Tb} {w : Wd} {σ : L2.St} {sl : List Sl} {mu : List PV} {H : Hp} (F : FRel T w σ sl mu) (g : Grow w.H H) : FRel T (w.hp H) σ sl mu := by
  have e := Wd.hp_ext g
  refine ⟨⟨F.wok.sub, fun a h => e.trk a (F.wok.mtr a h)⟩, F.len, fun i q h => ?_, fun i q h => ?_, F.ows, ⟨F.cel.mlen, fun n c a h1 h2 => ?_, F.cel.inj⟩, fun i c fs h => ex_ext F.wok e (F.ex i c fs h)⟩
  · obtain ⟨v, h1, h2⟩ := F.va i q h
    exact ⟨v, h1, RepV.ext F.wok e q v h2⟩
  · obtain ⟨a, h1, h2, h3, h4⟩ := F.ow i q h
    exact ⟨a, h1, h2.ext_keep F.wok e (g a), h3, h4⟩
  · obtain ⟨h3, h4⟩ := F.cel.cl n c a h1 h2
    exact ⟨h3.ext_keep F.wok e (g a), h4⟩
theorem Reps.lsts {T : Tb} {w : Wd} : ∀ {l : List PV} {ls : List (List PV)} {vs : List V}, pLsts l = some ls → Reps T w l vs → ∃ f : List (List V), f.length = vs.length ∧ (∀ (j : Nat) ys, f[j]? = some ys → ∃ q, vs[j]? = some (.ref q) ∧ w.H q = some (.lst ys)) ∧ Reps T w ls.flatten f.flatten
  | [], ls, vs, e, h => by
    simp only [pLsts, Option.some.injEq] at e
    subst e
    simp only [Reps] at h
    subst h
    exact ⟨[], rfl, fun j ys hj => by simp at hj, by simp [Reps]⟩
  | p :: l, ls, vs, e, h => by
    cases p with
    | lst x =>
      simp only [RA.pLsts, Option.map_eq_some_iff] at e
      obtain ⟨ns', e', rfl⟩ := e
      simp only [Reps] at h
      obtain ⟨v, r, rfl, h1, h2⟩ := h
      simp only [RepV] at h1
      obtain ⟨a, xs, rfl, k1, k2, k3⟩ := h1
      obtain ⟨f, f1, f2, f3⟩ := Reps.lsts e' h2
      refine ⟨xs :: f, by simp [f1], fun j ys hj => ?_, by rw [List.flatten_cons, List.flatten_cons]; exact k3.append f3⟩
      cases j with
      | zero => simp at hj; subst hj; exact ⟨a, rfl, k1⟩
      | succ j => simpa using f2 j ys (by simpa using hj)
    | _ => simp [RA.pLsts] at e
section
variable {T : Tb} {X : Cx}
theorem bi_sum2 {ps : List PV} {z : PV} (e : bi .sum2 ps = some z) : ∃ l ls, ps = [.lst l, .lst []] ∧ pLsts l = some ls ∧ ls.flatten.length ≤ SZ ∧ z = .lst ls.flatten := by
  unfold bi at e
  split at e <;> (try simp only [Option.bind_eq_some_iff, Option.ite_none_right_eq_some, Option.some.injEq] at e) <;> simp_all
  obtain ⟨ls, h1, h2, h3⟩ := e
  exact ⟨ls, h1, h2, h3.symm⟩
theorem snd_sum2 (hK : T.K = X.K) (hc : X.calm = true) : CallR X (.builtin "sum") (rPs T (bi .sum2)) := by
  intro pins s σ H vs us Q I rs h
  obtain ⟨w, σ', sl, mu, ps, z, rfl, F, rp, e, h⟩ := h
  obtain ⟨l, ls, rfl, h1, h2, rfl⟩ := bi_sum2 e
  obtain ⟨v1, v2, rfl, r1, r2⟩ := reps2 rp
  simp only [RepV] at r1 r2
  obtain ⟨a, xs, rfl, k1, k2, k3⟩ := r1
  obtain ⟨b, ys, rfl, j1, j2, j3⟩ := r2
  simp only [Reps] at j3
  subst j3
  obtain ⟨f, f1, f2, f3⟩ := Reps.lsts h1 k3
  refine cr_sumL hc pins s σ w.H _ us Q I rs ⟨a, b, xs, f, rfl, SqL.of k1, f1, f2, j1, ?_, fun H' p g hp hor => ?_⟩
  · rw [← f3.len, sizeLine_eq]; exact h2
  · have ex := Wd.hp_ext g
    refine h (w.hp H') ex (F.hp g) _ ?_
    simp only [RepV]
    refine ⟨p, f.flatten, rfl, hp, fun z => ?_, Reps.ext F.wok ex _ _ f3⟩
    rcases hor with rfl | hn
    · exact j2 z
    · exact F.wok.mtr p z hn
theorem vals_at {xs : List V} {us : List Value} (hl : xs.length = us.length) (h : ∀ (i : Nat) x u, xs[i]? = some x → us[i]? = some u → RelV x u) : Vals xs us := by
  induction xs generalizing us with
  | nil => cases us with
    | nil => exact .nil
    | cons _ _ => simp at hl
  | cons x xs ih => cases us with
    | nil => simp at hl
    | cons u us => exact .cons (h 0 x u rfl rfl) (ih (by simpa using hl) fun i x u h1 h2 => h (i + 1) x u (by simpa using h1) (by simpa using h2))
theorem bi_list2 {ps : List PV} {z : PV} (e : bi .list ps = some z) : lsV ps = some z ∨ ∃ x, ps = [.str x] := by
  unfold bi at e
  split at e <;> simp_all [lsV]
theorem snd_lists (hK : T.K = X.K) (hc : X.calm = true) : CallR X (.type "list") (rPs T (bi .list)) := by
  intro pins s σ H vs us Q I rs h
  obtain ⟨w, σ', sl, mu, ps, z, rfl, F, rp, e, h⟩ := h
  by_cases hx : ∃ x, ps = [.str x]
  · obtain ⟨x, rfl⟩ := hx
    simp only [bi, Option.some.injEq] at e
    subst e
    obtain ⟨v, rfl, r⟩ := reps1 rp
    simp only [RepV] at r
    obtain ⟨rfl, hz⟩ := r
    cases rs with
    | cons r1 rr =>
      cases rr
      obtain ⟨t, rfl⟩ := r1
      have hn : (⟨x.toArray⟩ : Str).cps.size ≤ sizeLine := by rw [sizeLine_eq]; simpa using hz
      refine PySem.call_list_str (I.ok.hd hc) _ t (fun h' tk acc' c' kp e2 it => ?_) hn
      have hvs : Vals (x.map fun c => V.str ⟨#[c]⟩) acc'.toList := by
        obtain ⟨hsz, hat⟩ := it
        refine vals_at (by simp [hsz]) fun i y u h1 h2 => ?_
        obtain ⟨c, k, hc', rfl⟩ := hat i u (by simpa using h2)
        simp only [List.getElem?_map, Option.map_eq_some_iff] at h1
        obtain ⟨c2, hc2, rfl⟩ := h1
        have hc' : x[i]? = some c := by simpa using hc'
        rw [hc2] at hc'; cases hc'
        exact ⟨k, rfl⟩
      have I2 : Inv X pins σ (L2.upd w.H s.heap.objs.size (.lst (x.map fun c => V.str ⟨#[c]⟩))) { s with heap := h', toks := tk } :=
        I.laid kp (Nat.le_refl _) (show ObjOk X.prog X.w _ _ _ (.lst _) from ⟨by rw [List.length_map, sizeLine_eq]; exact hz, acc'.toList, c', hvs, by rw [Array.toArray_toList]; exact e2⟩)
      exact ⟨.ref s.heap.objs.size, _, I2, rfl, P2.lst F h (charsReps x) (I.hok.fresh (Nat.le_refl _))⟩
  · refine snd_list hK pins s σ _ _ us Q I rs ⟨w, σ', sl, mu, ps, z, rfl, F, rp, ?_, h⟩
    exact (bi_list2 e).resolve_right hx
end

/-! ### index of a sign -/
theorem at_iff (s : List Nat) (c i : Nat) : StrLaws.At (⟨s.toArray⟩ : Str) ⟨#[c]⟩ (⟨s.toArray⟩ : Str).length i ↔ s[i]? = some c := by
  unfold StrLaws.At
  rw [StrLaws.subAt_eq]
  have hl : (⟨s.toArray⟩ : Str).length = s.length := by simp [Str.length]
  have h1 : (⟨#[c]⟩ : Str).length = 1 := rfl
  rw [hl, h1]
  constructor
  · rintro ⟨h, e⟩
    have e := eq_of_beq e
    have e : (s.drop i).take 1 = [c] := e
    have hi : i < s.length := by omega
    rw [List.drop_eq_getElem_cons hi, List.take_succ_cons] at e
    injection e with e _
    rw [List.getElem?_eq_getElem hi, e]
  · intro h
    obtain ⟨hi, e⟩ := List.getElem?_eq_some_iff.mp h
    refine ⟨by omega, ?_⟩
    show ((s.drop i).take 1 == [c]) = true
    rw [List.drop_eq_getElem_cons hi, List.take_succ_cons, e]
    simp
theorem index_occ (s : List Nat) (c j : Nat) (h : s.findIdx? (· == c) = some j) : ∃ rest, Builtin.Str.occurrences (⟨s.toArray⟩ : Str) ⟨#[c]⟩ 0 (⟨s.toArray⟩ : Str).length 1 = j :: rest := by
  rw [List.findIdx?_eq_some_iff_getElem] at h
  obtain ⟨hj, e, hb⟩ := h
  have e : s[j] = c := by simpa using e
  have aj := (at_iff s c j).mpr (by rw [List.getElem?_eq_getElem hj, e])
  rcases StrLaws.occ_head (⟨s.toArray⟩ : Str) ⟨#[c]⟩ 1 (Nat.le_refl _) with ⟨_, hn⟩ | ⟨i, r, hr, ai, hk⟩
  · exact absurd aj (hn j)
  · have hi := (at_iff s c i).mp ai
    obtain ⟨hil, ei⟩ := List.getElem?_eq_some_iff.mp hi
    rcases Nat.lt_trichotomy i j with z | z | z
    · have := hb i z
      simp [ei] at this
    · subst z; exact ⟨r, hr⟩
    · exact absurd aj (hk j z)
theorem mt_idx {p : PV} {ps : List PV} {z : PV} (e : mt .index p ps = some z) : ∃ s c j, p = .str s ∧ ps = [.str [c]] ∧ s.findIdx? (· == c) = some j ∧ z = .int (j : Nat) := by
  unfold mt at e
  split at e <;> (try simp only [Option.map_eq_some_iff] at e) <;> simp_all
  obtain ⟨a, h1, h2⟩ := e
  exact ⟨a, h1, h2.symm⟩
theorem snd_index {T : Tb} {X : Cx} (hK : T.K = X.K) : MtR X "str.index" (rMt T .index) := by
  intro pins s σ H x xs v us Q I rx rs h
  obtain ⟨w, σ', sl, mu, p, ps, z, rfl, F, rp, rps, e, h⟩ := h
  obtain ⟨y, c, j, rfl, rfl, h1, rfl⟩ := mt_idx e
  obtain ⟨u, rfl, r⟩ := reps1 rps
  simp only [RepV] at r rp
  obtain ⟨rfl, _⟩ := rp
  obtain ⟨rfl, _⟩ := r
  obtain ⟨rest, hr⟩ := index_occ y c j h1
  exact L2.mt_sindex pins s σ _ _ _ v us Q I rx rs ⟨_, _, j, rest, rfl, rfl, hr, P2.here F h (by simp only [RepV])⟩
end RA

/-! Dicts of texts; a text backwards. -/
namespace RA
open PySem PySem.Spec PyProof.Rows L2

/-! ### backwards -/
theorem rev_idx (z : Str) : (Builtin.Str.strSliceIndices none none (-1) z.length).filterMap (z.cps[·]?) = z.cps.toList.reverse := by
  show (sliceRange ((z.cps.size : Int) - 1) (-1) (-1)).filterMap (z.cps[·]?) = _
  rw [PySem.W.krv_sliceRange, PySem.W.krv_range, List.filterMap_reverse, PySem.W.krv_all]
section
variable {X : Cx}
def tRevS (te : TE) : TE := fun σ H Q => te σ H fun x H1 => ∃ z : Str, x = .str z ∧ z.length ≤ sizeLine ∧ Q (.str ⟨z.cps.toList.reverse.toArray⟩) H1
theorem pe_revS {e : Expr} {te : TE} {k : Nat} {p1 p2 p3 pos : Pos} (he : PE X e te) : PE X (.Subscript e (.Slice none none (some (.UnaryOp .USub (.Constant (.int 1) k p1) p2)) p3) pos) (tRevS te) := by
  refine ⟨fun pins s σ H Q I h => ?_⟩
  refine Subscript_ (thn (he.run pins s σ H _ I h) fun v s1 ⟨x, H1, I1, r1, q1⟩ => ?_)
  obtain ⟨z, ex, hz, q⟩ := q1
  subst ex
  obtain ⟨t, rfl⟩ := r1
  have hst : PO X (some (.UnaryOp .USub (.Constant (.int 1) k p1) p2)) (tPart (tUn (rU fun i => .int (-i)) (tC (.int 1)))) := po_some (pe_un un_neg pe_int)
  refine wpAny_Slice (thn (po_none.run pins s1 σ H1 (fun o H2 => o = none ∧ H2 = H1) I1 ⟨rfl, rfl⟩) fun vl s2 ⟨l, H2, I2, pl, el, e2⟩ => ?_)
  subst el e2
  refine thn (po_none.run pins s2 σ H2 (fun o H3 => o = none ∧ H3 = H2) I2 ⟨rfl, rfl⟩) fun vu s3 ⟨u, H3, I3, pu, eu, e3⟩ => ?_
  subst eu e3
  refine thn (hst.run pins s3 σ H3 (fun o H4 => o = some (-1) ∧ H4 = H3) I3 ⟨1, rfl, -1, rfl, rfl, rfl⟩) fun vs s4 ⟨o, H4, I4, ps, eo, e4⟩ => ?_
  subst eo e4
  obtain ⟨l0, rfl, hl0⟩ := IsPart.raw pl
  obtain ⟨u0, rfl, hu0⟩ := IsPart.raw pu
  obtain ⟨st, rfl, hst0⟩ := IsPart.raw ps
  have I5 : L2.Inv X pins σ H4 { s4 with heap := s4.heap.push { cls := .type "slice", data := .fields #[partValue l0, partValue u0, partValue st] } } := I4.kept (t' := s4.toks) fun b ob q => Heap.get?_push_of_some _ q
  show wpAny (model X.prog X.w) X.A (subscriptTail e (.Slice none none (some (.UnaryOp .USub (.Constant (.int 1) k p1) p2)) p3) (.str z t) (.ref s4.heap.objs.size)) (EP X pins σ Q) X.xe { s4 with heap := s4.heap.push { cls := .type "slice", data := .fields #[partValue l0, partValue u0, partValue st] } }
  refine tail_any (ops := [.ref s4.heap.objs.size, .str z t]) (typeIs_str _ z t) (PySem.F.slot_str_getitem.lookup) ?_ (by with_unfolding_all rfl)
  refine wpAny_getItem_str_slice (l := l0) (u := u0) (st := st) ⟨_, Heap.get?_push_size _ rfl, rfl, rfl⟩ (by rw [hst0]; rfl) ?_
  unfold sliceMade slicePicked
  rw [hl0, hu0, hst0]
  show Made.post (if ((-1 : Int) == 1 && _) = true then _ else Made.str ⟨((Builtin.Str.strSliceIndices none none (-1) z.length).filterMap (z.cps[·]?)).toArray⟩) _ _
  rw [rev_idx]
  refine ⟨?_, .str _, H4, I5.tok _, ⟨_, rfl⟩, q⟩
  show (z.cps.toList.reverse.toArray).size ≤ sizeLine
  simpa [Str.length] using hz
end

/-! ### keys that are not there twice -/
def keyOf : PV → Key
  | .str t => .inr ⟨t.toArray⟩
  | _ => .inl 0
theorem keyOf_inj {x y : List Nat} (h : (Sum.inr (⟨x.toArray⟩ : Str) : Key) = Sum.inr ⟨y.toArray⟩) : x = y := by
  have h := Sum.inr.inj h
  have h2 := congrArg (fun s : Str => s.cps.toList) h
  simpa using h2
theorem merge_mkG : ∀ (l : List (PV × PV)) (seen : List PV) (acc : List (Key × V)) (vv : List V), mkG l seen = true → vv.length = l.length → (∀ t, hasD seen t = false → valV acc (.inr ⟨t.toArray⟩) = none) →
    mergeK acc ((l.map fun p => keyOf p.1).zip vv) = acc ++ ((l.map fun p => keyOf p.1).zip vv)
  | [], seen, acc, vv, _, _, _ => by simp [mergeK]
  | (k, x) :: l, seen, acc, [], _, h, _ => by simp at h
  | (k, x) :: l, seen, acc, v :: vv, h, hl, hs => by
    unfold mkG at h
    cases k with
    | str t =>
      simp only [Bool.and_eq_true, Bool.not_eq_true'] at h
      have h0 := hs t h.1
      have hp : putK acc (.inr ⟨t.toArray⟩) v = acc ++ [(.inr ⟨t.toArray⟩, v)] := putK_new v h0
      have ih := merge_mkG l (.str t :: seen) (acc ++ [(.inr ⟨t.toArray⟩, v)]) vv h.2 (by simpa using hl) fun t' ht' => by
        unfold hasD at ht'
        rw [List.any_cons, Bool.or_eq_false_iff] at ht'
        obtain ⟨h1, h2⟩ := ht'
        rw [valV_snoc _ _ _ _ h0, if_neg fun e => ?_]
        · exact hs t' h2
        · have := keyOf_inj e
          subst this
          simp at h1
      show mergeK (putK acc (.inr ⟨t.toArray⟩) v) ((l.map fun p => keyOf p.1).zip vv) = acc ++ ((.inr ⟨t.toArray⟩, v) :: (l.map fun p => keyOf p.1).zip vv)
      rw [hp, ih, List.append_assoc]; rfl
    | _ => simp at h
theorem keys_rep {T : Tb} {w : Wd} : ∀ {l : List (PV × PV)} {seen : List PV} {ks : List V}, mkG l seen = true → Reps T w (l.map (·.1)) ks → ks = l.map fun p => kV (keyOf p.1)
  | [], seen, ks, _, h => by simpa only [List.map_nil, Reps] using h
  | (k, x) :: l, seen, ks, h, r => by
    unfold mkG at h
    cases k with
    | str t =>
      simp only [Bool.and_eq_true, Bool.not_eq_true'] at h
      simp only [List.map_cons, Reps, RepV] at r
      obtain ⟨v, rr, rfl, ⟨rfl, _⟩, r2⟩ := r
      rw [keys_rep h.2 r2]
      rfl
    | _ => simp at h
/-- the dict that pairs make, in the abstract heap -/
theorem dic_rep {T : Tb} {w : Wd} {l : List (PV × PV)} {ks vs : List V} {a : Addr} (hg : mkG l [] = true) (rk : Reps T w (l.map (·.1)) ks) (rv : Reps T w (l.map (·.2)) vs) (ha : w.H a = some (.dK ((l.map fun p => keyOf p.1).zip vs))) (hm : ¬ w.mb a) : RepV T w (.dic (l.map (·.1)) (l.map (·.2))) (.ref a) := by
  have hl : (l.map fun p => keyOf p.1).length = vs.length := by have := rv.len; simpa using this
  simp only [RepV]
  refine ⟨a, _, rfl, ha, hm, ?_, ?_⟩
  · have e : ((l.map fun p => keyOf p.1).zip vs).map (fun p => kV p.1) = ks := by
      rw [keys_rep hg rk]
      have : (fun (p : Key × V) => kV p.1) = kV ∘ Prod.fst := rfl
      rw [this, ← List.map_map, List.map_fst_zip (by omega), List.map_map]
      rfl
    rw [e]; exact rk
  · rw [List.map_snd_zip (by omega)]; exact rv
theorem getD_val {T : Tb} {w : Wd} : ∀ {ks vs : List PV} {kvs : List (Key × V)} {t : List Nat} {o : Option PV}, getD ks vs t = some o → Reps T w ks (kvs.map fun p => kV p.1) → Reps T w vs (kvs.map (·.2)) →
    (o = none ∧ valV kvs (.inr ⟨t.toArray⟩) = none) ∨ ∃ p v, o = some p ∧ valV kvs (.inr ⟨t.toArray⟩) = some v ∧ RepV T w p v
  | [], vs, kvs, t, o, h, rk, rv => by
    unfold getD at h
    split at h
    · cases h
      simp only [Reps] at rk
      have : kvs = [] := by simpa using rk
      subst this
      exact .inl ⟨rfl, rfl⟩
    · cases h
  | k :: ks, vs, kvs, t, o, h, rk, rv => by
    unfold getD at h
    split at h
    · rename_i v vs
      split at h
      · rename_i x
        cases kvs with
        | nil => simp [Reps] at rk
        | cons p kvs =>
          simp only [List.map_cons, Reps, RepV] at rk rv
          obtain ⟨_, _, e1, ⟨e2, _⟩, rk⟩ := rk
          obtain ⟨_, _, e3, r3, rv⟩ := rv
          cases e1
          cases e3
          obtain ⟨pk, pv⟩ := p
          have hk : pk = .inr ⟨x.toArray⟩ := by
            cases pk with
            | inl i => cases e2
            | inr s => have e2 : V.str s = V.str _ := e2; cases e2; rfl
          subst hk
          split at h
          · rename_i hx
            obtain rfl := eq_of_beq hx
            cases h
            exact .inr ⟨v, pv, rfl, valV_pos rfl, r3⟩
          · rename_i hx
            have hne : ¬ (Sum.inr (⟨x.toArray⟩ : Str) : Key) = .inr ⟨t.toArray⟩ := fun e => hx (by rw [keyOf_inj e]; simp)
            rw [valV_neg hne]
            exact getD_val h rk rv
      · cases h
    · cases h

/-! ### dict(t) of a tuple of pairs -/
section
variable {X : Cx}
theorem pairs_ofT {pins : List (Addr × Obj)} {σ : L2.St} {H : Hp} {s : Shared} (I : L2.Inv X pins σ H s) : ∀ {ps : List Addr} {kvs : List (Key × V)}, Paired (fun p kv => SqT X.K H p [kV kv.1, kv.2]) ps kvs →
    ∃ (prs : List (Key × Value)) (us : List Value), KV kvs prs ∧ prs.length = ps.length ∧ us.length = ps.length ∧ ∀ (j : Nat) (k v : Value), (us.zip (prs.map (·.2)))[j]? = some (k, v) → ∃ (b : Addr) (q : Key × Value), ps[j]? = some b ∧ prs[j]? = some q ∧ q.2 = v ∧ IsTup s.heap b #[k, v] ∧ keyIs q.1 k = true
  | _, _, .nil => ⟨[], [], .nil, rfl, rfl, fun j k v e => by simp at e⟩
  | _, _, .cons (a := p) (b := kv) h t => by
    obtain ⟨prs, us, r, hl, hl2, hp⟩ := pairs_ofT I t
    obtain ⟨its, rv, ht, _⟩ := I.tuple h
    obtain ⟨u, y, ei, ru, ry⟩ := vals2 rv
    subst ei
    refine ⟨(kv.1, y) :: prs, u :: us, .cons ⟨rfl, ry⟩ r, by simp [hl], by simp [hl2], fun j k v e => ?_⟩
    cases j with
    | zero =>
      have e' : (u, y) = (k, v) := by simpa using e
      cases e'
      exact ⟨p, (kv.1, y), rfl, rfl, rfl, ht, kV_is (P := X.prog) (w := X.w) ru⟩
    | succ j =>
      obtain ⟨b, q, e1, e2, e3⟩ := hp j k v (by simpa using e)
      exact ⟨b, q, by simpa using e1, by simpa using e2, e3⟩
def rDof (K : PySem.W.Frag) : List V → Hp → VK → Prop := fun xs H Q => ∃ (a : Addr) (ps : List Addr) (kvs : List (Key × V)), xs = [.ref a] ∧ ((∃ O, O.dict = none ∧ H a = some (.frz O (.tup (ps.map V.ref)))) ∨ KT K a (ps.map V.ref)) ∧ Paired (fun p kv => SqT K H p [kV kv.1, kv.2]) ps kvs ∧
    ∀ p, H p = none → Q (.ref p) (L2.upd H p (.dK (mergeK [] kvs)))
theorem call_dof (hcalm : X.calm = true) : CallR X (.type "dict") (rDof X.K) := by
  intro pins s σ H xs us Q I r q
  obtain ⟨a, ps, kvs, ex, hq, hp, q⟩ := q
  subst ex
  obtain ⟨u, eu, rx⟩ := vals1 r
  subst eu
  cases rx
  have hsq : SqT X.K H a (ps.map V.ref) := hq.elim (fun ⟨O, _, h⟩ => .inl (.inr ⟨O, h⟩)) fun ⟨o, its, n, h1, h2, _, h4⟩ => .inr ⟨o, its, n, h1, h2, h4⟩
  obtain ⟨its, rv, pl, hz⟩ := I.tuple hsq
  have ei := refs_at rv
  subst ei
  rw [List.length_map] at hz
  have plain : PlainSeq "tuple" s.heap a (ps.map Value.ref).toArray := by
    obtain ⟨o, ho, hc, n, hd⟩ := pl
    refine ⟨o, n, ho, hc, ?_, hd⟩
    rcases hq with ⟨O, hO, h⟩ | ⟨o', its', n', h1, h2, h3, h4⟩
    · have e : s.heap.get? a = some O := (I.hok a _ h).1
      rw [ho] at e; cases e
      exact hO
    · have e := I.kIn _ _ h1
      rw [ho] at e; cases e
      exact h3
  obtain ⟨prs, us, rel, hl, hl2, hpr⟩ := pairs_ofT I hp
  have hzl : (us.zip (prs.map (·.2))).length = ps.length := by rw [List.length_zip, List.length_map]; omega
  refine PySem.call_dict_pairs (knd := mixKind X.prog X.w) (kvs := prs) (PairArg.tuple a (ps.map Value.ref).toArray (fun j => ps.getD j 0) (us.zip (prs.map (·.2)))) (I.ok.hd hcalm) ⟨plain, by rw [hzl]; simp, fun j k v e => ?_⟩ ⟨by rw [hzl]; exact hl, fun i key v e => ?_⟩ (by rw [hzl]; exact hz) fun h' tk hd' k => ?_
  · obtain ⟨b, q', e1, e2, e3, e4, e5⟩ := hpr j k v e
    have hb : ps.getD j 0 = b := by rw [List.getD_eq_getElem?_getD, e1]; rfl
    show _ = some (Value.ref (ps.getD j 0)) ∧ PairAt s.heap (ps.getD j 0) k v
    rw [hb]
    exact ⟨by simp [e1], .inl e4⟩
  · obtain ⟨b, q', e1, e2, e3, e4, e5⟩ := hpr i key v e
    obtain ⟨q1, q2⟩ := q'
    have e3 : q2 = v := e3
    subst e3
    exact ⟨q1, e2, e5⟩
  · have hm : (s.heap.objs.size == sysModules) = false := beq_eq_false_iff_ne.mpr (Nat.ne_of_gt I.big)
    have hlen : (mergeK [] kvs).length ≤ sizeLine := by
      refine Nat.le_trans (length_mergeK kvs []) ?_
      rw [List.length_nil, Nat.zero_add, rel.length, hl]
      exact hz
    exact ⟨.ref s.heap.objs.size, L2.upd H s.heap.objs.size (.dK (mergeK [] kvs)), I.laid (t' := tk) (fun b o e => k b o (by simp) e) (Nat.le_refl _) (show ObjOk X.prog X.w _ _ _ (.dK (mergeK [] kvs)) from ⟨hlen, hm, merged [] prs, KV.merge rel .nil, hd'⟩), rfl, q _ (I.hok.fresh (Nat.le_refl _))⟩
end
end RA

/-! Soundness: dicts of texts; a text backwards. -/
namespace RA
open PySem L2

section
variable {S : Gs} {C : Ck} {sc : Scope} {fb : Str → Bool} {X : Cx} {W : WX}
theorem s_rev (x0 : XOk S C sc fb X) {a : Ex} {x : Expr} {k : Nat} {p1 p2 p3 pos : Pos} (ha : SE S W X a x) : SE S W X (.rev a) (.Subscript x (.Slice none none (some (.UnaryOp .USub (.Constant (.int 1) k p1) p2)) p3) pos) := by
  refine PE.imp (pe_revS ha) fun σ H Q h => ?_
  obtain ⟨w, sl, mu, hH, F, P⟩ := h
  refine tE.bnd hH F P fun p v sl1 mu1 w1 e1 F1 rv P1 => ?_
  obtain ⟨z, hz, h⟩ := P1.lift
  cases p <;> simp at hz
  subst hz
  simp only [RepV] at rv
  obtain ⟨rfl, hl⟩ := rv
  refine ⟨_, rfl, by rw [str_len, sizeLine_eq]; exact hl, h w1 (Ext.refl w1) F1 _ ?_⟩
  simp only [RepV]
  exact ⟨by simp, by rw [List.length_reverse]; exact hl⟩
/-- a new thing that is being filled -/
def Wd.layO (w : Wd) (D : Addr) (o : HO) : Wd := { w with H := upd w.H D o, mb := fun a => w.mb a ∨ a = D }
theorem layO_ext {w : Wd} {D : Addr} {o : HO} (hD : w.H D = none) : Ext w (w.layO D o) where
  pre := fun _ _ h => h
  keep := fun a u h _ => by show upd w.H D _ a = _; rw [upd_ne (ne_of_none h hD)]; exact h
  trk := fun a h => by
    show upd w.H D _ a ≠ none
    by_cases e : a = D
    · rw [e, upd_same]; simp
    · rw [upd_ne e]; exact h
  mt := fun a h => h.elim .inl fun e => .inr (e ▸ hD)
  mkp := fun a h _ => .inl h
  ws := fun _ h => .inl h
  xs := rfl
theorem FRel.layO {T : Tb} {w : Wd} {σ : L2.St} {sl : List Sl} {mu : List PV} {D : Addr} {o : HO} (F : FRel T w σ sl mu) (hD : w.H D = none) : FRel T (w.layO D o) σ sl mu := by
  have e := layO_ext (o := o) hD
  have k : ∀ a u, w.H a = some u → (w.layO D o).H a = some u := fun a u h => by show upd w.H D _ a = _; rw [upd_ne (ne_of_none h hD)]; exact h
  refine ⟨⟨fun a h => .inl (F.wok.sub a h), fun a h => ?_⟩, F.len, fun i q h => ?_, fun i q h => ?_, F.ows, ⟨F.cel.mlen, fun n c a h1 h2 => ?_, F.cel.inj⟩, fun i c fs h => ex_ext F.wok e (F.ex i c fs h)⟩
  · rcases h with h | rfl
    · exact e.trk a (F.wok.mtr a h)
    · show upd w.H a _ a ≠ none
      rw [upd_same]; simp
  · obtain ⟨v, h1, h2⟩ := F.va i q h
    exact ⟨v, h1, RepV.ext F.wok e q v h2⟩
  · obtain ⟨a, h1, h2, h3, h4⟩ := F.ow i q h
    exact ⟨a, h1, h2.ext_keep F.wok e (k a), h3, h4⟩
  · obtain ⟨h3, h4⟩ := F.cel.cl n c a h1 h2
    exact ⟨h3.ext_keep F.wok e (k a), h4⟩
/-- the readings of a display's pairs -/
def trsOf (S : Gs) (W : WX) : Exs → List (TE × TE)
  | .cons k (.cons v r) => (tE S.T S.C W (sE S k), tE S.T S.C W (sE S v)) :: trsOf S W r
  | _ => []
def flat : List (V × V) → List V
  | [] => []
  | p :: r => p.1 :: p.2 :: flat r
theorem Reps.flat {T : Tb} {w : Wd} : ∀ {l : List PV} {prs' : List (PV × PV)} {ps : List (V × V)}, prs l = some prs' → Reps T w l (RA.flat ps) → Reps T w (prs'.map (·.1)) (ps.map (·.1)) ∧ Reps T w (prs'.map (·.2)) (ps.map (·.2))
  | [], prs', ps, h, r => by
    unfold prs at h
    cases h
    cases ps with
    | nil => simp [Reps]
    | cons p ps => simp [RA.flat, Reps] at r
  | [_], prs', ps, h, r => by
    unfold prs at h
    simp at h
  | k :: v :: l, prs', ps, h, r => by
    unfold prs at h
    simp only [Option.map_eq_some_iff] at h
    obtain ⟨q, h, rfl⟩ := h
    cases ps with
    | nil => simp [RA.flat, Reps] at r
    | cons p ps =>
      simp only [RA.flat, Reps] at r
      obtain ⟨_, _, e1, r1, _, _, e2, r2, r⟩ := r
      cases e1
      cases e2
      obtain ⟨h1, h2⟩ := Reps.flat h r
      simp only [List.map_cons, Reps]
      exact ⟨⟨_, _, rfl, r1, h1⟩, _, _, rfl, r2, h2⟩
theorem pairs_wish {G : List PV} {cf : Nat → List PV → List PV → CR} (hG : G = S.G) (hc : cf = S.cf) : ∀ (es : Exs) {keys : List (Option Expr)} {values : List Expr} (hk : ckD C sc fb es keys values = true) {σ : L2.St} {R : List (V × V) → Hp → Prop} {w : Wd} {sl : List Sl} {mu : List PV}, FRel S.T w σ sl mu →
    Pst S.T S.C W σ w (evs G cf es sl mu) (fun l _ _ w' => ∀ ps, Reps S.T w' l (RA.flat ps) → R ps w'.H) → tPairs (trsOf S W es) σ w.H R
  | .nil, keys, values, hk, σ, R, w, sl, mu, F, P => by
    unfold evs at P
    exact P w (Ext.refl w) F [] (by simp [RA.flat, Reps])
  | .cons k .nil, keys, values, hk, σ, R, w, sl, mu, F, P => by simp [ckD] at hk
  | .cons k (.cons v r), keys, values, hk, σ, R, w, sl, mu, F, P => by
    subst hG hc
    have hk' : ∃ ks vs, ckD C sc fb r ks vs = true := by
      unfold ckD at hk
      simp only at hk
      split at hk
      · simp only [Bool.and_eq_true] at hk; exact ⟨_, _, hk.2⟩
      · cases hk
    obtain ⟨ks, vs, hk'⟩ := hk'
    have P : Pst S.T S.C W σ w ((ev S.G S.cf k sl mu).bnd fun x s m => ((ev S.G S.cf v s m).bnd fun y s m => (evs S.G S.cf r s m).bnd fun l s m => .ok (y :: l) s m).bnd fun l s m => .ok (x :: l) s m) (fun l _ _ w' => ∀ ps, Reps S.T w' l (RA.flat ps) → R ps w'.H) := by
      have e : evs S.G S.cf (.cons k (.cons v r)) sl mu = (ev S.G S.cf k sl mu).bnd fun x s m => ((ev S.G S.cf v s m).bnd fun y s m => (evs S.G S.cf r s m).bnd fun l s m => .ok (y :: l) s m).bnd fun l s m => .ok (x :: l) s m := by
        conv => lhs; unfold evs
        rfl
      rw [← e]; exact P
    refine tE.bnd rfl F P fun p x sl1 mu1 w1 e1 F1 rx P1 => ?_
    rw [Res.bnd_assoc] at P1
    refine tE.bnd rfl F1 P1 fun q y sl2 mu2 w2 e2 F2 ry P2 => ?_
    rw [Res.bnd_assoc] at P2
    refine pairs_wish rfl rfl r hk' F2 ((P2.bnd F2.wok).mono fun l sl3 mu3 w3 e3 F3 P3 ps rps => ?_)
    refine P3 w3 (Ext.refl w3) F3 ((x, y) :: ps) ?_
    simp only [RA.flat, Reps]
    exact ⟨_, _, rfl, RepV.ext F1.wok (e2.trans F1.wok e3) _ _ rx, _, _, rfl, RepV.ext F2.wok e3 _ _ ry, rps⟩
theorem s_dcd (x0 : XOk S C sc fb X) {es : Exs} {keys : List (Option Expr)} {values : List Expr} {pos : Pos} (hk : ckD C sc fb es keys values = true) (hl : keys.length ≤ 15) (hall : keys.all (·.isSome) = true) (hlen : keys.length = values.length) (hp : PPs X pos keys values (trsOf S W es)) : SE S W X (.dcd es) (.Dict keys values pos) := by
  cases keys with
  | nil =>
    cases values with
    | cons _ _ => simp at hlen
    | nil =>
      refine PE.imp pe_dnewK fun σ H Q h => ?_
      obtain ⟨w, sl, mu, rfl, F, P⟩ := h
      cases es with
      | cons k r =>
        cases r with
        | nil => simp [ckD] at hk
        | cons v r => simp [ckD] at hk
      | nil =>
        intro p hpn
        have P : ∀ w', Ext w w' → FRel S.T w' σ sl mu → ∀ v, RepV S.T w' (.dic [] []) v → Q v w'.H := P
        refine P (w.put p (.dK [])) (Wd.put_ext hpn) (F.put hpn) _ ?_
        simp only [RepV]
        exact ⟨p, [], rfl, (by show upd w.H p _ p = _; rw [upd_same]), F.fresh hpn, by simp [Reps], by simp [Reps]⟩
  | cons k0 ks =>
    refine PE.imp (pe_disp hp hall hlen (by simp) hl) fun σ H Q h => ?_
    obtain ⟨w, sl, mu, rfl, F, P⟩ := h
    intro p hpn
    have P : Pst S.T S.C W σ w ((evs S.G S.cf es sl mu).bnd fun l s m => lift ((prs l).bind mkD) s m) (QE S.T Q) := P
    have F1 := F.layO (o := .dK []) hpn
    have e1 := layO_ext (o := .dK []) hpn
    have P1 : Pst S.T S.C W σ (w.layO p (.dK [])) ((evs S.G S.cf es sl mu).bnd fun l s m => lift ((prs l).bind mkD) s m) (fun z _ _ w' => Ext w w' ∧ ∀ w'', Ext w w'' → FRel S.T w'' σ (match (evs S.G S.cf es sl mu).bnd fun l s m => lift ((prs l).bind mkD) s m with | .ok _ s _ => s | _ => sl) (match (evs S.G S.cf es sl mu).bnd fun l s m => lift ((prs l).bind mkD) s m with | .ok _ _ m => m | _ => mu) → ∀ v, RepV S.T w'' z v → Q v w''.H) := by
      generalize (evs S.G S.cf es sl mu).bnd (fun l s m => lift ((prs l).bind mkD) s m) = r at P ⊢
      cases r with
      | stk => exact P
      | ok z s m => exact fun w' ex F' => ⟨e1.trans F.wok ex, fun w'' ex'' F'' v rv => P w'' ex'' F'' v rv⟩
      | exc e s m => exact fun cls d w' ex F' rx => P cls d w' (e1.trans F.wok ex) F' rx
    refine pairs_wish rfl rfl es hk F1 ((P1.bnd F1.wok).mono_ok fun l s m w2 hev ex2 F2 P2 ps rps => ?_)
    have hwr : ¬ w2.wr p := fun z => (ex2.ws p z).elim (fun y => F.wok.mtr p (F.wok.sub p y) hpn) fun y => by
      have y : upd w.H p (.dK []) p = none := y
      rw [upd_same] at y; cases y
    have hwr0 : ¬ (w.layO p (.dK [])).wr p := fun y => F.wok.mtr p (F.wok.sub p y) hpn
    have hmb : w2.mb p := ex2.mkp p (.inr rfl) hwr0
    have hHp : w2.H p = some (.dK []) := ex2.keep p _ (by show upd w.H p _ p = _; rw [upd_same]) hwr0
    obtain ⟨z, hz, P3⟩ := P2.lift
    obtain ⟨q, hq, hz⟩ := Option.bind_eq_some_iff.mp hz
    unfold mkD at hz
    split at hz
    · rename_i hg
      rw [Bool.and_eq_true] at hg
      cases hz
      obtain ⟨rk, rv⟩ := Reps.flat hq rps
      obtain ⟨_, fin⟩ := P3 w2 (Ext.refl w2) F2
      have hll : q.length = ps.length := by have := rk.len; simpa using this
      have hks := keys_rep hg.1 rk
      refine ⟨hHp, (q.map fun p => keyOf p.1).zip (ps.map (·.2)), ?_, ?_, ?_⟩
      · refine List.ext_getElem (by simp [hll]) fun i h1 h2 => ?_
        have hkk : (ps.map (·.1))[i]'(by simpa using h1) = (q.map fun p => kV (keyOf p.1))[i]'(by rw [← hks]; simpa using h1) := by simp only [hks]
        simp only [List.getElem_map, List.getElem_zip] at hkk ⊢
        rw [← hkk]
      · have := Nat.le_of_ble_eq_true hg.2
        simp; omega
      · rw [merge_mkG q [] [] (ps.map (·.2)) hg.1 (by simp [hll]) fun t _ => rfl, List.nil_append]
        have hd : w2.H p ≠ none := by rw [hHp]; simp
        have F3 := F2.putD (o := .dK ((q.map fun p => keyOf p.1).zip (ps.map (·.2)))) hwr hmb hd
        have F4 := F3.free (D := p) hwr hmb
        have ex4 : Ext w ((w2.putD p (.dK ((q.map fun p => keyOf p.1).zip (ps.map (·.2))))).free p) := by
          have k1 := e1.trans F.wok ex2
          exact ⟨k1.pre, fun a o h k => by show upd w2.H p _ a = _; rw [upd_ne (ne_of_none h hpn)]; exact k1.keep a o h k, fun a h => (ext_putD hwr hmb hd).trk a (k1.trk a h), fun a h => k1.mt a h.1, fun a h k => ⟨k1.mkp a h k, fun e => F.wok.mtr a h (e ▸ hpn)⟩, k1.ws, k1.xs⟩
        refine fin _ ex4 ?_ (.ref p) (dic_rep hg.1 (reps_free F3 hwr hmb (reps_putD F2 hwr hmb hd rk)) (reps_free F3 hwr hmb (reps_putD F2 hwr hmb hd rv)) (by show upd w2.H p _ p = _; rw [upd_same]) fun y => y.2 rfl)
        rw [hev]
        show FRel S.T _ σ (match lift ((prs l).bind mkD) s m with | .ok _ s _ => s | _ => sl) (match lift ((prs l).bind mkD) s m with | .ok _ _ m => m | _ => mu)
        rw [hq]
        show FRel S.T _ σ (match lift (mkD q) s m with | .ok _ s _ => s | _ => sl) (match lift (mkD q) s m with | .ok _ _ m => m | _ => mu)
        unfold mkD
        rw [if_pos (by rw [Bool.and_eq_true]; exact hg)]
        exact F4
    · cases hz
theorem noSl_of {e : Expr} (h : notSlice e = true) : NoSl e := by
  intro o i
  cases e <;> first | rfl | (simp [notSlice] at h)
theorem hu_room (x0 : XOk S C sc fb X) : X.A.units + 1 < cLine := by have := x0.un; omega
theorem s_dix (x0 : XOk S C sc fb X) {a b : Ex} {x y : Expr} {pos : Pos} (ha : SE S W X a x) (hb : SE S W X b y) (hs : notSlice y = true) : SE S W X (.dix a b) (.Subscript x y pos) := by
  refine PE.imp (pe_dget (hu_room x0) ha hb (noSl_of hs)) fun σ H Q h => ?_
  obtain ⟨w, sl, mu, hH, F, P⟩ := h
  refine tE.bnd hH F P fun p v sl1 mu1 w1 e1 F1 rv P1 => ?_
  refine tE.bnd rfl F1 P1 fun q u sl2 mu2 w2 e2 F2 ru P2 => ?_
  obtain ⟨z, hz, h⟩ := P2.lift
  split at hz
  · rename_i ks vs t
    obtain ⟨o, ho, hz⟩ := Option.bind_eq_some_iff.mp hz
    have r1 := RepV.ext F1.wok e2 _ _ rv
    simp only [RepV] at r1 ru
    obtain ⟨ad, kvs, rfl, hH2, _, rk, rvs⟩ := r1
    obtain ⟨rfl, _⟩ := ru
    rcases getD_val ho rk rvs with ⟨e, _⟩ | ⟨p, v, e, hv, rp⟩
    · subst e; cases hz
    · subst e
      cases hz
      refine ⟨ad, v, rfl, ?_, h w2 (Ext.refl w2) F2 v rp⟩
      rw [← hv]
      exact DGet.k (k := .inr _) hH2
  · cases hz
theorem s_dgt (x0 : XOk S C sc fb X) {d k e : Ex} {o x y : Expr} {ap cp : Pos} (hd : SE S W X d o) (hk : SE S W X k x) (he : SE S W X e y) (hsu : notSuper o = true) (h1 : notStar x = true) (h2 : notStar y = true) (hline : (ap.endLine == cp.line) = true) : SE S W X (.dgt d k e) (.Call (.Attribute o "get" ap) [x, y] [] cp) := by
  have hst : ∀ z ∈ [x, y], notStar z = true := fun z hz => by
    rcases List.mem_cons.mp hz with rfl | hz
    · exact h1
    · rw [List.mem_singleton.mp hz]; exact h2
  have m : M2 X o "get" ap x y cp := ⟨attr_of hsu, by rw [back_all hst]; rfl, hline, by rw [star_cons h1, star_cons h2]; rfl⟩
  refine PE.imp (pe_dget2 (hu_room x0) hd hk he m) fun σ H Q h => ?_
  obtain ⟨w, sl, mu, hH, F, P⟩ := h
  refine tE.bnd hH F P fun p v sl1 mu1 w1 e1 F1 rv P1 => ?_
  cases p with
  | dic ks vs =>
    have rv0 := rv
    simp only [RepV] at rv0
    obtain ⟨ad, kvs, rfl, hH1, _, _, _⟩ := rv0
    refine ⟨ad, rfl, .inl ⟨kvs, .inl hH1⟩, ?_⟩
    refine tE.bnd rfl F1 P1 fun q u sl2 mu2 w2 e2 F2 ru P2 => ?_
    refine tE.bnd rfl F2 P2 fun q3 u3 sl3 mu3 w3 e3 F3 ru3 P3 => ?_
    obtain ⟨z, hz, h⟩ := P3.lift
    cases q with
    | str t =>
      simp only [Option.map_eq_some_iff] at hz
      obtain ⟨oo, ho, hz⟩ := hz
      have r1 := RepV.ext F1.wok (e2.trans F1.wok e3) _ _ rv
      simp only [RepV] at r1 ru
      obtain ⟨ad', kvs', e, hH3, _, rk, rvs⟩ := r1
      cases e
      obtain ⟨rfl, _⟩ := ru
      rcases getD_val ho rk rvs with ⟨e, hv⟩ | ⟨p, v, e, hv, rp⟩
      · subst e
        refine ⟨none, ?_, ?_⟩
        · rw [← hv]; exact DGet.k (k := .inr _) hH3
        · have hz : q3 = z := hz
          subst hz
          exact h w3 (Ext.refl w3) F3 u3 ru3
      · subst e
        refine ⟨some v, ?_, ?_⟩
        · rw [← hv]; exact DGet.k (k := .inr _) hH3
        · have hz : p = z := hz
          subst hz
          exact h w3 (Ext.refl w3) F3 v rp
    | _ => cases hz
  | _ => exact P1.elim
theorem pPairs_rep {T : Tb} {w : Wd} : ∀ {l : List PV} {q : List (PV × PV)} {xs : List V}, pPairs l = some q → Reps T w l xs → ∃ (ps : List Addr) (ks vs : List V), xs = ps.map V.ref ∧ Reps T w (q.map (·.1)) ks ∧ Reps T w (q.map (·.2)) vs ∧ Paired (fun p kv => SqT T.K w.H p [kv.1, kv.2]) ps (ks.zip vs)
  | [], q, xs, h, r => by
    unfold pPairs at h
    cases h
    simp only [Reps] at r
    subst r
    exact ⟨[], [], [], rfl, by simp [Reps], by simp [Reps], .nil⟩
  | p :: l, q, xs, h, r => by
    unfold pPairs at h
    split at h
    · rename_i k v
      simp only [Option.map_eq_some_iff] at h
      obtain ⟨q, h, rfl⟩ := h
      simp only [Reps] at r
      obtain ⟨u, rr, rfl, r1, r2⟩ := r
      obtain ⟨ps, ks, vs, rfl, h1, h2, h3⟩ := pPairs_rep h r2
      unfold RepV at r1
      obtain ⟨a, ys, rfl, hs, ry⟩ := r1
      obtain ⟨k', v', rfl, rk, rv⟩ := reps2 ry
      exact ⟨a :: ps, k' :: ks, v' :: vs, rfl, by simp only [List.map_cons, Reps]; exact ⟨_, _, rfl, rk, h1⟩, by simp only [List.map_cons, Reps]; exact ⟨_, _, rfl, rv, h2⟩, .cons hs.sq h3⟩
    · cases h
theorem paired_keys {T : Tb} {w : Wd} : ∀ {q : List (PV × PV)} {ps : List Addr} {vs : List V}, vs.length = q.length → Paired (fun p (kv : V × V) => SqT T.K w.H p [kv.1, kv.2]) ps ((q.map fun p => kV (keyOf p.1)).zip vs) → Paired (fun p (kv : Key × V) => SqT T.K w.H p [kV kv.1, kv.2]) ps ((q.map fun p => keyOf p.1).zip vs)
  | [], ps, vs, hl, h => by
    simp only [List.map_nil, List.zip_nil_left] at h ⊢
    cases h
    exact .nil
  | p :: q, ps, [], hl, h => by simp at hl
  | p :: q, ps, v :: vs, hl, h => by
    simp only [List.map_cons, List.zip_cons_cons] at h ⊢
    cases h with
    | cons h1 h2 => exact .cons h1 (paired_keys (by simpa using hl) h2)
theorem s_dof (x0 : XOk S C sc fb X) (hc : C.hot = false) {a : Ex} {x : Expr} {p pos : Pos} (ha : SE S W X a x) (hv : glb sc "dict" = true) (hs : notStar x = true) : SE S W X (.dof a) (.Call (.Name "dict" p) [x] [] pos) := by
  refine PE.imp (pe_callTy (call_dof (x0.calm hc)) (glb_of x0 hv) (x0.blt _ (by decide +kernel)) (show bootBuiltins "dict" = some (.type "dict") by decide +kernel) (pa_cons ha pa_nil (star_cons hs)) (by decide) (by decide) (star_cons hs) rfl) fun σ H Q h => ?_
  obtain ⟨w, sl, mu, hH, F, P⟩ := h
  refine tE.bnd hH F P fun p v sl1 mu1 w1 e1 F1 rv P1 => ?_
  obtain ⟨z, hz, h⟩ := P1.lift
  cases p with
  | tup l =>
    simp only [Option.bind_eq_some_iff] at hz
    obtain ⟨q, hq, hz⟩ := hz
    unfold mkD at hz
    split at hz
    · rename_i hg
      rw [Bool.and_eq_true] at hg
      cases hz
      simp only [RepV] at rv
      obtain ⟨ad, xs, rfl, hst, rx⟩ := rv
      obtain ⟨ps, ks, vs, rfl, rk, rvs, hpp⟩ := pPairs_rep hq rx
      have hl : vs.length = q.length := by have := rvs.len; simpa using this.symm
      have hks := keys_rep hg.1 rk
      subst hks
      refine ⟨ad, ps, (q.map fun p => keyOf p.1).zip vs, rfl, ?_, ?_, fun b hb => ?_⟩
      · rw [← x0.hK]
        exact hst.elim (fun ⟨O, hO, h, _⟩ => .inl ⟨O, hO.1, h⟩) .inr
      · rw [← x0.hK]
        exact paired_keys hl hpp
      · rw [merge_mkG q [] [] vs hg.1 hl fun t _ => rfl, List.nil_append]
        have ex := Wd.put_ext (o := .dK ((q.map fun p => keyOf p.1).zip vs)) hb
        refine h (w1.put b _) ex (F1.put hb) (.ref b) ?_
        exact dic_rep hg.1 (Reps.ext F1.wok ex _ _ rk) (Reps.ext F1.wok ex _ _ rvs) (by show upd w1.H b _ b = _; rw [upd_same]) (F1.fresh hb)
    · cases hz
  | _ => cases hz
end
end RA

/-! Soundness: functions as values, stars, own classes, what a handler knows. -/
namespace RA
open PySem L2

section
variable {T : Tb} {w : Wd} {σ : L2.St} {sl : List Sl} {mu : List PV}
/-- a new cell, whatever else is laid beside it -/
def Wd.newG (w : Wd) (q : Addr) (H' : Hp) : Wd := { w with H := H', m := w.m ++ [q], wr := fun a => w.wr a ∨ a = q, mb := fun a => w.mb a ∨ a = q }
theorem newG_ext {q : Addr} {H' : Hp} (hq : w.H q = none) (k : ∀ a u, w.H a = some u → H' a = some u) : Ext w (w.newG q H') where
  pre := fun n a h => by
    show (w.m ++ [q])[n]? = some a
    rw [List.getElem?_append_left (List.getElem?_eq_some_iff.mp h).1]; exact h
  keep := fun a u h _ => k a u h
  trk := fun a h => by
    show H' a ≠ none
    cases e : w.H a with
    | none => exact absurd e h
    | some u => rw [k a u e]; simp
  mt := fun a h => h.elim .inl fun e => .inr (e ▸ hq)
  mkp := fun a h _ => .inl h
  ws := fun a h => h.elim .inl fun e => .inr (e ▸ hq)
  xs := rfl
theorem FRel.newG {q : Addr} {H' : Hp} {c : PV} (F : FRel T w σ sl mu) (hq : w.H q = none) (k : ∀ a u, w.H a = some u → H' a = some u) (hn : H' q ≠ none) (r : CRep T (w.newG q H') q c) : FRel T (w.newG q H') σ sl (mu ++ [c]) := by
  have e := newG_ext hq k
  have nw : ∀ {a : Addr}, w.wr a → a ≠ q := fun h z => F.wok.mtr _ (F.wok.sub _ h) (z ▸ hq)
  have nm : q ∉ w.m := fun z => nw (F.cellOf z) rfl
  have hml := F.cel.mlen
  refine ⟨⟨fun a h => h.elim (fun z => .inl (F.wok.sub a z)) .inr, fun a h => ?_⟩, F.len, fun i p h => ?_, fun i p h => ?_, F.ows, ⟨by show (w.m ++ [q]).length = _; simp [hml], fun n c' a h1 h2 => ?_, fun n n' a h1 h2 => ?_⟩, fun i c' fs h => ex_ext F.wok e (F.ex i c' fs h)⟩
  · rcases h with h | rfl
    · exact e.trk a (F.wok.mtr a h)
    · exact hn
  · obtain ⟨v, h1, h2⟩ := F.va i p h
    exact ⟨v, h1, RepV.ext F.wok e p v h2⟩
  · obtain ⟨a, h1, h2, h3, h4⟩ := F.ow i p h
    refine ⟨a, h1, h2.ext_keep F.wok e (k a), .inl h3, fun z => ?_⟩
    have z : a ∈ w.m ++ [q] := z
    rcases List.mem_append.mp z with z | z
    · exact h4 z
    · exact nw h3 (List.mem_singleton.mp z)
  · have h2 : (w.m ++ [q])[n]? = some a := h2
    by_cases hn : n < w.m.length
    · rw [List.getElem?_append_left hn] at h2
      rw [List.getElem?_append_left (by omega)] at h1
      obtain ⟨h3, h4⟩ := F.cel.cl n c' a h1 h2
      exact ⟨h3.ext_keep F.wok e (k a), .inl h4⟩
    · rw [List.getElem?_append_right (by omega)] at h1 h2
      have hz : n - w.m.length = 0 := by
        have := (List.getElem?_eq_some_iff.mp h2).1
        simp at this; omega
      rw [hz] at h2
      rw [← hml, hz] at h1
      simp at h1 h2
      subst h1 h2
      exact ⟨r, .inr rfl⟩
  · have h1 : (w.m ++ [q])[n]? = some a := h1
    have h2 : (w.m ++ [q])[n']? = some a := h2
    have cas : ∀ {j : Nat}, (w.m ++ [q])[j]? = some a → (j < w.m.length ∧ w.m[j]? = some a) ∨ (j = w.m.length ∧ a = q) := fun {j} h => by
      by_cases hn : j < w.m.length
      · rw [List.getElem?_append_left hn] at h; exact .inl ⟨hn, h⟩
      · rw [List.getElem?_append_right (by omega)] at h
        have hz : j - w.m.length = 0 := by
          have := (List.getElem?_eq_some_iff.mp h).1
          simp at this; omega
        rw [hz] at h
        simp at h
        exact .inr ⟨by omega, h.symm⟩
    rcases cas h1 with ⟨a1, b1⟩ | ⟨a1, b1⟩ <;> rcases cas h2 with ⟨a2, b2⟩ | ⟨a2, b2⟩
    · exact F.cel.inj n n' a b1 b2
    · subst b2; exact absurd (List.mem_of_getElem? b1) nm
    · subst b1; exact absurd (List.mem_of_getElem? b2) nm
    · omega
/-- a cell is written -/
def Wd.wrG (w : Wd) (q : Addr) (o : HO) : Wd := { w with H := upd w.H q o }
theorem wrG_ext {q : Addr} {o : HO} (hq : w.wr q) : Ext w (w.wrG q o) where
  pre := fun _ _ h => h
  keep := fun a u h k => by show upd w.H q _ a = _; rw [upd_ne (by intro z; subst z; exact k hq)]; exact h
  trk := fun a h => by
    show upd w.H q _ a ≠ none
    by_cases e : a = q
    · rw [e, upd_same]; simp
    · rw [upd_ne e]; exact h
  mt := fun a h => .inl h
  mkp := fun a h _ => h
  ws := fun a h => .inl h
  xs := rfl
theorem FRel.wrG {q : Addr} {o : HO} {c : PV} {n : Nat} (F : FRel T w σ sl mu) (hn : w.m[n]? = some q) (r : CRep T (w.wrG q o) q c) : FRel T (w.wrG q o) σ sl (mu.set n c) := by
  have hq : w.wr q := F.cellOf (List.mem_of_getElem? hn)
  have e := wrG_ext (o := o) hq
  have k : ∀ a u, a ≠ q → w.H a = some u → (w.wrG q o).H a = some u := fun a u n h => by show upd w.H q _ a = _; rw [upd_ne n]; exact h
  have hnl : n < mu.length := by rw [← F.cel.mlen]; exact (List.getElem?_eq_some_iff.mp hn).1
  refine ⟨⟨F.wok.sub, fun a h => e.trk a (F.wok.mtr a h)⟩, F.len, fun j p hj => ?_, fun j p hj => ?_, F.ows, ⟨by simp; exact F.cel.mlen, fun j c' a h1 h2 => ?_, F.cel.inj⟩, fun i c' fs h => ex_ext F.wok e (F.ex i c' fs h)⟩
  · obtain ⟨v, h1, h2⟩ := F.va j p hj
    exact ⟨v, h1, RepV.ext F.wok e p v h2⟩
  · obtain ⟨a, h1, h2, h3, h4⟩ := F.ow j p hj
    exact ⟨a, h1, h2.ext_keep F.wok e fun o => k a o fun y => h4 (y ▸ List.mem_of_getElem? hn), h3, h4⟩
  · have h2 : w.m[j]? = some a := h2
    by_cases z : n = j
    · subst z
      rw [List.getElem?_set_self hnl] at h1
      cases h1
      rw [hn] at h2; cases h2
      exact ⟨r, hq⟩
    · rw [List.getElem?_set_ne z] at h1
      obtain ⟨h3, h4⟩ := F.cel.cl j c' a h1 h2
      exact ⟨h3.ext_keep F.wok e fun o => k a o fun y => z (F.cel.inj n j q hn (y ▸ h2)), h4⟩
end

section
variable {S : Gs} {C : Ck} {sc : Scope} {fb : Str → Bool} {X : Cx} {W : WX}
theorem s_stk {e : Expr} : SE S W X .stk e := ⟨fun pins s σ H Q I h => by
  obtain ⟨w, sl, mu, hH, F, P⟩ := h
  exact P.elim⟩
theorem s_fnv (x0 : XOk S C sc fb X) {f : Nat} {x : Str} {pos : Pos} (hi : C.fnm[f]? = some (some x)) (hv : glb sc x = true) (ho : okNm x = true) : SE S W X (.fnv f) (.Name x pos) := by
  obtain ⟨h1, _, _⟩ := okNm_of ho
  obtain ⟨a, k1, g1⟩ := x0.fa f x hi
  refine PE.imp (pe_glob (v := .ref a) (glb_of x0 hv) k1 rfl h1) fun σ H Q h => ?_
  obtain ⟨w, sl, mu, rfl, F, P⟩ := h
  exact P w (Ext.refl w) F (.ref a) (by simp only [RepV]; exact ⟨a, rfl, g1⟩)
/-- the wish behind a call, at the caller -/
theorem call_got {f : Nat} {σ : L2.St} {w1 : Wd} {ps : List PV} {vs : List V} {sl1 : List Sl} {mu1 : List PV} {Q : VK} (F1 : FRel S.T w1 σ sl1 mu1) (rv : Reps S.T w1 ps vs)
    (P1 : Pst S.T S.C W σ w1 (match S.cf f ps mu1 with | .stk => .stk | .ok p m => .ok p sl1 m | .exc e m => .exc e sl1 m) (QE S.T Q)) : spF S f vs w1.H Q (WE W σ) := by
  obtain ⟨i1, i2⟩ := call_in F1
  refine ⟨w1.wrs (· ∈ w1.m), ps, mu1, rfl, i1, i2, fun a h => h, Reps.wrs ps vs rv, ?_⟩
  generalize S.cf f ps mu1 = r at P1 ⊢
  cases r with
  | stk => exact P1
  | ok p mu' =>
    intro v w' ex ok cr rv
    obtain ⟨o1, o2⟩ := call_out F1 ex ok cr
    exact P1 _ o1 o2 v (RepV.wrs p v rv)
  | exc e mu' =>
    intro cls d w' ex ok cr rx
    obtain ⟨o1, o2⟩ := call_out F1 ex ok cr
    refine P1 cls d (w'.wrs fun a => w1.wr a ∨ w'.wr a) o1 o2 ?_
    obtain ⟨c, fs, d', vs, r1, r0, r2, r3, r4, r5, r6, r7⟩ := rx
    exact ⟨c, fs, d', vs, r1, r0, r2, r3, r4, r5, r6, Reps.wrs fs vs r7⟩
/-- a call of a name that holds a function -/
def tLoc (S : Gs) (W : WX) (i : Nat) (f : Nat) (a : Addr) (t : TA) : TE := fun σ H Q => σ[i]? = some (some (.ref a)) ∧ t σ H fun vs H1 => spF S f vs H1 Q (WE W σ)
theorem pe_loc {i f : Nat} {a : Addr} {x : Str} {e : Expr} {es : List Expr} {p pos : Pos} {t : TA} (K : FcOk S X f a) (hr : Room S.r X.A) (tk : L2N.Takes X W) (hN : X.N[i]? = some x) (hv : Vis X.env.scope x) (ha : PA X (e :: es) t)
    (hdb : (x == ("__debug__" : Str)) = false) (hcd : (x == ("__classdict__" : Str)) = false) (he : starEach (e :: es) X.env = (false, eval e X.env) :: starEach es X.env) (hpl : (backTo pos (starEach es X.env)).any (·.1) = false) :
    PE X (.Call (.Name x p) (e :: es) [] pos) (tLoc S W i f a t) := by
  obtain ⟨fd, ps, l, kl, k2, k3, k4⟩ := K.ex
  refine ⟨fun pins s σ H Q I ⟨hs, ht⟩ => wpAny_Call_Name_kw (thn ((pe_var (pos := p) hN hv hdb hcd).run pins s σ H (fun v H1 => v = .ref a ∧ H1 = H) I ⟨.ref a, hs, rfl, rfl⟩) fun u s1 ⟨v, H1, I1, r1, e1, e2⟩ => ?_)⟩
  subst e1 e2
  obtain rfl : u = Value.ref a := r1
  exact PySem.W.callWith_K (h₀ := X.base) I.ok.mod.kin k2 (thn (ha.run pos pins s1 σ _ _ I1 ht) fun us s2 ⟨vs, H2, I2, r, q⟩ => ⟨I2.kIn, run_fnSD k4 (hr.mono (by omega)) k3 .nil (L2N.passAt tk σ) I2 r (by rw [List.append_nil]; exact q)⟩) he hpl
theorem s_clv (x0 : XOk S C sc fb X) (hc : C.hot = false) (tk : L2N.Takes X W) {i : Nat} {x : Str} {as : Exs} {e : Expr} {es : List Expr} {p pos : Pos} (hi : C.N[i]? = some x) (hv : vis sc x = true) (ho : okNm x = true) (ha : SA S W X as (e :: es)) (hk : ckEs C sc fb as (e :: es) = true) :
    SE S W X (.clv i as) (.Call (.Name x p) (e :: es) [] pos) := by
  obtain ⟨h1, h2, _⟩ := okNm_of ho
  have hs := notStar_all hk
  refine ⟨fun pins s σ H Q I h => ?_⟩
  obtain ⟨w, sl, mu, rfl, F, P⟩ := h
  have P : Pst S.T S.C W σ w (match sl[i]? with
    | some (.va (.fn f)) => (evs S.G S.cf as sl mu).bnd fun l s m => (match S.cf f l m with | .stk => .stk | .ok p m => .ok p s m | .exc e m => .exc e s m)
    | _ => .stk) (QE S.T Q) := P
  split at P
  · rename_i f hf
    obtain ⟨v, hv1, rv⟩ := F.va i _ hf
    simp only [RepV] at rv
    obtain ⟨a, rfl, g1⟩ := rv
    refine (pe_loc (W := W) (t := tA S.T S.C W (sA S as)) (x0.fns hc f a g1) (x0.room hc) tk (by rw [x0.N]; exact hi) (vis_of x0 hv) ha h1 h2 (star_cons (hs e List.mem_cons_self)) (back_any fun y hy => hs y (List.mem_cons_of_mem _ hy))).run pins s σ w.H Q I ⟨hv1, ?_⟩
    exact tA.bnd rfl F P fun ps vs sl1 mu1 w1 e1 F1 rv P1 => call_got F1 rv P1
  · exact P.elim

/-! ### stars -/
def SSt (S : Gs) (W : WX) (X : Cx) (bs : List Bool) (es : Exs) (xs : List Expr) : Prop := PA X xs (tA S.T S.C W (evst S.G S.cf es bs))
theorem st_nil : SSt S W X [] .nil [] := PA.imp pa_nil fun σ H Q h => by
  obtain ⟨w, sl, mu, rfl, F, P⟩ := h
  exact P w (Ext.refl w) F [] (by simp only [Reps])
theorem st_cons {bs : List Bool} {a : Ex} {as : Exs} {e : Expr} {es : List Expr} (ha : SE S W X a e) (hr : SSt S W X bs as es) (hs : notStar e = true) : SSt S W X (false :: bs) (.cons a as) (e :: es) := by
  refine PA.imp (pa_cons ha hr (star_cons hs)) fun σ H Q h => ?_
  obtain ⟨w, sl, mu, hH, F, P⟩ := h
  refine tE.bnd hH F P fun p v sl1 mu1 w1 e1 F1 rv P1 => ?_
  refine tA.bnd rfl F1 P1 fun ps vs sl2 mu2 w2 e2 F2 rvs P2 => ?_
  exact P2 w2 (Ext.refl w2) F2 _ (by simp only [Reps]; exact ⟨_, _, rfl, RepV.ext F1.wok e2 p v rv, rvs⟩)
theorem st_star (x0 : XOk S C sc fb X) {bs : List Bool} {a : Ex} {as : Exs} {e : Expr} {es : List Expr} {pos : Pos} (ha : SE S W X a e) (hr : SSt S W X bs as es) : SSt S W X (true :: bs) (.cons a as) (.Starred e pos :: es) := by
  refine PA.imp (StX.pa_star ha hr) fun σ H Q h => ?_
  obtain ⟨w, sl, mu, hH, F, P⟩ := h
  refine tE.bnd hH F P fun p v sl1 mu1 w1 e1 F1 rv P1 => ?_
  cases p with
  | tup y =>
    simp only [RepV] at rv
    obtain ⟨ad, xs, rfl, hq, ry⟩ := rv
    rw [x0.hK] at hq
    refine ⟨ad, xs, rfl, .inl hq.sq, tA.bnd rfl F1 P1 fun ps vs sl2 mu2 w2 e2 F2 rvs P2 => ?_⟩
    exact P2 w2 (Ext.refl w2) F2 _ (Reps.append (Reps.ext F1.wok e2 _ _ ry) rvs)
  | lst y =>
    simp only [RepV] at rv
    obtain ⟨ad, xs, rfl, hq, _, ry⟩ := rv
    refine ⟨ad, xs, rfl, .inr (SqL.of hq), tA.bnd rfl F1 P1 fun ps vs sl2 mu2 w2 e2 F2 rvs P2 => ?_⟩
    exact P2 w2 (Ext.refl w2) F2 _ (Reps.append (Reps.ext F1.wok e2 _ _ ry) rvs)
  | _ => exact P1.elim
theorem s_tst {bs : List Bool} {as : Exs} {es : List Expr} {k pos} (ha : SSt S W X bs as es) : SE S W X (.tst bs as) (.Tuple es k pos) := by
  refine PE.imp (pe_tupP ha) fun σ H Q h => ?_
  obtain ⟨w, sl, mu, hH, F, P⟩ := h
  refine tA.bnd hH F P fun l vs s m w' e F' rv P' => ?_
  by_cases hl : l.length ≤ SZ
  · rw [if_pos hl] at P'
    refine ⟨by rw [← rv.len, sizeLine_eq]; exact hl, fun p O hp hO => P2.tup F' P' rv hp hO⟩
  · rw [if_neg hl] at P'
    exact P'.elim
end
end RA

set_option maxHeartbeats 4000000
/-! Exceptions as values: made, their fields read, their classes asked. -/
namespace RA
open PySem PySem.Spec PyProof.Rows L2

theorem Reps.reverse {T : Tb} {w : Wd} : ∀ {ps : List PV} {vs : List V}, Reps T w ps vs → Reps T w ps.reverse vs.reverse
  | [], vs, h => by simp only [Reps] at h; subst h; simp [Reps]
  | p :: ps, vs, h => by
    simp only [Reps] at h
    obtain ⟨v, r, rfl, h1, h2⟩ := h
    rw [List.reverse_cons, List.reverse_cons]
    exact Reps.append (Reps.reverse h2) (by simp only [Reps]; exact ⟨v, [], rfl, h1, rfl⟩)
theorem okV_of {T : Tb} {w : Wd} : ∀ {ks : List Bool} {ps : List PV} {vs : List V}, okX ks ps = true → Reps T w ps vs → okV ks vs
  | [], ps, vs, h, r => by
    simp only [okX, List.isEmpty_iff] at h
    subst h
    simp only [Reps] at r
    exact r
  | b :: ks, ps, vs, h, r => by
    unfold okX at h
    split at h
    · rename_i x q
      simp only [Bool.and_eq_true] at h
      obtain ⟨h1, h2⟩ := h
      simp only [Reps] at r
      obtain ⟨v, rr, rfl, r1, r2⟩ := r
      refine ⟨v, rr, rfl, fun hb => ?_, okV_of h2 r2⟩
      rw [if_pos hb] at h1
      split at h1
      · rename_i i
        simp only [Bool.and_eq_true, decide_eq_true_eq] at h1
        simp only [RepV] at r1
        exact ⟨i, r1, h1⟩
      · cases h1
    · cases h
/-- the reading: an exception is made and held -/
def tXn (C : Addr) (sp : Sp) (ta : TA) : TE := fun σ H Q => ta σ H fun vs H1 => vs.length ≤ 1000 ∧ ∀ a, H1 a = none → sp (.ref a :: vs) (upd H1 a (exo a C none)) (fun v H2 => v = .non ∧ Q (.ref a) H2) fun _ _ _ => False
theorem pe_xnw {X : Cx} {C fI : Addr} {k : Nat} {fd : FuncData} {ps : List Str} {sp : Sp} {x : Str} {e : Expr} {es : List Expr} {ta : TA} {p pos : Pos} (T : OexC X.K C) (iC : PySem.W.findIn X.K (.ref C) "__init__" = some (some (.ref fI))) (tI : PySem.W.typeIn X.K (.ref fI) = some (.type "function"))
    (F : FnOk X.prog X.w X.K X.mg X.base (L2N.CX X.prog X.w) k fI fd ps sp) (hr : Room (k + 1) X.A) (hb : Binds X.K fd ps []) (hg : Gl X x) (hm : X.mg x = some (.ref C)) (ha : PA X (e :: es) ta)
    (hdb : (x == ("__debug__" : Str)) = false) (he : starEach (e :: es) X.env = (false, eval e X.env) :: starEach es X.env) (hpl : (backTo pos (starEach es X.env)).any (·.1) = false) : PE X (.Call (.Name x p) (e :: es) [] pos) (tXn C sp ta) := by
  refine ⟨fun pins s0 σ H Q I h => wpAny_Call_Name_kw (ld_glob I hg hm (PySem.W.callWith_K (h₀ := X.base) I.ok.mod.kin T.kC (thn (ha.run pos pins s0 σ H _ I h) fun us s1 ⟨vs, H1, I1, r1, hz, q1⟩ => ⟨I1.kIn, ?_⟩) he hpl) hdb)⟩
  refine made_by T iC tI F hr hb (fun _ _ _ _ z => by obtain ⟨_, _, _, _, _, _, _, _, _, _, _, _, no⟩ := z; exact no) I1 r1 hz (q1 (s1.heap.objs.size + 1) (I1.hok.fresh (Nat.le_succ _))) fun u s2 got => ?_
  obtain ⟨v, H', J', rv, ev, q⟩ := (hpX_inv I1 us C).after got
  subst ev
  exact ⟨rv, V.ref (s1.heap.objs.size + 1), H', J', rfl, q⟩

/-- a field of an exception that is held -/
def tXa (K : PySem.W.Frag) (n : Str) (te : TE) : TE := fun σ H Q => te σ H fun x H1 => ∃ a d C fs v, x = .ref a ∧ H1 a = some (exo a C (some d)) ∧ H1 d = some (exd d fs) ∧ XfC K C ∧ PySem.W.findIn K (.ref C) n = some none ∧ fs.lookup n = some v ∧ Q v H1
theorem pe_xat {X : Cx} {e : Expr} {te : TE} {pos : Pos} {n : Str} (he : PE X e te) (hb : attributeBase e n X.env (eval e X.env) = eval e X.env) : PE X (.Attribute e n pos) (tXa X.K n te) := by
  refine ⟨fun pins s σ H Q I h => L2.attr_of hb (thn (he.run pins s σ H _ I h) fun u s1 ⟨x, H1, I1, rx, a, d, C, fs, v, ex, ea, ed, T, no, l, q⟩ => ?_)⟩
  subst ex
  obtain rfl : u = Value.ref a := rx
  obtain ⟨t1, at1⟩ := exo_at I1.hok ea
  obtain ⟨mA, ns, rel⟩ := exd_at I1.hok ed
  obtain ⟨od, atd, looks⟩ := lookIn_ns ns
  obtain ⟨w, hw, rw'⟩ := RelO.some_of (v := v) (o := mA n) (by rw [← l]; exact rel n)
  exact PySem.HandSPX.exc_get I1.kIn (⟨at1, rfl, rfl, atd⟩ : PySem.W.InstAt s1.heap a _ C (some od)) T.ga T.gg T.exC (PySem.W.findObj_own T.hdC no rfl (by rw [looks, hw])) (handed_of rw') ⟨v, H1, I1.tok _, rw', q⟩
/-- isinstance of an exception that is held -/
def rXi (K : PySem.W.Frag) : List V → Hp → VK → Prop := fun xs H Q => ∃ (a d C : Addr) (fs : List (Str × V)) (t : V) (tv : Value) (b : Bool), xs = [.ref a, t] ∧ H a = some (exo a C (some d)) ∧ H d = some (exd d fs) ∧ XfC K C ∧ XiC K C ∧ (∀ u, RelV t u → u = tv) ∧ PySem.W.kitOne K (.ref C) tv = some b ∧ Q (.bl b) H
theorem call_xis {X : Cx} : CallR X (.builtin "isinstance") (rXi X.K) := by
  intro pins s σ H xs us Q I r h
  obtain ⟨a, d, C, fs, t, tv, b, rfl, ea, ed, T, T2, ht, hk, q⟩ := h
  cases r with
  | cons r1 rr =>
    cases rr with
    | cons r2 rr =>
      cases rr
      cases r1
      have e2 := ht _ r2
      subst e2
      obtain ⟨t1, at1⟩ := exo_at I.hok ea
      obtain ⟨mA, ns, rel⟩ := exd_at I.hok ed
      obtain ⟨od, atd, looks⟩ := lookIn_ns ns
      have J : PySem.W.InstAt s.heap a { cls := .ref C, dict := some d, data := .fields #[.ref t1, .none, .none, .none, .bool false, .none] } C (some od) := ⟨at1, rfl, rfl, atd⟩
      exact PySem.W.kia_one (PySem.W.kitx_exc T2.hcl T.ga T.gg T.exC T2.ha T2.hn T2.ht T2.hm) I.kIn J hk (fun z => nomatch z) fun tk => ⟨.bl b, H, I.kept (t' := tk) fun _ _ z => z, rfl, q⟩
theorem zip_look {α : Type} : ∀ {ns : List Str} {vs : List α} {i : Nat} {n : Str} {v : α}, ns.Nodup → ns[i]? = some n → vs[i]? = some v → (ns.zip vs).lookup n = some v
  | [], _, _, _, _, _, h, _ => by simp at h
  | _ :: _, [], _, _, _, _, _, h => by simp at h
  | m :: ns, u :: vs, 0, n, v, _, h1, h2 => by
    simp at h1 h2
    subst h1 h2
    simp [List.lookup]
  | m :: ns, u :: vs, i + 1, n, v, nd, h1, h2 => by
    have h1 : ns[i]? = some n := by simpa using h1
    have h2 : vs[i]? = some v := by simpa using h2
    have hne : n ≠ m := fun e => (List.nodup_cons.mp nd).1 (e ▸ List.mem_of_getElem? h1)
    rw [List.zip_cons_cons]
    have e : (n == m) = false := by simpa using hne
    simp only [List.lookup, e]
    exact zip_look (List.nodup_cons.mp nd).2 h1 h2
section
variable {S : Gs} {C : Ck} {sc : Scope} {fb : Str → Bool} {X : Cx} {W : WX}
theorem s_xnw (x0 : XOk S C sc fb X) (hc : C.hot = false) {c : Nat} {ks : List Bool} {as : Exs} {n : Str} {e : Expr} {es : List Expr} {p pos : Pos} (hx : C.xcn[c]? = some (n, ks)) (hg : glb sc n = true) (ho : okNm n = true) (ha : SA S W X as (e :: es)) (hk : ckEs C sc fb as (e :: es) = true) :
    SE S W X (.xnw c ks as) (.Call (.Name n p) (e :: es) [] pos) := by
  obtain ⟨h1, _, _⟩ := okNm_of ho
  have hs := notStar_all hk
  obtain ⟨Ca, fI, fd, ps, lv, klv, k1, k2, k3, k4, k5, k6, k7, _, _, _, k10, k11, k12, _⟩ := (x0.xcs c n ks hx).ex
  refine PE.imp (pe_xnw k3 k4 k5 k6 ((x0.room hc).mono (by omega)) k7 (glb_of x0 hg) k2 ha h1 (star_cons (hs e List.mem_cons_self)) (back_any fun y hy => hs y (List.mem_cons_of_mem _ hy))) fun σ H Q h => ?_
  obtain ⟨w, sl, mu, hH, F, P⟩ := h
  refine tA.bnd hH F P fun l vs sl1 mu1 w1 e1 F1 rv P1 => ?_
  by_cases hk : okX ks l = true
  case neg => rw [if_neg hk] at P1; exact P1.elim
  rw [if_pos hk] at P1
  have hv := okV_of hk rv
  have hfl : vs.length = (S.T.fld c).length := (okV_len hv).trans k10
  refine ⟨by rw [hfl]; omega, fun a ha => ⟨a, vs, rfl, hfl, hv, upd_same, fun d H' hd hne g1 g2 g3 => ⟨rfl, ?_⟩⟩⟩
  rw [upd_ne hne] at hd
  have gr : Grow w1.H H' := fun b o hb => g3 b o (ne_of_none hb ha) (by rw [upd_ne (ne_of_none hb ha)]; exact hb)
  have e2 := Wd.hp_ext gr
  exact P1 (w1.hp H') e2 (F1.hp gr) (.ref a) (by
    simp only [RepV]
    exact ⟨a, d, vs.reverse, rfl, by rw [k12]; exact g1, fun z => F1.wok.mtr a z ha, g2, fun z => F1.wok.mtr d z hd, by rw [List.length_reverse, hfl], Reps.reverse (Reps.ext F1.wok e2 _ _ rv)⟩)
theorem s_xat (x0 : XOk S C sc fb X) {tb : List (Nat × Nat)} {a : Ex} {n : Str} {o : Expr} {pos : Pos} (ht : tb.all (fun p => decide ((C.xfl[p.1]?).bind (·[p.2]?) = some n) && Nat.blt p.1 C.xcn.length) = true) (ha : SE S W X a o) (hs : notSuper o = true) :
    SE S W X (.xat tb a) (.Attribute o n pos) := by
  refine PE.imp (pe_xat ha (RA.attr_of hs)) fun σ H Q h => ?_
  obtain ⟨w, sl, mu, hH, F, P⟩ := h
  refine tE.bnd hH F P fun q u sl1 mu1 w1 e1 F1 rv P1 => ?_
  cases q with
  | exc c fs =>
    obtain ⟨z, hz, P1⟩ := P1.lift
    simp only [RepV] at rv
    obtain ⟨ad, d, vs, rfl, g1, _, g2, _, g3, g4⟩ := rv
    simp only [Option.bind_eq_some_iff] at hz
    obtain ⟨i, hi, hz⟩ := hz
    have hmem : (c, i) ∈ tb := by
      obtain ⟨l1, l2, rfl, _⟩ := List.lookup_eq_some_iff.mp hi
      simp
    have hq := List.all_eq_true.mp ht _ hmem
    simp only [Bool.and_eq_true, decide_eq_true_eq, Option.bind_eq_some_iff] at hq
    obtain ⟨⟨ns, n1, n2⟩, n3⟩ := hq
    have hlt : c < C.xcn.length := Nat.blt_eq.mp n3
    obtain ⟨Ca, fI, fd, ps, lv, klv, k1, k2, k3, k4, k5, k6, k7, k8, k9, k9', k10, k11, k12, _⟩ := (x0.xcs c C.xcn[c].1 C.xcn[c].2 (List.getElem?_eq_getElem hlt)).ex
    have hfl := x0.xfl c ns n1
    obtain ⟨v, hv, rv⟩ := g4.get hz
    rw [k12] at g1
    exact ⟨ad, d, Ca, _, v, rfl, g1, g2, k8, k9 n (by rw [hfl]; exact List.mem_of_getElem? n2), zip_look k9' (by rw [hfl]; exact n2) hv, P1 w1 (Ext.refl w1) F1 v rv⟩
  | _ => exact P1.elim
theorem s_xis (x0 : XOk S C sc fb X) {k : Nat} {tb : List (Nat × Bool)} {a : Ex} {y : Str} {x : Expr} {p p2 pos : Pos} (hk : C.icl[k]? = some (y, tb)) (hi : glb sc "isinstance" = true) (hg : glb sc y = true) (ho : okNm y = true) (ha : SE S W X a x) (hs : notStar x = true) :
    SE S W X (.xis k tb a) (.Call (.Name "isinstance" p) [x, .Name y p2] [] pos) := by
  obtain ⟨h1, _, h3⟩ := okNm_of ho
  obtain ⟨v, cv, rv, hu, hm, htb⟩ := x0.icl k y tb hk
  have hty : PE X (.Name y p2) (tC v) := by
    rcases hm with hm | ⟨hm, hbt⟩
    · exact pe_glob (glb_of x0 hg) hm rv h1
    · exact pe_bltn (glb_of x0 hg) hm hbt rv h3 h1
  refine PE.imp (pe_callB call_xis (glb_of x0 hi) (x0.blt _ (by decide +kernel)) PyProof.Rows.boot_isinstance (pa_cons ha (pa_cons hty pa_nil) (star_cons hs)) (by decide) (by decide) (star_cons hs) (by rfl)) fun σ H Q h => ?_
  obtain ⟨w, sl, mu, hH, F, P⟩ := h
  refine tE.bnd hH F P fun q u sl1 mu1 w1 e1 F1 rq P1 => ?_
  cases q with
  | exc c fs =>
    obtain ⟨z, hz, P1⟩ := P1.lift
    simp only [RepV] at rq
    obtain ⟨ad, d, vs, rfl, g1, _, g2, _, g3, g4⟩ := rq
    simp only [Option.map_eq_some_iff] at hz
    obtain ⟨b, hb, rfl⟩ := hz
    have hmem : (c, b) ∈ tb := by
      obtain ⟨l1, l2, rfl, _⟩ := List.lookup_eq_some_iff.mp hb
      simp
    obtain ⟨hlt, hkit⟩ := htb _ hmem
    obtain ⟨Ca, fI, fd, ps, lv, klv, k1, k2, k3, k4, k5, k6, k7, k8, k9, k9', k10, k11, k12, k13⟩ := (x0.xcs c C.xcn[c].1 C.xcn[c].2 (List.getElem?_eq_getElem hlt)).ex
    rw [k12] at g1 hkit
    exact ⟨ad, d, Ca, _, v, cv, b, rfl, g1, g2, k8, k13, hu, hkit, P1 w1 (Ext.refl w1) F1 (.bl b) (by simp only [RepV])⟩
  | _ => exact P1.elim
end
end RA

/-! The caught exception, by its name: its fields, isinstance. -/
namespace RA
open PySem PySem.Spec PyProof.Rows L2

/-- a field of the exception that is caught -/
def tExf (X : Cx) (i : Nat) (n : Str) : TE := fun σ H Q => ∃ a oe C d fs v, σ[i]? = some (some (.ref a)) ∧ (a, oe) ∈ X.pn ∧ Zc (.ref C) (some d) oe ∧ (∃ vs, oe.data = .fields vs) ∧ H d = some (.xd fs) ∧ XfC X.K C ∧ PySem.W.findIn X.K (.ref C) n = some none ∧ fs.lookup n = some v ∧ Q v H
theorem pe_exf {X : Cx} {i : Nat} {x n : Str} {p pos : Pos} (hN : X.N[i]? = some x) (hv : Vis X.env.scope x) (hb : attributeBase (.Name x p) n X.env (eval (.Name x p) X.env) = eval (.Name x p) X.env) (h1 : (x == ("__debug__" : Str)) = false) (h2 : (x == ("__classdict__" : Str)) = false) : PE X (.Attribute (.Name x p) n pos) (tExf X i n) := by
  refine ⟨fun pins s σ H Q I ⟨a, oe, C, d, fs, v, hs, hp, hz, hf, ea, T, hno, l, q⟩ => ?_⟩
  refine L2.attr_of hb (thn ((pe_var hN hv h1 h2).run pins s σ H (fun v H1 => v = .ref a ∧ H1 = H) I ⟨.ref a, hs, rfl, rfl⟩) fun u s1 hh => ?_)
  obtain ⟨y, H1, I1, rx, ey, eH⟩ := hh
  subst ey eH
  obtain rfl : u = Value.ref a := rx
  obtain ⟨ha, _⟩ := I1.pin (a, oe) (List.mem_append_left _ hp)
  obtain ⟨vs, hd⟩ := hf
  have hx : ObjOk X.prog X.w H1 s1.heap d (.xd fs) := I1.hok d _ ea
  obtain ⟨mA, hns, hr⟩ := hx
  obtain ⟨od, ho, hl⟩ := lookIn_ns hns
  obtain ⟨u, hu, ru⟩ := RelO.some_of (v := v) (o := mA n) (by rw [← l]; exact hr n)
  have J : PySem.W.InstAt s1.heap a oe C (some od) := ⟨ha, hz.1, by unfold PySem.W.notCls; rw [hd] <;> rfl, by rw [hz.2]; exact ho⟩
  exact HandSPX.exc_get I1.kIn J T.ga T.gg T.exC (PySem.W.findObj_own T.hdC hno rfl (by rw [hl, hu])) (handed_of ru) ⟨v, H1, I1.tok _, ru, q⟩
/-- isinstance of the exception that is caught -/
def rXie (X : Cx) : List V → Hp → VK → Prop := fun xs H Q => ∃ (a d C : Addr) (oe : Obj) (fs : List (Str × V)) (t : V) (tv : Value) (b : Bool), xs = [.ref a, t] ∧ (a, oe) ∈ X.pn ∧ Zc (.ref C) (some d) oe ∧ (∃ vs, oe.data = .fields vs) ∧ H d = some (.xd fs) ∧ XfC X.K C ∧ XiC X.K C ∧ (∀ u, RelV t u → u = tv) ∧ PySem.W.kitOne X.K (.ref C) tv = some b ∧ Q (.bl b) H
theorem call_xie {X : Cx} : CallR X (.builtin "isinstance") (rXie X) := by
  intro pins s σ H xs us Q I r h
  obtain ⟨a, d, C, oe, fs, t, tv, b, rfl, hp, hz, hf, ed, T, T2, ht, hk, q⟩ := h
  cases r with
  | cons r1 rr =>
    cases rr with
    | cons r2 rr =>
      cases rr
      cases r1
      have e2 := ht _ r2
      subst e2
      obtain ⟨ha, _⟩ := I.pin (a, oe) (List.mem_append_left _ hp)
      obtain ⟨vs, hd⟩ := hf
      have hx : ObjOk X.prog X.w H s.heap d (.xd fs) := I.hok d _ ed
      obtain ⟨mA, hns, hr⟩ := hx
      obtain ⟨od, ho, hl⟩ := lookIn_ns hns
      have J : PySem.W.InstAt s.heap a oe C (some od) := ⟨ha, hz.1, by unfold PySem.W.notCls; rw [hd] <;> rfl, by rw [hz.2]; exact ho⟩
      exact PySem.W.kia_one (PySem.W.kitx_exc T2.hcl T.ga T.gg T.exC T2.ha T2.hn T2.ht T2.hm) I.kIn J hk (fun z => nomatch z) fun tk => ⟨.bl b, H, I.kept (t' := tk) fun _ _ z => z, rfl, q⟩
section
variable {S : Gs} {C : Ck} {sc : Scope} {fb : Str → Bool} {X : Cx} {W : WX}
theorem s_exf (x0 : XOk S C sc fb X) {i c k : Nat} {x n : Str} {p pos : Pos} (hi : C.N[i]? = some x) (hv : vis sc x = true) (ho : okNm x = true) (hn : (C.xfl[c]?).bind (·[k]?) = some n) : SE S W X (.exf i c k) (.Attribute (.Name x p) n pos) := by
  obtain ⟨h1, h2, _⟩ := okNm_of ho
  refine PE.imp (pe_exf (i := i) (by rw [x0.N]; exact hi) (vis_of x0 hv) (RA.attr_of rfl) h1 h2) fun σ H Q h => ?_
  obtain ⟨w, sl, mu, hH, F, P⟩ := h
  subst hH
  have P2 : Pst S.T S.C W σ w (match sl[i]? with
    | some (.ex c' fs) => if c' == c then lift fs[k]? sl mu else .stk
    | _ => .stk) (QE S.T Q) := P
  clear P
  cases e : sl[i]? with
  | none => rw [e] at P2; exact P2.elim
  | some z =>
    rw [e] at P2
    cases z with
    | ex c' fs =>
      by_cases hc : (c' == c) = true
      · have P3 : Pst S.T S.C W σ w (if (c' == c) = true then lift fs[k]? sl mu else .stk) (QE S.T Q) := P2
        rw [if_pos hc] at P3
        obtain rfl := eq_of_beq hc
        obtain ⟨v0, hv0, P1⟩ := P3.lift
        obtain ⟨a, d, vs, hs, hx, hd, hl, hm, hr⟩ := F.ex i c' fs e
        obtain ⟨hlt, oe, hp, hz, hf⟩ := x0.pin _ hx
        obtain ⟨Ca, fI, fd, ps, lv, klv, k1, k2, k3, k4, k5, k6, k7, k8, k9, k9', k10, k11, k12, k13⟩ := (x0.xcs c' C.xcn[c'].1 C.xcn[c'].2 (List.getElem?_eq_getElem hlt)).ex
        simp only [Option.bind_eq_some_iff] at hn
        obtain ⟨ns, n1, n2⟩ := hn
        have hfl := x0.xfl c' ns n1
        obtain ⟨v, hv, rv⟩ := hr.get hv0
        have hz := hz.zc
        rw [k1] at hz
        exact ⟨a, oe, Ca, d, _, v, hs, hp, hz, hf, hd, k8, k9 n (by rw [hfl]; exact List.mem_of_getElem? n2), zip_look k9' (by rw [hfl]; exact n2) hv, P1 w (Ext.refl w) F v rv⟩
      · have P3 : Pst S.T S.C W σ w (if (c' == c) = true then lift fs[k]? sl mu else .stk) (QE S.T Q) := P2
        rw [if_neg hc] at P3
        exact P3.elim
    | _ => exact P2.elim
theorem s_xie (x0 : XOk S C sc fb X) {i k : Nat} {tb : List (Nat × Bool)} {z y : Str} {pz p p2 pos : Pos} (hN : C.N[i]? = some z) (hvz : vis sc z = true) (hoz : okNm z = true) (hk : C.icl[k]? = some (y, tb)) (hi : glb sc "isinstance" = true) (hg : glb sc y = true) (ho : okNm y = true) :
    SE S W X (.xie i k tb) (.Call (.Name "isinstance" p) [.Name z pz, .Name y p2] [] pos) := by
  obtain ⟨h1, _, h3⟩ := okNm_of ho
  obtain ⟨g1, g2, _⟩ := okNm_of hoz
  obtain ⟨v, cv, rv, hu, hm, htb⟩ := x0.icl k y tb hk
  have hty : PE X (.Name y p2) (tC v) := by
    rcases hm with hm | ⟨hm, hbt⟩
    · exact pe_glob (glb_of x0 hg) hm rv h1
    · exact pe_bltn (glb_of x0 hg) hm hbt rv h3 h1
  have hz : PE X (.Name z pz) _ := pe_var (i := i) (by rw [x0.N]; exact hN) (vis_of x0 hvz) g1 g2
  refine PE.imp (pe_callB call_xie (glb_of x0 hi) (x0.blt _ (by decide +kernel)) PyProof.Rows.boot_isinstance (pa_cons hz (pa_cons hty pa_nil) rfl) (by decide) (by decide) rfl (by rfl)) fun σ H Q h => ?_
  obtain ⟨w, sl, mu, hH, F, P⟩ := h
  subst hH
  have P2 : Pst S.T S.C W σ w (match sl[i]? with
    | some (.ex c' fs) => lift ((tb.lookup c').map .bl) sl mu
    | _ => .stk) (QE S.T Q) := P
  clear P
  cases e : sl[i]? with
  | none => rw [e] at P2; exact P2.elim
  | some q =>
    rw [e] at P2
    cases q with
    | ex c' fs =>
      have P3 : Pst S.T S.C W σ w (lift ((tb.lookup c').map .bl) sl mu) (QE S.T Q) := P2
      obtain ⟨v0, hv0, P1⟩ := P3.lift
      simp only [Option.map_eq_some_iff] at hv0
      obtain ⟨b, hb, rfl⟩ := hv0
      obtain ⟨a, d, vs, hs, hx, hd, hl, hm', hr⟩ := F.ex i c' fs e
      obtain ⟨hlt, oe, hp, hz, hf⟩ := x0.pin _ hx
      have hmem : (c', b) ∈ tb := by
        obtain ⟨l1, l2, rfl, _⟩ := List.lookup_eq_some_iff.mp hb
        simp
      obtain ⟨_, hkit⟩ := htb _ hmem
      obtain ⟨Ca, fI, fd, ps, lv, klv, k1, k2, k3, k4, k5, k6, k7, k8, k9, k9', k10, k11, k12, k13⟩ := (x0.xcs c' C.xcn[c'].1 C.xcn[c'].2 (List.getElem?_eq_getElem hlt)).ex
      have hz := hz.zc
      rw [k1] at hz
      rw [k12] at hkit
      exact ⟨.ref a, hs, a, d, Ca, oe, _, v, cv, b, rfl, hp, hz, hf, hd, k8, k13, hu, hkit, P1 w (Ext.refl w) F (.bl b) (by simp only [RepV])⟩
    | _ => exact P2.elim
end
end RA

/-! Soundness: every expression. -/
namespace RA
open PySem L2

section
variable {S : Gs} {C : Ck} {sc : Scope} {fb : Str → Bool} {X : Cx} {W : WX}
theorem snd_lsth {T : Tb} {X : Cx} (hK : T.K = X.K) : CallR X (.type "list") (rPs T (bi .lsth)) := by
  intro pins s σ H vs us Q I rs h
  obtain ⟨w, σ', sl, mu, ps, z, rfl, F, rp, e, h⟩ := h
  refine snd_list hK pins s σ _ _ us Q I rs ⟨w, σ', sl, mu, ps, z, rfl, F, rp, ?_, h⟩
  unfold bi at e
  unfold lsV
  split at e <;> simp_all
theorem snd_all (x0 : XOk S C sc fb X) (b : Bi) (hb : (!C.hot || b.hotOk) = true) : CallR X (biT b) (rPs S.T (bi b)) := by
  cases hc : C.hot with
  | false =>
    cases b with
    | list => exact snd_lists x0.hK (x0.calm hc)
    | lsth => exact snd_lsth x0.hK
    | sum2 => exact snd_sum2 x0.hK (x0.calm hc)
    | _ => exact snd_bi x0.hK _ (by decide) (by decide) (fun _ => cr_all (x0.calm hc)) (fun _ => cr_sum (x0.calm hc)) (fun _ => x0.calm hc)
  | true =>
    rw [hc] at hb
    cases b with
    | lsth => exact snd_lsth x0.hK
    | list => simp [Bi.hotOk] at hb
    | sum2 => simp [Bi.hotOk] at hb
    | any => simp [Bi.hotOk] at hb
    | min => simp [Bi.hotOk] at hb
    | max => simp [Bi.hotOk] at hb
    | _ => exact snd_bi x0.hK _ (by decide) (by decide) (fun _ => cr_allH (x0.hotc hc)) (fun _ => cr_sumH (x0.hotc hc)) (by rintro (h | h | h) <;> cases h)
theorem s_index (x0 : XOk S C sc fb X) {a : Ex} {as : Exs} {o e : Expr} {es : List Expr} {ap cp : Pos} (ha : SE S W X a o) (hb : SA S W X as (e :: es)) (hk : ckEs C sc fb as (e :: es) = true) (hsu : notSuper o = true) (hl : es.length ≤ 5) (hline : (ap.endLine == cp.line) = true) :
    SE S W X (.mt .index a as) (.Call (.Attribute o "index" ap) (e :: es) [] cp) := by
  have hs := notStar_all hk
  refine PE.imp (pe_bm PySem.F.plainAttrs_str PySem.F.slot_str_index PySem.F.type_str_index (snd_index x0.hK) ha hb (attr_of hsu) ?_ hline (star_cons (hs e List.mem_cons_self)) (back_any fun y hy => hs y (List.mem_cons_of_mem _ hy))) fun σ H Q h => ?_
  · rw [back_all hs]
    have : decide ((e :: es).length + ([] : List Keyword).length + (if ([] : List Keyword).isEmpty then 0 else 1) < 30) = true := decide_eq_true (by simp only [List.length_cons, List.length_nil, List.isEmpty_nil, if_true]; omega)
    rw [this]
    rfl
  · obtain ⟨w, sl, mu, hH, F, P⟩ := h
    refine tE.bnd hH F P fun p v sl1 mu1 w1 e1 F1 rv P1 => ?_
    by_cases hr : recv .index p = true
    · rw [if_pos hr] at P1
      cases p <;> simp [recv] at hr
      have rv' := rv
      simp only [RepV] at rv'
      obtain ⟨rfl, hz⟩ := rv'
      refine ⟨rfl, tA.bnd rfl F1 P1 fun ps vs sl2 mu2 w2 e2 F2 rvs P2 => ?_⟩
      obtain ⟨z', hz', h⟩ := P2.lift
      exact ⟨w2, σ, sl2, mu2, _, ps, z', rfl, F2, RepV.ext F1.wok e2 _ _ rv, rvs, hz', h⟩
    · rw [if_neg hr] at P1
      exact P1.elim
theorem s_mt (x0 : XOk S C sc fb X) {m : Mt} {a : Ex} {as : Exs} {o e : Expr} {es : List Expr} {ap cp : Pos} (ha : SE S W X a o) (hb : SA S W X as (e :: es)) (hk : ckEs C sc fb as (e :: es) = true) (hsu : notSuper o = true) (hl : es.length ≤ 5) (hline : (ap.endLine == cp.line) = true) :
    SE S W X (.mt m a as) (.Call (.Attribute o (mtN m) ap) (e :: es) [] cp) := by
  cases m with
  | join => exact s_join x0 ha hb hk hsu hl hline
  | index => exact s_index x0 ha hb hk hsu hl hline
theorem takesW0 {X : Cx} : L2N.Takes X W0 := fun _ _ ⟨_, _, _, _, _, _, _, _, _, _, _, _, _, _, _, _, w⟩ => False.elim w
end

theorem t_all1 {S : Gs} {W : WX} {X : Cx} {t : Tt} {x : Expr} {pos : Pos} (h : ST S W X t x) : PW X (.BoolOp .And [x] pos) (tT S.T S.C W (evall S.G S.cf (.cons t .nil))) :=
  ⟨fun wh pins s σ H Q I q => (pw_and1 h).run wh pins s σ H Q I (by
    obtain ⟨w, sl, mu, hH, F, P⟩ := q
    refine tT.bnd hH F P fun c sl1 mu1 w1 e1 F1 P1 => ?_
    cases c with
    | true => exact P1 w1 (Ext.refl w1) F1
    | false => exact P1 w1 (Ext.refl w1) F1)⟩
theorem t_all2 {S : Gs} {W : WX} {X : Cx} {t t2 : Tt} {ts : Tts} {x y : Expr} {r : List Expr} {pos : Pos} (h : ST S W X t x) (h2 : PW X (.BoolOp .And (y :: r) pos) (tT S.T S.C W (evall S.G S.cf (.cons t2 ts)))) : PW X (.BoolOp .And (x :: y :: r) pos) (tT S.T S.C W (evall S.G S.cf (.cons t (.cons t2 ts)))) :=
  ⟨fun wh pins s σ H Q I q => (pw_and h h2).run wh pins s σ H Q I (by
    obtain ⟨w, sl, mu, hH, F, P⟩ := q
    refine tT.bnd hH F P fun c sl1 mu1 w1 e1 F1 P1 => ?_
    cases c with
    | true => exact ⟨w1, sl1, mu1, rfl, F1, P1⟩
    | false => exact P1 w1 (Ext.refl w1) F1)⟩
theorem t_any1 {S : Gs} {W : WX} {X : Cx} {t : Tt} {x : Expr} {pos : Pos} (h : ST S W X t x) : PW X (.BoolOp .Or [x] pos) (tT S.T S.C W (evany S.G S.cf (.cons t .nil))) :=
  ⟨fun wh pins s σ H Q I q => (pw_or1 h).run wh pins s σ H Q I (by
    obtain ⟨w, sl, mu, hH, F, P⟩ := q
    refine tT.bnd hH F P fun c sl1 mu1 w1 e1 F1 P1 => ?_
    cases c with
    | true => exact P1 w1 (Ext.refl w1) F1
    | false => exact P1 w1 (Ext.refl w1) F1)⟩
theorem t_any2 {S : Gs} {W : WX} {X : Cx} {t t2 : Tt} {ts : Tts} {x y : Expr} {r : List Expr} {pos : Pos} (h : ST S W X t x) (h2 : PW X (.BoolOp .Or (y :: r) pos) (tT S.T S.C W (evany S.G S.cf (.cons t2 ts)))) : PW X (.BoolOp .Or (x :: y :: r) pos) (tT S.T S.C W (evany S.G S.cf (.cons t (.cons t2 ts)))) :=
  ⟨fun wh pins s σ H Q I q => (pw_or h h2).run wh pins s σ H Q I (by
    obtain ⟨w, sl, mu, hH, F, P⟩ := q
    refine tT.bnd hH F P fun c sl1 mu1 w1 e1 F1 P1 => ?_
    cases c with
    | true => exact P1 w1 (Ext.refl w1) F1
    | false => exact ⟨w1, sl1, mu1, rfl, F1, P1⟩)⟩
theorem t_not {S : Gs} {W : WX} {X : Cx} {t : Tt} {x : Expr} {pos : Pos} (h : ST S W X t x) : ST S W X (.nt t) (.UnaryOp .Not x pos) :=
  PT.imp (pt_not h) fun σ H Q q => by
    obtain ⟨w, sl, mu, hH, F, P⟩ := q
    exact tT.bnd hH F P fun c sl1 mu1 w1 e1 F1 P1 => P1 w1 (Ext.refl w1) F1
theorem isTup_of {e : Expr} (h : isTup e = true) : ∃ es k p, e = .Tuple es k p := by
  cases e <;> simp [isTup] at h
  exact ⟨_, _, _, rfl⟩

mutual
theorem s_ex {S : Gs} {C : Ck} : ∀ (a : Ex) {W : WX} {sc : Scope} {fb : Str → Bool} {X : Cx} (x0 : XOk S C sc fb X) (tk : L2N.Takes X W) (e : Expr), ckE C sc fb a e = true → SE S W X a e
  | .non, W, sc, fb, X, x0, tk, e, h => by
    simp only [ckE] at h
    split at h
    · exact s_non
    · cases h
  | .bl b, W, sc, fb, X, x0, tk, e, h => by
    simp only [ckE] at h
    split at h
    · obtain rfl := eq_of_beq h; exact s_bl
    · cases h
  | .int i, W, sc, fb, X, x0, tk, e, h => by
    simp only [ckE] at h
    split at h
    · obtain rfl := eq_of_beq h; exact s_int
    · cases h
  | .str x, W, sc, fb, X, x0, tk, e, h => by
    simp only [ckE] at h
    split at h
    · simp only [Bool.and_eq_true, beq_iff_eq] at h
      exact s_str h.1 (Nat.le_of_ble_eq_true h.2)
    · cases h
  | .loc i, W, sc, fb, X, x0, tk, e, h => by
    simp only [ckE] at h
    split at h
    · simp only [Bool.and_eq_true, decide_eq_true_eq] at h
      exact s_loc x0 h.1.1 h.1.2 h.2
    · cases h
  | .glo g, W, sc, fb, X, x0, tk, e, h => by
    simp only [ckE] at h
    split at h
    · simp only [Bool.and_eq_true, decide_eq_true_eq] at h
      exact s_glo x0 h.1.1 h.1.2 h.2
    · cases h
  | .tup es, W, sc, fb, X, x0, tk, e, h => by
    simp only [ckE] at h
    split at h
    · simp only [Bool.and_eq_true] at h
      exact s_tup (s_exs es x0 tk _ h.1) h.1 (Nat.le_of_ble_eq_true h.2)
    · cases h
  | .lst es, W, sc, fb, X, x0, tk, e, h => by
    simp only [ckE] at h
    split at h
    · simp only [Bool.and_eq_true] at h
      exact s_lst (s_exs es x0 tk _ h.1) h.1 (Nat.le_of_ble_eq_true h.2)
    · cases h
  | .op o a b, W, sc, fb, X, x0, tk, e, h => by
    simp only [ckE] at h
    split at h
    · simp only [Bool.and_eq_true, decide_eq_true_eq] at h
      obtain ⟨⟨rfl, h2⟩, h3⟩ := h
      exact s_op x0 (s_ex a x0 tk _ h2) (s_ex b x0 tk _ h3)
    · cases h
  | .neg a, W, sc, fb, X, x0, tk, e, h => by
    simp only [ckE] at h
    split at h
    · exact s_neg (s_ex a x0 tk _ h)
    · cases h
  | .and a b, W, sc, fb, X, x0, tk, e, h => by
    simp only [ckE] at h
    split at h
    · simp only [Bool.and_eq_true] at h
      exact s_and (s_ex a x0 tk _ h.1) (s_ex b x0 tk _ h.2) (.inr ⟨rfl, rfl⟩)
    · simp only [Bool.and_eq_true] at h
      exact s_and (s_ex a x0 tk _ h.1) (s_ex b x0 tk _ h.2) (.inl rfl)
    · cases h
  | .or a b, W, sc, fb, X, x0, tk, e, h => by
    simp only [ckE] at h
    split at h
    · simp only [Bool.and_eq_true] at h
      exact s_or (s_ex a x0 tk _ h.1) (s_ex b x0 tk _ h.2) (.inr ⟨rfl, rfl⟩)
    · simp only [Bool.and_eq_true] at h
      exact s_or (s_ex a x0 tk _ h.1) (s_ex b x0 tk _ h.2) (.inl rfl)
    · cases h
  | .nt a, W, sc, fb, X, x0, tk, e, h => by
    simp only [ckE] at h
    split at h
    · exact s_nt (s_ex a x0 tk _ h)
    · cases h
  | .cmp o a b, W, sc, fb, X, x0, tk, e, h => by
    simp only [ckE] at h
    split at h
    · simp only [Bool.and_eq_true, decide_eq_true_eq] at h
      obtain ⟨⟨⟨rfl, h2⟩, h3⟩, h4⟩ := h
      exact s_cmp x0 (s_ex a x0 tk _ h2) (s_ex b x0 tk _ h3) h4
    · cases h
  | .chn o o' a b c, W, sc, fb, X, x0, tk, e, h => by
    simp only [ckE] at h
    split at h
    · simp only [Bool.and_eq_true, decide_eq_true_eq] at h
      obtain ⟨⟨⟨⟨⟨rfl, rfl⟩, h2⟩, h3⟩, h4⟩, h5⟩ := h
      exact s_chn x0 (s_ex a x0 tk _ h2) (s_ex b x0 tk _ h3) (s_ex c x0 tk _ h4) h5
    · cases h
  | .isn n a, W, sc, fb, X, x0, tk, e, h => by
    simp only [ckE] at h
    split at h
    · simp only [Bool.and_eq_true, decide_eq_true_eq] at h
      obtain ⟨rfl, h2⟩ := h
      exact s_isn (s_ex a x0 tk _ h2)
    · cases h
  | .isi t a, W, sc, fb, X, x0, tk, e, h => by
    simp only [ckE] at h
    split at h
    · simp only [Bool.and_eq_true] at h
      obtain ⟨⟨⟨h1, h2⟩, h3⟩, h4⟩ := h
      obtain ⟨p, rfl, g1⟩ := isName_of h1
      obtain ⟨p2, rfl, g2⟩ := isName_of h2
      exact s_isi x0 (s_ex a x0 tk _ h3) g1 g2 h4
    · cases h
  | .ife t a b, W, sc, fb, X, x0, tk, e, h => by
    simp only [ckE] at h
    split at h
    · simp only [Bool.and_eq_true] at h
      exact s_ife (s_tt t x0 tk _ h.1.1) (s_ex a x0 tk _ h.1.2) (s_ex b x0 tk _ h.2)
    · cases h
  | .idx a b, W, sc, fb, X, x0, tk, e, h => by
    simp only [ckE] at h
    split at h
    · simp only [Bool.and_eq_true] at h
      exact s_idx x0 (s_ex a x0 tk _ h.1.1) (s_ex b x0 tk _ h.1.2) h.2
    · cases h
  | .sli a lo hi, W, sc, fb, X, x0, tk, e, h => by
    simp only [ckE] at h
    split at h
    · simp only [Bool.and_eq_true] at h
      exact s_sli x0 (s_ex a x0 tk _ h.1.1) (s_oe lo x0 tk _ h.1.2) (s_oe hi x0 tk _ h.2)
    · cases h
  | .call f es, W, sc, fb, X, x0, tk, e, h => by
    simp only [ckE] at h
    split at h
    · simp only [Bool.and_eq_true, decide_eq_true_eq] at h
      obtain ⟨⟨⟨⟨hc, h1⟩, h2⟩, h3⟩, h4⟩ := h
      cases hh : C.hot with
      | false => exact s_call x0 hh tk h1 h2 h3 (s_exs es x0 tk _ h4) h4
      | true =>
        rw [hh] at hc
        simp only [Bool.not_true, Bool.false_or, Bool.and_eq_true, Bool.not_eq_true'] at hc
        obtain ⟨c1, c2⟩ := hc
        rename_i xs _
        cases xs with
        | nil => simp at c2
        | cons x xs => exact s_callH x0 hh tk c1 h1 h2 h3 (s_exs es x0 tk _ h4) h4
    · cases h
  | .bi b es, W, sc, fb, X, x0, tk, e, h => by
    simp only [ckE] at h
    split at h
    · simp only [Bool.and_eq_true] at h
      obtain ⟨p, rfl, g⟩ := isName_of h.1.2
      exact s_bi x0 (snd_all x0 b h.1.1) g (s_exs es x0 tk _ h.2) h.2
    · cases h
  | .mt m a es, W, sc, fb, X, x0, tk, e, h => by
    simp only [ckE] at h
    split at h
    · simp only [Bool.and_eq_true, decide_eq_true_eq] at h
      obtain ⟨⟨⟨⟨⟨rfl, h2⟩, h3⟩, h4⟩, h5⟩, h6⟩ := h
      exact s_mt x0 (s_ex a x0 tk _ h2) (s_exs es x0 tk _ h4) h4 h3 (Nat.le_of_ble_eq_true h5) h6
    · cases h
  | .lc own elt tg it ifs, W, sc, fb, X, x0, tk, e, h => by
    simp only [ckE] at h
    split at h
    · simp only [Bool.and_eq_true, decide_eq_true_eq] at h
      obtain ⟨⟨⟨⟨⟨⟨⟨⟨h1, h2⟩, h3⟩, h4⟩, h5⟩, h6⟩, h7⟩, h8⟩, h9⟩ := h
      have hsl : ∀ i ∈ tg.sl, i ∈ own := fun i hi => by
        have := List.all_eq_true.mp h3 i hi
        simpa using this
      rename_i fs _ _
      cases hc : C.hot with
      | true =>
        refine s_lcH x0 hc h2 h1 hsl (s_itH it x0 hc tk _ _ h4) h9 (fun s H A cl fp => s_tg (x0.blkH hc s H _ A cl fp) tg _ h5) (fun s H A cl fp => s_ifs ?_) fun s H A cl fp => s_ex elt (x0.blkH hc s H _ A cl fp) takesW0 _ h8
        match ifs, fs, h6, h7 with
        | .nil, fs, h6, _ =>
          simp only [ckTs, List.isEmpty_iff] at h6
          exact .inl ⟨rfl, h6⟩
        | .cons t ts, [], h6, _ => simp [ckTs] at h6
        | .cons t .nil, [y], h6, _ =>
          simp only [ckTs, Bool.and_eq_true] at h6
          exact .inr ⟨t, y, rfl, rfl, s_tt t (x0.blkH hc s H _ A cl fp) takesW0 _ h6.1⟩
        | .cons t (.cons _ _), [y], h6, _ => simp [ckTs] at h6
        | _, _ :: _ :: _, _, h7 => exact absurd (Nat.le_of_ble_eq_true h7) (by simp)
      | false =>
      refine s_lc x0 hc h2 h1 hsl (s_it it x0 tk _ _ h4) h9 (fun s H A cl fp => s_tg (x0.blk hc s H _ A cl fp) tg _ h5) (fun s H A cl fp => s_ifs ?_) fun s H A cl fp => s_ex elt (x0.blk hc s H _ A cl fp) takesW0 _ h8
      · match ifs, fs, h6, h7 with
        | .nil, fs, h6, _ =>
          simp only [ckTs, List.isEmpty_iff] at h6
          exact .inl ⟨rfl, h6⟩
        | .cons t ts, [], h6, _ => simp [ckTs] at h6
        | .cons t .nil, [y], h6, _ =>
          simp only [ckTs, Bool.and_eq_true] at h6
          exact .inr ⟨t, y, rfl, rfl, s_tt t (x0.blk hc s H _ A cl fp) takesW0 _ h6.1⟩
        | .cons t (.cons _ _), [y], h6, _ => simp [ckTs] at h6
        | _, _ :: _ :: _, _, h7 => exact absurd (Nat.le_of_ble_eq_true h7) (by simp)
    · cases h
  | .lrg it, W, sc, fb, X, x0, tk, e, h => by
    simp only [ckE] at h
    split at h
    · simp only [Bool.and_eq_true] at h
      obtain ⟨⟨h1, h2⟩, h3⟩ := h
      obtain ⟨p, rfl, g⟩ := isName_of h1
      match it, h3 with
      | .rg1 a, h3 =>
        simp only [ckR] at h3
        split at h3
        · simp only [Bool.and_eq_true] at h3
          obtain ⟨p', rfl, g'⟩ := isName_of h3.1.1
          exact s_lrg1 x0 (s_ex a x0 tk _ h3.1.2) g' g h3.2
        · cases h3
      | .rg2 a b, h3 =>
        simp only [ckR] at h3
        split at h3
        · simp only [Bool.and_eq_true] at h3
          obtain ⟨⟨⟨⟨h4, h5⟩, h6⟩, h7⟩, h8⟩ := h3
          obtain ⟨p', rfl, g'⟩ := isName_of h4
          exact s_lrg2 x0 (s_ex a x0 tk _ h5) (s_ex b x0 tk _ h6) g' g h7 h8
        · cases h3
      | .val _, h3 => simp [ckR] at h3
      | .enu _, h3 => simp [ckR] at h3
      | .zip _ _, h3 => simp [ckR] at h3
    · cases h
  | .dcd es, W, sc, fb, X, x0, tk, e, h => by
    simp only [ckE] at h
    split at h
    · simp only [Bool.and_eq_true] at h
      obtain ⟨h1, h2⟩ := h
      obtain ⟨k1, k2, k3⟩ := s_pps es x0 tk _ _ _ h1
      exact s_dcd x0 h1 (Nat.le_of_ble_eq_true h2) k1 k2 k3
    · cases h
  | .dix a b, W, sc, fb, X, x0, tk, e, h => by
    simp only [ckE] at h
    split at h
    · simp only [Bool.and_eq_true] at h
      exact s_dix x0 (s_ex a x0 tk _ h.1.1) (s_ex b x0 tk _ h.1.2) h.2
    · cases h
  | .dof a, W, sc, fb, X, x0, tk, e, h => by
    simp only [ckE] at h
    split at h
    · simp only [Bool.and_eq_true, Bool.not_eq_true'] at h
      obtain ⟨p, rfl, g⟩ := isName_of h.1.1.2
      exact s_dof x0 h.1.1.1 (s_ex a x0 tk _ h.1.2) g h.2
    · cases h
  | .dgt d k x, W, sc, fb, X, x0, tk, e, h => by
    simp only [ckE] at h
    split at h
    · simp only [Bool.and_eq_true, decide_eq_true_eq] at h
      obtain ⟨⟨⟨⟨⟨⟨⟨rfl, h2⟩, h3⟩, h4⟩, h5⟩, h6⟩, h7⟩, h8⟩ := h
      exact s_dgt x0 (s_ex d x0 tk _ h2) (s_ex k x0 tk _ h3) (s_ex x x0 tk _ h4) h5 h6 h7 h8
    · cases h
  | .rev a, W, sc, fb, X, x0, tk, e, h => by
    simp only [ckE] at h
    split at h
    · exact s_rev x0 (s_ex a x0 tk _ h)
    · cases h
  | .exf i c k, W, sc, fb, X, x0, tk, e, h => by
    simp only [ckE] at h
    split at h
    · simp only [Bool.and_eq_true, decide_eq_true_eq] at h
      exact s_exf x0 h.1.1.1 h.1.1.2 h.1.2 h.2
    · cases h
  | .xie i k tb, W, sc, fb, X, x0, tk, e, h => by
    simp only [ckE] at h
    split at h
    · simp only [Bool.and_eq_true, decide_eq_true_eq] at h
      obtain ⟨⟨⟨⟨⟨⟨h1, h2⟩, h3⟩, h4⟩, h5⟩, h6⟩, h7⟩ := h
      obtain ⟨p, rfl, g⟩ := isName_of h1
      exact s_xie x0 h2 h3 h4 h5 g h6 h7
    · cases h
  | .stk, W, sc, fb, X, x0, tk, e, h => s_stk
  | .fnv f, W, sc, fb, X, x0, tk, e, h => by
    simp only [ckE] at h
    split at h
    · simp only [Bool.and_eq_true, decide_eq_true_eq] at h
      exact s_fnv x0 h.1.1 h.1.2 h.2
    · cases h
  | .clv i es, W, sc, fb, X, x0, tk, e, h => by
    simp only [ckE] at h
    split at h
    · simp only [Bool.and_eq_true, Bool.not_eq_true', decide_eq_true_eq] at h
      obtain ⟨⟨⟨⟨hc, h1⟩, h2⟩, h3⟩, h4⟩ := h
      exact s_clv x0 hc tk h1 h2 h3 (s_exs es x0 tk _ h4) h4
    · cases h
  | .tst bs es, W, sc, fb, X, x0, tk, e, h => by
    simp only [ckE] at h
    split at h
    · simp only [Bool.and_eq_true] at h
      exact s_tst (s_sts es bs x0 tk _ h.1)
    · cases h
  | .new _ _ _, W, sc, fb, X, x0, tk, e, h => by simp [ckE] at h
  | .att _ _ _, W, sc, fb, X, x0, tk, e, h => by simp [ckE] at h
  | .mth _ _ _ _, W, sc, fb, X, x0, tk, e, h => by simp [ckE] at h
  | .lsc _, W, sc, fb, X, x0, tk, e, h => by simp [ckE] at h
  | .pop _, W, sc, fb, X, x0, tk, e, h => by simp [ckE] at h
  | .rpe _ _, W, sc, fb, X, x0, tk, e, h => by simp [ckE] at h
  | .xnw c ks es, W, sc, fb, X, x0, tk, e, h => by
    simp only [ckE] at h
    split at h
    · simp only [Bool.and_eq_true, Bool.not_eq_true', decide_eq_true_eq] at h
      obtain ⟨⟨⟨⟨⟨hc, h1⟩, h2⟩, h3⟩, h4⟩, _⟩ := h
      exact s_xnw x0 hc h1 h2 h3 (s_exs es x0 tk _ h4) h4
    · cases h
  | .xat tb a, W, sc, fb, X, x0, tk, e, h => by
    simp only [ckE] at h
    split at h
    · rw [Bool.and_eq_true, Bool.and_eq_true] at h
      exact s_xat x0 h.1.1 (s_ex a x0 tk _ h.1.2) h.2
    · cases h
  | .xis k tb a, W, sc, fb, X, x0, tk, e, h => by
    simp only [ckE] at h
    split at h
    · simp only [Bool.and_eq_true, decide_eq_true_eq] at h
      obtain ⟨⟨⟨⟨⟨h1, h2⟩, h3⟩, h4⟩, h5⟩, h6⟩ := h
      obtain ⟨p, rfl, g1⟩ := isName_of h1
      exact s_xis x0 h2 g1 h3 h4 (s_ex a x0 tk _ h5) h6
    · cases h
theorem s_sts {S : Gs} {C : Ck} : ∀ (a : Exs) (bs : List Bool) {W : WX} {sc : Scope} {fb : Str → Bool} {X : Cx} (x0 : XOk S C sc fb X) (tk : L2N.Takes X W) (xs : List Expr), ckSt C sc fb bs a xs = true → SSt S W X bs a xs
  | .nil, bs, W, sc, fb, X, x0, tk, xs, h => by
    match bs, h with
    | [], h =>
      simp only [ckSt, List.isEmpty_iff] at h
      subst h
      exact st_nil
    | _ :: _, h => simp [ckSt] at h
  | .cons e es, bs, W, sc, fb, X, x0, tk, xs, h => by
    match bs, h with
    | [], h => simp [ckSt] at h
    | b :: bs, h =>
      rw [ckSt.eq_def] at h
      simp only at h
      match xs, h with
      | [], h => simp at h
      | x :: r, h =>
        simp only [Bool.and_eq_true] at h
        obtain ⟨h1, h2⟩ := h
        cases b with
        | false =>
          simp only [Bool.and_eq_true] at h1
          exact st_cons (s_ex e x0 tk _ h1.1) (s_sts es bs x0 tk _ h2) h1.2
        | true =>
          cases x <;> first
            | exact st_star x0 (s_ex e x0 tk _ h1) (s_sts es bs x0 tk _ h2)
            | (simp at h1; done)
theorem s_pps {S : Gs} {C : Ck} : ∀ (a : Exs) {W : WX} {sc : Scope} {fb : Str → Bool} {X : Cx} (x0 : XOk S C sc fb X) (tk : L2N.Takes X W) (keys : List (Option Expr)) (values : List Expr) (pos : Pos), ckD C sc fb a keys values = true → keys.all (·.isSome) = true ∧ keys.length = values.length ∧ PPs X pos keys values (trsOf S W a)
  | .nil, W, sc, fb, X, x0, tk, keys, values, pos, h => by
    simp only [ckD, Bool.and_eq_true, List.isEmpty_iff] at h
    obtain ⟨rfl, rfl⟩ := h
    exact ⟨rfl, rfl, pps_nil⟩
  | .cons k .nil, W, sc, fb, X, x0, tk, keys, values, pos, h => by simp [ckD] at h
  | .cons k (.cons v r), W, sc, fb, X, x0, tk, keys, values, pos, h => by
    unfold ckD at h
    simp only at h
    split at h
    · simp only [Bool.and_eq_true] at h
      obtain ⟨h1, h2, h3⟩ := s_pps r x0 tk _ _ pos h.2
      exact ⟨by simpa using h1, by simpa using h2, pps_cons (s_ex k x0 tk _ h.1.1) (s_ex v x0 tk _ h.1.2) h3⟩
    · cases h
theorem s_it {S : Gs} {C : Ck} : ∀ (a : It) {W : WX} {sc : Scope} {fb : Str → Bool} {X : Cx} (x0 : XOk S C sc fb X) (tk : L2N.Takes X W) (e tg : Expr), ckI C sc fb a e tg = true → SI S W X a tg e
  | .val a, W, sc, fb, X, x0, tk, e, tg, h => by
    simp only [ckI] at h
    exact i_val x0 (s_ex a x0 tk _ h)
  | .rg1 a, W, sc, fb, X, x0, tk, e, tg, h => by
    simp only [ckI] at h
    split at h
    · simp only [Bool.and_eq_true] at h
      obtain ⟨p', rfl, g'⟩ := isName_of h.1.1
      exact i_rg1 x0 (s_ex a x0 tk _ h.1.2) g' h.2
    · cases h
  | .rg2 a b, W, sc, fb, X, x0, tk, e, tg, h => by
    simp only [ckI] at h
    split at h
    · simp only [Bool.and_eq_true] at h
      obtain ⟨⟨⟨⟨⟨_, h4⟩, h5⟩, h6⟩, h7⟩, h8⟩ := h
      obtain ⟨p', rfl, g'⟩ := isName_of h4
      exact i_rg2 x0 (s_ex a x0 tk _ h5) (s_ex b x0 tk _ h6) g' h7 h8
    · cases h
  | .enu a, W, sc, fb, X, x0, tk, e, tg, h => by
    simp only [ckI] at h
    split at h
    · simp only [Bool.and_eq_true] at h
      obtain ⟨⟨⟨⟨_, h4⟩, h5⟩, h6⟩, h7⟩ := h
      obtain ⟨p', rfl, g'⟩ := isName_of h4
      obtain ⟨es, k, p3, rfl⟩ := isTup_of h7
      exact i_enu x0 (s_ex a x0 tk _ h5) g' h6
    · cases h
  | .zip a b, W, sc, fb, X, x0, tk, e, tg, h => by
    simp only [ckI] at h
    split at h
    · simp only [Bool.and_eq_true] at h
      obtain ⟨⟨⟨⟨⟨h4, h5⟩, h6⟩, h7⟩, h8⟩, h9⟩ := h
      obtain ⟨p', rfl, g'⟩ := isName_of h4
      obtain ⟨es, k, p3, rfl⟩ := isTup_of h9
      exact i_zip x0 (s_ex a x0 tk _ h5) (s_ex b x0 tk _ h6) g' h7 h8
    · cases h
theorem s_itH {S : Gs} {C : Ck} : ∀ (a : It) {W : WX} {sc : Scope} {fb : Str → Bool} {X : Cx} (x0 : XOk S C sc fb X) (hc : C.hot = true) (tk : L2N.Takes X W) (e tg : Expr), ckI C sc fb a e tg = true → SIH S W X a tg e
  | .val a, W, sc, fb, X, x0, hc, tk, e, tg, h => by
    simp only [ckI] at h
    exact i_valH x0 (s_ex a x0 tk _ h)
  | .rg1 a, W, sc, fb, X, x0, hc, tk, e, tg, h => by
    simp only [ckI] at h
    split at h
    · simp only [Bool.and_eq_true] at h
      obtain ⟨p', rfl, g'⟩ := isName_of h.1.1
      exact i_rg1H x0 (s_ex a x0 tk _ h.1.2) g' h.2
    · cases h
  | .rg2 a b, W, sc, fb, X, x0, hc, tk, e, tg, h => by
    simp only [ckI, hc] at h
    split at h <;> simp at h
  | .enu a, W, sc, fb, X, x0, hc, tk, e, tg, h => by
    simp only [ckI, hc] at h
    split at h <;> simp at h
  | .zip a b, W, sc, fb, X, x0, hc, tk, e, tg, h => by
    simp only [ckI] at h
    split at h
    · simp only [Bool.and_eq_true] at h
      obtain ⟨⟨⟨⟨⟨h4, h5⟩, h6⟩, h7⟩, h8⟩, h9⟩ := h
      obtain ⟨p', rfl, g'⟩ := isName_of h4
      obtain ⟨es, k, p3, rfl⟩ := isTup_of h9
      exact i_zipH x0 (s_ex a x0 tk _ h5) (s_ex b x0 tk _ h6) g' h7 h8
    · cases h
theorem s_exs {S : Gs} {C : Ck} : ∀ (a : Exs) {W : WX} {sc : Scope} {fb : Str → Bool} {X : Cx} (x0 : XOk S C sc fb X) (tk : L2N.Takes X W) (e : List Expr), ckEs C sc fb a e = true → SA S W X a e
  | .nil, W, sc, fb, X, x0, tk, e, h => by
    simp only [ckEs, List.isEmpty_iff] at h
    subst h
    exact a_nil
  | .cons a as, W, sc, fb, X, x0, tk, e, h => by
    simp only [ckEs] at h
    split at h
    · simp only [Bool.and_eq_true] at h
      exact a_cons (s_ex a x0 tk _ h.1.1) (s_exs as x0 tk _ h.2) h.1.2
    · cases h
theorem s_tt {S : Gs} {C : Ck} : ∀ (a : Tt) {W : WX} {sc : Scope} {fb : Str → Bool} {X : Cx} (x0 : XOk S C sc fb X) (tk : L2N.Takes X W) (e : Expr), ckT C sc fb a e = true → ST S W X a e
  | .v a, W, sc, fb, X, x0, tk, e, h => by
    simp only [ckT, Bool.and_eq_true, Bool.or_eq_true] at h
    obtain ⟨h1, h2 | h2⟩ := h
    · exact t_val (s_ex a x0 tk _ h1) h2
    · match a, h1, h2 with
      | .cmp o a b, h, _ =>
        simp only [ckE] at h
        split at h
        · simp only [Bool.and_eq_true, decide_eq_true_eq] at h
          obtain ⟨⟨⟨rfl, h2⟩, h3⟩, h4⟩ := h
          exact t_cmp x0 (s_ex a x0 tk _ h2) (s_ex b x0 tk _ h3) h4
        · cases h
      | .chn o o' a b c, h, _ =>
        simp only [ckE] at h
        split at h
        · simp only [Bool.and_eq_true, decide_eq_true_eq] at h
          obtain ⟨⟨⟨⟨⟨rfl, rfl⟩, h2⟩, h3⟩, h4⟩, h5⟩ := h
          exact t_chn x0 (s_ex a x0 tk _ h2) (s_ex b x0 tk _ h3) (s_ex c x0 tk _ h4) h5
        · cases h
      | .isn n a, h, _ =>
        simp only [ckE] at h
        split at h
        · simp only [Bool.and_eq_true, decide_eq_true_eq] at h
          obtain ⟨rfl, h2⟩ := h
          exact t_isn (s_ex a x0 tk _ h2)
        · cases h
  | .all ts, W, sc, fb, X, x0, tk, e, h => by
    simp only [ckT] at h
    split at h
    · simp only [Bool.and_eq_true] at h
      obtain ⟨h1, h2⟩ := h
      rename_i xs _
      match xs, h1, h2 with
      | x :: r, h1, _ => exact (s_all ts x0 tk x r _ h1).pt
    · cases h
  | .any ts, W, sc, fb, X, x0, tk, e, h => by
    simp only [ckT] at h
    split at h
    · simp only [Bool.and_eq_true] at h
      obtain ⟨h1, h2⟩ := h
      rename_i xs _
      match xs, h1, h2 with
      | x :: r, h1, _ => exact (s_any ts x0 tk x r _ h1).pt
    · cases h
  | .nt t, W, sc, fb, X, x0, tk, e, h => by
    simp only [ckT] at h
    split at h
    · exact t_not (s_tt t x0 tk _ h)
    · cases h
theorem s_all {S : Gs} {C : Ck} : ∀ (a : Tts) {W : WX} {sc : Scope} {fb : Str → Bool} {X : Cx} (x0 : XOk S C sc fb X) (tk : L2N.Takes X W) (x : Expr) (r : List Expr) (pos : Pos), ckTs C sc fb a (x :: r) = true → PW X (.BoolOp .And (x :: r) pos) (tT S.T S.C W (evall S.G S.cf a))
  | .nil, W, sc, fb, X, x0, tk, x, r, pos, h => by simp [ckTs] at h
  | .cons t .nil, W, sc, fb, X, x0, tk, x, r, pos, h => by
    simp only [ckTs, Bool.and_eq_true, List.isEmpty_iff] at h
    obtain ⟨h1, rfl⟩ := h
    exact t_all1 (s_tt t x0 tk _ h1)
  | .cons t (.cons t2 ts), W, sc, fb, X, x0, tk, x, r, pos, h => by
    rw [ckTs] at h
    simp only [Bool.and_eq_true] at h
    obtain ⟨h1, h2⟩ := h
    match r, h2 with
    | y :: r, h2 => exact t_all2 (s_tt t x0 tk _ h1) (s_all (.cons t2 ts) x0 tk y r pos h2)
    | [], h2 => simp [ckTs] at h2
theorem s_any {S : Gs} {C : Ck} : ∀ (a : Tts) {W : WX} {sc : Scope} {fb : Str → Bool} {X : Cx} (x0 : XOk S C sc fb X) (tk : L2N.Takes X W) (x : Expr) (r : List Expr) (pos : Pos), ckTs C sc fb a (x :: r) = true → PW X (.BoolOp .Or (x :: r) pos) (tT S.T S.C W (evany S.G S.cf a))
  | .nil, W, sc, fb, X, x0, tk, x, r, pos, h => by simp [ckTs] at h
  | .cons t .nil, W, sc, fb, X, x0, tk, x, r, pos, h => by
    simp only [ckTs, Bool.and_eq_true, List.isEmpty_iff] at h
    obtain ⟨h1, rfl⟩ := h
    exact t_any1 (s_tt t x0 tk _ h1)
  | .cons t (.cons t2 ts), W, sc, fb, X, x0, tk, x, r, pos, h => by
    rw [ckTs] at h
    simp only [Bool.and_eq_true] at h
    obtain ⟨h1, h2⟩ := h
    match r, h2 with
    | y :: r, h2 => exact t_any2 (s_tt t x0 tk _ h1) (s_any (.cons t2 ts) x0 tk y r pos h2)
    | [], h2 => simp [ckTs] at h2
theorem s_oe {S : Gs} {C : Ck} : ∀ (a : Oe) {W : WX} {sc : Scope} {fb : Str → Bool} {X : Cx} (x0 : XOk S C sc fb X) (tk : L2N.Takes X W) (e : Option Expr), ckO C sc fb a e = true → SO S W X a e
  | .no, W, sc, fb, X, x0, tk, e, h => by
    simp only [ckO, Option.isNone_iff_eq_none] at h
    subst h
    exact o_no
  | .so a, W, sc, fb, X, x0, tk, e, h => by
    simp only [ckO] at h
    split at h
    · exact o_so (s_ex a x0 tk _ h)
    · cases h
end
end RA

/-! The checker of statements. -/
namespace RA
open PySem L2

def noComp : Expr → Bool
  | .ListComp _ _ _ _ => false
  | .SetComp _ _ _ _ => false
  | .DictComp _ _ _ _ _ => false
  | _ => true
/-- a comprehension stored at once -/
def lcSame (sc : Scope) (x : Str) (p : Pos) : Expr → Bool
  | .ListComp _ _ scope q => (match sc.names.lookup x with | some .local => true | _ => false) && p.line == q.line && !(scope.names.any fun (n, k) => n == x && (k == .local || k == .cell))
  | _ => false
def isLoc (sc : Scope) (x : Str) : Bool := match sc.names.lookup x with | some .local => true | _ => false
/-- the stores of a display are in order -/
def swN (sc : Scope) : Expr → Expr → Bool
  | .Tuple ts _ _, .Tuple vs _ _ => !(ts.length == 2 || ts.length == 3) || !(vs.length == ts.length) || (ts.any fun t => match t with | .Name id _ => !isLoc sc id | _ => true) || vs.all (foldedForSure 8)
  | .List _ _, _ => false
  | _, _ => true
/-- one sign text of a case -/
def ckPat : List (List Nat) → Pattern → Bool
  | ks, .MatchValue (.Constant (.str y) _ _) _ => ks == [y.cps.toList]
  | ks, .MatchOr ps _ => !ps.isEmpty && decide (ps.length = ks.length) && (ks.zip ps).all fun p => match p.2 with | .MatchValue (.Constant (.str y) _ _) _ => p.1 == y.cps.toList | _ => false
  | _, _ => false
mutual
def ckS (sc : Scope) (fb : Str → Bool) : Sm → Ck → Stmt → Bool
  | .asg i e, C, st => (match st with | .Assign [.Name x p] v _ => decide (C.N[i]? = some x) && loc sc fb x && ckE C sc fb e v && (noComp v || (!C.hot && lcSame sc x p v)) | _ => false)
  | .cell i es, C, st => (match st with | .Assign [.Name x _] (.List xs _) _ => decide (C.N[i]? = some x) && loc sc fb x && ckEs C sc fb es xs && Nat.ble xs.length 1000 | _ => false)
  | .own i es, C, st => (match st with | .Assign [.Name x _] (.List xs _) _ => decide (C.N[i]? = some x) && loc sc fb x && ckEs C sc fb es xs && Nat.ble xs.length 1000 | _ => false)
  | .ast tg e, C, st => (match st with | .Assign [t] v _ => notStar t && ckG C.N sc fb tg t && ckE C sc fb e v && noComp v && swN sc t v | _ => false)
  | .par i j a b, C, st => (match st with | .Assign [.Tuple [.Name x px, .Name y py] _ _] (.Tuple [u, v] _ _) _ => !C.hot && decide (C.N[i]? = some x) && decide (C.N[j]? = some y) && isLoc sc x && isLoc sc y && px.line == py.line && !(x == y) && notStar u && notStar v
      && !([u, v].all (foldedForSure 8)) && !([u, v].all (constantsAlone 8)) && ckE C sc fb a u && ckE C sc fb b v | _ => false)
  | .par3 i j k a b c, C, st => (match st with | .Assign [.Tuple [.Name x px, .Name y py, .Name z pz] _ _] (.Tuple [u, v, w] _ _) _ => !C.hot && decide (C.N[i]? = some x) && decide (C.N[j]? = some y) && decide (C.N[k]? = some z) && isLoc sc x && isLoc sc y && isLoc sc z && px.line == py.line && px.line == pz.line
      && !(x == y) && !(x == z) && !(y == z) && notStar u && notStar v && notStar w && !([u, v, w].all (foldedForSure 8)) && !([u, v, w].all (constantsAlone 8)) && ckE C sc fb a u && ckE C sc fb b v && ckE C sc fb c w | _ => false)
  | .aug i o e, C, st => (match st with | .AugAssign (.Name x _) p v _ => decide (C.N[i]? = some x) && loc sc fb x && decide (p = opE o) && ckE C sc fb e v | _ => false)
  | .stc a k v, C, st => (match st with | .Assign [.Subscript o i _] e _ => ckE C sc fb a o && ckE C sc fb k i && notSlice i && ckE C sc fb v e && noComp e | _ => false)
  | .ift t a b, C, st => (match st with | .If c x y _ => ckT C sc fb t c && ckSs sc fb a C x && ckSs sc fb b C y | _ => false)
  | .whl t b, C, st => (match st with | .While c x [] _ => ckT C sc fb t c && ckSs sc fb b C x | _ => false)
  | .for tg it b, C, st => (match st with | .For t i x [] _ => ckG C.N sc fb tg t && ckI C sc fb it i t && notSet i && ckSs sc fb b C x | _ => false)
  | .ret e, C, st => (match st with | .Return (some v) _ => ckE C sc fb e v | _ => false)
  | .exp e, C, st => (match st with | .Expr v _ => ckE C sc fb e v && noComp v | _ => false)
  | .pas, C, st => (match st with | .Pass _ => true | _ => false)
  | .brk, C, st => (match st with | .Break _ => true | _ => false)
  | .cnt, C, st => (match st with | .Continue _ => true | _ => false)
  | .mat e cs, C, st => (match st with | .Match v ms _ => ckE C sc fb e v && ckMs sc fb cs C ms | _ => false)
  | .app i e, C, st => (match st with | .Expr (.Call (.Attribute (.Name x _) n ap) [v] [] cp) _ => decide (n = "append") && decide (C.N[i]? = some x) && vis sc x && okNm x && ckE C sc fb e v && notStar v && ap.endLine == cp.line | _ => false)
  | .rai c ks es, C, st => (match st with | .Raise (some (.Call (.Name x _) (y :: ys) [] _)) none _ => !C.hot && decide (C.xcn[c]? = some (x, ks)) && glb sc x && okNm x && ckEs C sc fb es (y :: ys) && Nat.ble (y :: ys).length 900 | _ => false)
  | .try b c i h, C, st => (match st with | .Try body [.ExceptHandler (some (.Name x _)) nm (b0 :: suite) _] [] [] _ => !C.hot && (match C.xcn[c]? with | some (y, _) => decide (y = x) | none => false) && C.hnd.contains c && glb sc x && okNm x
      && (match i, nm with | some j, some n => decide (C.N[j]? = some n) && isLoc sc n | none, none => true | _, _ => false) && ckSs sc fb b C body && ckSs sc fb h { C with hot := true } (b0 :: suite) | _ => false)
  | .stk, _, _ => true
  | _, _, _ => false
def ckSs (sc : Scope) (fb : Str → Bool) : Sms → Ck → List Stmt → Bool
  | .nil, C, sts => sts.isEmpty
  | .cons s r, C, sts => (match sts with | x :: xs => ckS sc fb s C x && ckSs sc fb r C xs | [] => false)
def ckMs (sc : Scope) (fb : Str → Bool) : Mcs → Ck → List MatchCase → Bool
  | .nil, C, ms => ms.isEmpty
  | .cons ks b r, C, ms => (match ms with | ⟨p, none, body⟩ :: rest => ckPat ks p && ckSs sc fb b C body && ckMs sc fb r C rest | _ => false)
end
/-- what is known of a def beforehand -/
structure FI where
  name : Str
  gn : Option Str
  mt : Option (Nat × Str)
  st : Stmt
  N : List Str
  ps : List Str
  fn : Fn
def isFun : ScopeKind → Bool
  | .function => true
  | _ => false
/-- the tables of a text: constants, classes, attributes, exceptions -/
structure Tx where
  gn : List Str
  cln : List Str := []
  atn : List (List Str) := []
  xcn : List (Str × List Bool) := []
  xfl : List (List Str) := []
  icl : List (Str × List (Nat × Bool)) := []
  hnd : List Nat := []
  hf : List Nat := []
def Tx.ck (t : Tx) (Is : List FI) (N : List Str) : Ck := ⟨N, t.gn, Is.map FI.gn, Is.map FI.mt, t.cln, t.atn, t.xcn, t.xfl, t.icl, false, t.hnd, t.hf⟩
/-- a def's IR against its text -/
def FI.chk (t : Tx) (Is : List FI) (I : FI) : Bool := ckSs (defScope I.st) (fun _ => true) I.fn.body (t.ck Is I.N) (defBody I.st) && Nat.beq I.fn.np I.ps.length && Nat.beq I.fn.ns I.N.length && isFun (defScope I.st).kind
/-- .. where an exception is handled -/
def FI.chkH (t : Tx) (Is : List FI) (I : FI) : Bool := ckSs (defScope I.st) (fun _ => true) I.fn.body { t.ck Is I.N with hot := true } (defBody I.st)
def chkHs (t : Tx) (Is : List FI) : Bool := t.hf.all fun f => match Is[f]? with | some I => I.chkH t Is | none => false
end RA

/-! Soundness: statements. -/
namespace RA
open PySem L2

section
variable {T : Tb} {Cl : Nat → Value} {W : WX}
def endsP (T : Tb) (D : Ends) (f : Fl) (σ : L2.St) (w : Wd) : Prop :=
  match f with
  | .nx => D.nx σ w.H
  | .bk => D.bk σ w.H
  | .ct => D.ct σ w.H
  | .rt p => ∀ v, RepV T w p v → D.rt v w.H
/-- what a statement's result wishes for -/
def Pss {α : Type} (T : Tb) (Cl : Nat → Value) (W : WX) (w : Wd) (r : Res α) (P : α → List Sl → List PV → L2.St → Wd → Prop) : Prop :=
  match r with
  | .stk => False
  | .ok f sl mu => ∀ σ w', Ext w w' → FRel T w' σ sl mu → P f sl mu σ w'
  | .exc e sl mu => ∀ cls d σ w', Ext w w' → FRel T w' σ sl mu → RepX T Cl w' e cls d → W cls d σ w'.H
abbrev Psf (T : Tb) (Cl : Nat → Value) (W : WX) (w : Wd) (r : Res Fl) (D : Ends) : Prop := Pss T Cl W w r fun f _ _ σ w' => endsP T D f σ w'
theorem Pss.bndE {α β : Type} {w : Wd} {r : Res α} {f : α → List Sl → List PV → Res β} {P : β → List Sl → List PV → L2.St → Wd → Prop} (ok : WOk w) (h : Pss T Cl W w (r.bnd f) P) (σ : L2.St) : Pst T Cl W σ w r fun a sl mu w1 => Pss T Cl W w1 (f a sl mu) P := by
  cases r with
  | stk => exact h
  | ok a sl mu =>
    intro w1 e1 F1
    have h' : Pss T Cl W w (f a sl mu) P := h
    generalize f a sl mu = q at h' ⊢
    cases q with
    | stk => exact h'
    | ok b sl' mu' => exact fun σ2 w2 e2 F2 => h' σ2 w2 (e1.trans ok e2) F2
    | exc x sl' mu' => exact fun cls d σ2 w2 e2 F2 rx => h' cls d σ2 w2 (e1.trans ok e2) F2 rx
  | exc x sl mu => exact fun cls d w' e F rx => h cls d σ w' e F rx
theorem Pss.bnd {α β : Type} {w : Wd} {r : Res α} {f : α → List Sl → List PV → Res β} {P : β → List Sl → List PV → L2.St → Wd → Prop} (ok : WOk w) (h : Pss T Cl W w (r.bnd f) P) : Pss T Cl W w r fun a sl mu _ w1 => Pss T Cl W w1 (f a sl mu) P := by
  cases r with
  | stk => exact h
  | ok a sl mu =>
    intro σ w1 e1 F1
    have h' : Pss T Cl W w (f a sl mu) P := h
    generalize f a sl mu = q at h' ⊢
    cases q with
    | stk => exact h'
    | ok b sl' mu' => exact fun σ2 w2 e2 F2 => h' σ2 w2 (e1.trans ok e2) F2
    | exc x sl' mu' => exact fun cls d σ2 w2 e2 F2 rx => h' cls d σ2 w2 (e1.trans ok e2) F2 rx
  | exc x sl mu => exact h
theorem Pss.mono {α : Type} {w : Wd} {r : Res α} {P P' : α → List Sl → List PV → L2.St → Wd → Prop} (h : Pss T Cl W w r P) (f : ∀ a sl mu σ w', Ext w w' → FRel T w' σ sl mu → P a sl mu σ w' → P' a sl mu σ w') : Pss T Cl W w r P' := by
  cases r with
  | stk => exact h
  | ok a sl mu => exact fun σ w' e F => f a sl mu σ w' e F (h σ w' e F)
  | exc x sl mu => exact h
/-- a statement's reading by the interpreter -/
def tS (T : Tb) (Cl : Nat → Value) (W : WX) (m : List Sl → List PV → Res Fl) : TS := fun D σ H => ∃ w sl mu, w.H = H ∧ FRel T w σ sl mu ∧ Psf T Cl W w (m sl mu) D
theorem PS.imp {X : Cx} {st : Stmt} {t t' : TS} (h : PS X st t) (f : ∀ D σ H, t' D σ H → t D σ H) : PS X st t' := ⟨fun pins s σ H D I q => h.run pins s σ H D I (f D σ H q)⟩
theorem PSs.imp {X : Cx} {st : List Stmt} {t t' : TS} (h : PSs X st t) (f : ∀ D σ H, t' D σ H → t D σ H) : PSs X st t' := ⟨fun pins s σ H D I q => h.run pins s σ H D I (f D σ H q)⟩
/-- an expression first -/
theorem tS.bndE {σ : L2.St} {H : Hp} {m : List Sl → List PV → Res PV} {f : PV → List Sl → List PV → Res Fl} {w : Wd} {sl : List Sl} {mu : List PV} {R : V → Hp → Prop} {D : Ends}
    (hH : w.H = H) (F : FRel T w σ sl mu) (P : Psf T Cl W w ((m sl mu).bnd f) D)
    (k : ∀ p v sl1 mu1 w1, Ext w w1 → FRel T w1 σ sl1 mu1 → RepV T w1 p v → Psf T Cl W w1 (f p sl1 mu1) D → R v w1.H) : tE T Cl W m σ H R :=
  ⟨w, sl, mu, hH, F, (P.bndE F.wok σ).mono fun p sl1 mu1 w1 e1 F1 P1 v rv => k p v sl1 mu1 w1 e1 F1 rv P1⟩
theorem tS.bndA {σ : L2.St} {H : Hp} {m : List Sl → List PV → Res (List PV)} {f : List PV → List Sl → List PV → Res Fl} {w : Wd} {sl : List Sl} {mu : List PV} {R : List V → Hp → Prop} {D : Ends}
    (hH : w.H = H) (F : FRel T w σ sl mu) (P : Psf T Cl W w ((m sl mu).bnd f) D)
    (k : ∀ p v sl1 mu1 w1, Ext w w1 → FRel T w1 σ sl1 mu1 → Reps T w1 p v → Psf T Cl W w1 (f p sl1 mu1) D → R v w1.H) : tA T Cl W m σ H R :=
  ⟨w, sl, mu, hH, F, (P.bndE F.wok σ).mono fun p sl1 mu1 w1 e1 F1 P1 v rv => k p v sl1 mu1 w1 e1 F1 rv P1⟩
theorem tS.bndT {σ : L2.St} {H : Hp} {m : List Sl → List PV → Res Bool} {f : Bool → List Sl → List PV → Res Fl} {w : Wd} {sl : List Sl} {mu : List PV} {R : Bool → Hp → Prop} {D : Ends}
    (hH : w.H = H) (F : FRel T w σ sl mu) (P : Psf T Cl W w ((m sl mu).bnd f) D)
    (k : ∀ p sl1 mu1 w1, Ext w w1 → FRel T w1 σ sl1 mu1 → Psf T Cl W w1 (f p sl1 mu1) D → R p w1.H) : tT T Cl W m σ H R :=
  ⟨w, sl, mu, hH, F, (P.bndE F.wok σ).mono fun p sl1 mu1 w1 e1 F1 P1 => k p sl1 mu1 w1 e1 F1 P1⟩
theorem Pss.now {α : Type} {w : Wd} {a : α} {sl : List Sl} {mu : List PV} {P : α → List Sl → List PV → L2.St → Wd → Prop} (h : Pss T Cl W w (.ok a sl mu) P) {σ : L2.St} (F : FRel T w σ sl mu) : P a sl mu σ w := h σ w (Ext.refl w) F
theorem Pss.at {α : Type} {w w' : Wd} {a : α} {sl : List Sl} {mu : List PV} {P : α → List Sl → List PV → L2.St → Wd → Prop} (h : Pss T Cl W w (.ok a sl mu) P) {σ : L2.St} (e : Ext w w') (F : FRel T w' σ sl mu) : P a sl mu σ w' := h σ w' e F
theorem Pss.lift {α : Type} {w : Wd} {o : Option α} {sl : List Sl} {mu : List PV} {β : Type} {f : α → List Sl → List PV → Res β} {P : β → List Sl → List PV → L2.St → Wd → Prop} (h : Pss T Cl W w ((RA.lift o sl mu).bnd f) P) : ∃ a, o = some a ∧ Pss T Cl W w (f a sl mu) P := by
  cases o with
  | none => exact h.elim
  | some a => exact ⟨a, rfl, h⟩
end

/-! ### new containers of one's own, cells -/
section
variable {T : Tb} {w : Wd} {σ : L2.St} {sl : List Sl} {mu : List PV}
def Wd.new (w : Wd) (q : Addr) (xs : List V) : Wd := { w with H := upd w.H q (.lst xs), wr := fun a => w.wr a ∨ a = q, mb := fun a => w.mb a ∨ a = q }
def Wd.newC (w : Wd) (q : Addr) (xs : List V) : Wd := { w with H := upd w.H q (.lst xs), m := w.m ++ [q], wr := fun a => w.wr a ∨ a = q, mb := fun a => w.mb a ∨ a = q }
theorem new_ext {q : Addr} {xs : List V} (hq : w.H q = none) : Ext w (w.new q xs) where
  pre := fun _ _ h => h
  keep := fun a u h _ => by show upd w.H q _ a = _; rw [upd_ne (ne_of_none h hq)]; exact h
  trk := fun a h => by
    show upd w.H q _ a ≠ none
    by_cases e : a = q
    · rw [e, upd_same]; simp
    · rw [upd_ne e]; exact h
  mt := fun a h => h.elim .inl fun e => .inr (e ▸ hq)
  mkp := fun a h _ => .inl h
  ws := fun a h => h.elim .inl fun e => .inr (e ▸ hq)
  xs := rfl
theorem newC_ext {q : Addr} {xs : List V} (hq : w.H q = none) : Ext w (w.newC q xs) where
  pre := fun n a h => by
    show (w.m ++ [q])[n]? = some a
    rw [List.getElem?_append_left (List.getElem?_eq_some_iff.mp h).1]; exact h
  keep := (new_ext (xs := xs) hq).keep
  trk := (new_ext (xs := xs) hq).trk
  mt := (new_ext (xs := xs) hq).mt
  mkp := (new_ext (xs := xs) hq).mkp
  ws := (new_ext (xs := xs) hq).ws
  xs := rfl
theorem new_ok {q : Addr} {xs : List V} (F : FRel T w σ sl mu) (hq : w.H q = none) : WOk (w.new q xs) :=
  ⟨fun a h => h.elim (fun z => .inl (F.wok.sub a z)) .inr, fun a h => h.elim (fun z => (new_ext hq).trk a (F.wok.mtr a z)) fun e => by show upd w.H q _ a ≠ none; rw [e, upd_same]; simp⟩
theorem FRel.newO {q : Addr} {xs : List V} {l : List PV} {i : Nat} (F : FRel T w σ sl mu) (hq : w.H q = none) (r : Reps T w l xs) : FRel T (w.new q xs) (σ.set i (some (.ref q))) (sl.set i (.ow (.lst l))) mu := by
  have e := new_ext (xs := xs) hq
  have hl := F.len
  have k : ∀ a u, w.H a = some u → (w.new q xs).H a = some u := fun a u h => by show upd w.H q _ a = _; rw [upd_ne (ne_of_none h hq)]; exact h
  have nw : ∀ {a : Addr}, w.wr a → a ≠ q := fun h z => F.wok.mtr _ (F.wok.sub _ h) (z ▸ hq)
  have nm : q ∉ w.m := fun z => nw (F.cellOf z) rfl
  refine ⟨new_ok F hq, by simp [hl], fun j p hj => ?_, fun j p hj => ?_, fun j j' p p' a hj hj' s1 s2 => ?_, ⟨F.cel.mlen, fun n c a h1 h2 => ?_, F.cel.inj⟩, fun j c fs hj => ?_⟩
  · by_cases z : i = j
    · subst z
      by_cases y : i < sl.length
      · rw [List.getElem?_set_self y] at hj; cases hj
      · rw [List.getElem?_eq_none (by simp; omega)] at hj; cases hj
    · rw [List.getElem?_set_ne z] at hj
      obtain ⟨v, h1, h2⟩ := F.va j p hj
      exact ⟨v, by rw [List.getElem?_set_ne z]; exact h1, RepV.ext F.wok e p v h2⟩
  · by_cases z : i = j
    · subst z
      by_cases y : i < sl.length
      · rw [List.getElem?_set_self y] at hj
        cases hj
        exact ⟨q, by rw [List.getElem?_set_self (by omega)], ⟨xs, by show upd w.H q _ q = _; rw [upd_same], Reps.ext F.wok e l xs r⟩, .inr rfl, nm⟩
      · rw [List.getElem?_eq_none (by simp; omega)] at hj; cases hj
    · rw [List.getElem?_set_ne z] at hj
      obtain ⟨a, h1, h2, h3, h4⟩ := F.ow j p hj
      exact ⟨a, by rw [List.getElem?_set_ne z]; exact h1, h2.ext_keep F.wok e (k a), .inl h3, h4⟩
  · have old : ∀ {j : Nat} {p : PV} {a : Addr}, i ≠ j → (sl.set i (.ow (.lst l)))[j]? = some (.ow p) → (σ.set i (some (.ref q)))[j]? = some (some (.ref a)) → a ≠ q := fun {j p a} z hj s1 => by
      rw [List.getElem?_set_ne z] at hj s1
      obtain ⟨b, h1, _, h3, _⟩ := F.ow j p hj
      rw [h1] at s1; cases s1
      exact nw h3
    have here : ∀ {a : Addr}, (σ.set i (some (.ref q)))[i]? = some (some (.ref a)) → a = q := fun {a} s1 => by
      by_cases y : i < σ.length
      · rw [List.getElem?_set_self y] at s1; cases s1; rfl
      · rw [List.getElem?_eq_none (by simp; omega)] at s1; cases s1
    by_cases z : i = j
    · by_cases z' : i = j'
      · rw [← z, ← z']
      · subst z
        exact absurd (here s1) (old z' hj' s2)
    · by_cases z' : i = j'
      · subst z'
        exact absurd (here s2) (old z hj s1)
      · rw [List.getElem?_set_ne z] at hj s1
        rw [List.getElem?_set_ne z'] at hj' s2
        exact F.ows j j' p p' a hj hj' s1 s2
  · obtain ⟨h3, h4⟩ := F.cel.cl n c a h1 h2
    exact ⟨h3.ext_keep F.wok e (k a), .inl h4⟩
  · by_cases z : i = j
    · subst z
      by_cases y : i < sl.length
      · rw [List.getElem?_set_self y] at hj; cases hj
      · rw [List.getElem?_eq_none (by simp; omega)] at hj; cases hj
    · rw [List.getElem?_set_ne z] at hj
      rw [List.getElem?_set_ne z]
      exact ex_ext F.wok e (F.ex j c fs hj)
theorem FRel.newC {q : Addr} {xs : List V} {l : List PV} (F : FRel T w σ sl mu) (hq : w.H q = none) (r : Reps T w l xs) : FRel T (w.newC q xs) σ sl (mu ++ [.lst l]) := by
  have e := newC_ext (xs := xs) hq
  have k : ∀ a u, w.H a = some u → (w.newC q xs).H a = some u := fun a u h => by show upd w.H q _ a = _; rw [upd_ne (ne_of_none h hq)]; exact h
  have nw : ∀ {a : Addr}, w.wr a → a ≠ q := fun h z => F.wok.mtr _ (F.wok.sub _ h) (z ▸ hq)
  have nm : q ∉ w.m := fun z => nw (F.cellOf z) rfl
  have hml := F.cel.mlen
  refine ⟨⟨(new_ok (xs := xs) F hq).sub, (new_ok (xs := xs) F hq).mtr⟩, F.len, fun i p h => ?_, fun i p h => ?_, F.ows, ⟨by show (w.m ++ [q]).length = _; simp [hml], fun n c a h1 h2 => ?_, fun n n' a h1 h2 => ?_⟩, fun i c fs h => ex_ext F.wok e (F.ex i c fs h)⟩
  · obtain ⟨v, h1, h2⟩ := F.va i p h
    exact ⟨v, h1, RepV.ext F.wok e p v h2⟩
  · obtain ⟨a, h1, h2, h3, h4⟩ := F.ow i p h
    refine ⟨a, h1, h2.ext_keep F.wok e (k a), .inl h3, fun z => ?_⟩
    have z : a ∈ w.m ++ [q] := z
    rcases List.mem_append.mp z with z | z
    · exact h4 z
    · exact nw h3 (List.mem_singleton.mp z)
  · have h2 : (w.m ++ [q])[n]? = some a := h2
    by_cases hn : n < w.m.length
    · rw [List.getElem?_append_left hn] at h2
      rw [List.getElem?_append_left (by omega)] at h1
      obtain ⟨h3, h4⟩ := F.cel.cl n c a h1 h2
      exact ⟨h3.ext_keep F.wok e (k a), .inl h4⟩
    · rw [List.getElem?_append_right (by omega)] at h1 h2
      have hz : n - w.m.length = 0 := by
        have := (List.getElem?_eq_some_iff.mp h2).1
        simp at this; omega
      rw [hz] at h2
      rw [← hml, hz] at h1
      simp at h1 h2
      subst h1 h2
      exact ⟨⟨xs, by show upd w.H q _ q = _; rw [upd_same], Reps.ext F.wok e l xs r⟩, .inr rfl⟩
  · have h1 : (w.m ++ [q])[n]? = some a := h1
    have h2 : (w.m ++ [q])[n']? = some a := h2
    have cas : ∀ {j : Nat}, (w.m ++ [q])[j]? = some a → (j < w.m.length ∧ w.m[j]? = some a) ∨ (j = w.m.length ∧ a = q) := fun {j} h => by
      by_cases hn : j < w.m.length
      · rw [List.getElem?_append_left hn] at h; exact .inl ⟨hn, h⟩
      · rw [List.getElem?_append_right (by omega)] at h
        have hz : j - w.m.length = 0 := by
          have := (List.getElem?_eq_some_iff.mp h).1
          simp at this; omega
        rw [hz] at h
        simp at h
        exact .inr ⟨by omega, h.symm⟩
    rcases cas h1 with ⟨a1, b1⟩ | ⟨a1, b1⟩ <;> rcases cas h2 with ⟨a2, b2⟩ | ⟨a2, b2⟩
    · exact F.cel.inj n n' a b1 b2
    · subst b2; exact absurd (List.mem_of_getElem? b1) nm
    · subst b1; exact absurd (List.mem_of_getElem? b2) nm
    · omega
/-- an own container, or a cell, is written -/
def Wd.wrt (w : Wd) (q : Addr) (xs : List V) : Wd := { w with H := upd w.H q (.lst xs) }
theorem wrt_ext {q : Addr} {xs : List V} (hq : w.wr q) : Ext w (w.wrt q xs) where
  pre := fun _ _ h => h
  keep := fun a u h k => by show upd w.H q _ a = _; rw [upd_ne (by intro z; subst z; exact k hq)]; exact h
  trk := fun a h => by
    show upd w.H q _ a ≠ none
    by_cases e : a = q
    · rw [e, upd_same]; simp
    · rw [upd_ne e]; exact h
  mt := fun a h => .inl h
  mkp := fun a h _ => h
  ws := fun a h => .inl h
  xs := rfl
theorem FRel.wrtO {q : Addr} {xs : List V} {l l0 : List PV} {i : Nat} (F : FRel T w σ sl mu) (hi : sl[i]? = some (.ow (.lst l0))) (hs : σ[i]? = some (some (.ref q))) (r : Reps T w l xs) : FRel T (w.wrt q xs) σ (sl.set i (.ow (.lst l))) mu := by
  obtain ⟨q', g1, g2, g3, g4⟩ := F.ow i _ hi
  rw [hs] at g1; cases g1
  have e := wrt_ext (xs := xs) g3
  have hil : i < sl.length := (List.getElem?_eq_some_iff.mp hi).1
  have k : ∀ a u, a ≠ q → w.H a = some u → (w.wrt q xs).H a = some u := fun a u n h => by show upd w.H q _ a = _; rw [upd_ne n]; exact h
  refine ⟨⟨F.wok.sub, fun a h => e.trk a (F.wok.mtr a h)⟩, by simp [F.len], fun j p hj => ?_, fun j p hj => ?_, fun j j' p p' a hj hj' s1 s2 => ?_, ⟨F.cel.mlen, fun n c a h1 h2 => ?_, F.cel.inj⟩, fun j c fs hj => ?_⟩
  · by_cases z : i = j
    · subst z
      rw [List.getElem?_set_self hil] at hj; cases hj
    · rw [List.getElem?_set_ne z] at hj
      obtain ⟨v, h1, h2⟩ := F.va j p hj
      exact ⟨v, h1, RepV.ext F.wok e p v h2⟩
  · by_cases z : i = j
    · subst z
      rw [List.getElem?_set_self hil] at hj
      cases hj
      exact ⟨q, hs, ⟨xs, by show upd w.H q _ q = _; rw [upd_same], Reps.ext F.wok e l xs r⟩, g3, g4⟩
    · rw [List.getElem?_set_ne z] at hj
      obtain ⟨a, h1, h2, h3, h4⟩ := F.ow j p hj
      exact ⟨a, h1, h2.ext_keep F.wok e fun o => k a o fun y => z (F.ows i j _ p q hi hj hs (y ▸ h1)), h3, h4⟩
  · have old : ∀ {j : Nat} {p : PV}, (sl.set i (.ow (.lst l)))[j]? = some (.ow p) → ∃ p', sl[j]? = some (.ow p') := fun {j p} hj => by
      by_cases z : i = j
      · subst z; exact ⟨_, hi⟩
      · rw [List.getElem?_set_ne z] at hj; exact ⟨_, hj⟩
    obtain ⟨_, o1⟩ := old hj
    obtain ⟨_, o2⟩ := old hj'
    exact F.ows j j' _ _ a o1 o2 s1 s2
  · obtain ⟨h3, h4⟩ := F.cel.cl n c a h1 h2
    exact ⟨h3.ext_keep F.wok e fun o => k a o fun y => g4 (y ▸ List.mem_of_getElem? h2), h4⟩
  · by_cases z : i = j
    · subst z
      rw [List.getElem?_set_self hil] at hj; cases hj
    · rw [List.getElem?_set_ne z] at hj
      exact ex_ext F.wok e (F.ex j c fs hj)
theorem FRel.wrtC {q : Addr} {xs : List V} {l : List PV} {n : Nat} (F : FRel T w σ sl mu) (hn : w.m[n]? = some q) (r : Reps T w l xs) : FRel T (w.wrt q xs) σ sl (mu.set n (.lst l)) := by
  have hq : w.wr q := F.cellOf (List.mem_of_getElem? hn)
  have e := wrt_ext (xs := xs) hq
  have k : ∀ a u, a ≠ q → w.H a = some u → (w.wrt q xs).H a = some u := fun a u n h => by show upd w.H q _ a = _; rw [upd_ne n]; exact h
  have hnl : n < mu.length := by rw [← F.cel.mlen]; exact (List.getElem?_eq_some_iff.mp hn).1
  refine ⟨⟨F.wok.sub, fun a h => e.trk a (F.wok.mtr a h)⟩, F.len, fun j p hj => ?_, fun j p hj => ?_, F.ows, ⟨by simp; exact F.cel.mlen, fun j c a h1 h2 => ?_, F.cel.inj⟩, fun i c fs h => ex_ext F.wok e (F.ex i c fs h)⟩
  · obtain ⟨v, h1, h2⟩ := F.va j p hj
    exact ⟨v, h1, RepV.ext F.wok e p v h2⟩
  · obtain ⟨a, h1, h2, h3, h4⟩ := F.ow j p hj
    exact ⟨a, h1, h2.ext_keep F.wok e fun o => k a o fun y => h4 (y ▸ List.mem_of_getElem? hn), h3, h4⟩
  · have h2 : w.m[j]? = some a := h2
    by_cases z : n = j
    · subst z
      rw [List.getElem?_set_self hnl] at h1
      cases h1
      rw [hn] at h2; cases h2
      exact ⟨⟨xs, by show upd w.H q _ q = _; rw [upd_same], Reps.ext F.wok e l xs r⟩, hq⟩
    · rw [List.getElem?_set_ne z] at h1
      obtain ⟨h3, h4⟩ := F.cel.cl j c a h1 h2
      exact ⟨h3.ext_keep F.wok e fun o => k a o fun y => z (F.cel.inj n j q hn (y ▸ h2)), h4⟩
end
end RA

/-! Soundness: every statement. -/
namespace RA
open PySem L2

section
variable {S : Gs} {C : Ck} {sc : Scope} {fb : Str → Bool} {X : Cx} {W : WX}
/-- the setting of a suite -/
structure XS (S : Gs) (C : Ck) (sc : Scope) (fb : Str → Bool) (W : WX) (X : Cx) : Prop where
  ok : XOk S C sc fb X
  tk : L2N.Takes X W
  hp : PassesOwn (model X.prog X.w) X.A X.env X.xe
  kd : sc.kind = .function
  stk : C.hot = false → X.stack = X.env :: X.outer
  frm : X.env.frame = some X.env.locals
def SS (S : Gs) (W : WX) (X : Cx) (a : Sm) (st : Stmt) : Prop := PS X st (tS S.T S.C W (xs S.G S.cf a))
def SSs (S : Gs) (W : WX) (X : Cx) (a : Sms) (st : List Stmt) : Prop := PSs X st (tS S.T S.C W (xss S.G S.cf a))

theorem noSw {e : Expr} {t : Option Expr} {l : Nat} {env : Env} (h : noComp e = true) : swapsWith e t l env = pure false := by
  cases e <;> first | rfl | (simp [noComp] at h)
theorem asgOne {t : Expr} {env : Env} (h : notStar t = true) : (assignEach [t] env).map (·.2) = [assign t env] := by
  rw [asg_cons h]; rfl
theorem loc_set (x0 : XOk S C sc fb X) {i : Nat} {x : Str} (hv : loc sc fb x = true) : Loc X.env.scope x ∧ (X.fn x = true ∨ X.env.scope.names.lookup x = some .local) := loc_of x0 hv
theorem isLoc_of (x0 : XOk S C sc fb X) {x : Str} (h : isLoc sc x = true) : X.env.scope.names.lookup x = some .local := by
  unfold isLoc at h
  rw [x0.sc]
  split at h
  · assumption
  · cases h
theorem isLoc_kind (x : XS S C sc fb W X) {y : Str} (h : X.env.scope.names.lookup y = some .local) : X.env.kindOf y = some .local := h
theorem blk_fun (x : XS S C sc fb W X) : X.env.blockKind = .function := by
  unfold Env.blockKind
  rw [x.ok.sc, x.kd]; rfl

theorem filterMap_all {α β : Type} {f : α → Option β} : ∀ {l : List α}, (l.filterMap f).length = l.length → ∀ x ∈ l, (f x).isSome = true
  | [], _, x, hx => by cases hx
  | a :: l, h, x, hx => by
    cases e : f a with
    | none =>
      rw [List.filterMap_cons, e] at h
      have := List.length_filterMap_le f l
      simp only [List.length_cons] at h
      omega
    | some b =>
      rw [List.filterMap_cons, e] at h
      simp only [List.length_cons] at h
      rcases List.mem_cons.mp hx with rfl | hx
      · rw [e]; rfl
      · exact filterMap_all (by omega) x hx
theorem noSt (x : XS S C sc fb W X) {t e : Expr} (h : swN sc t e = true) : swappedStores [t] e X.env = pure none := by
  unfold swN at h
  split at h
  · rename_i ts _ _ vs _ _
    unfold swappedStores
    simp only [blk_fun x]
    simp only [Bool.or_eq_true, Bool.not_eq_true'] at h
    by_cases c1 : (!(ts.length == 2 || ts.length == 3) || vs.length != ts.length || ScopeKind.function != ScopeKind.function) = true
    · rw [if_pos c1]
    rw [if_neg c1]
    split
    · rfl
    split
    · rfl
    rename_i c3
    split
    · rfl
    rename_i c4
    exfalso
    rcases h with ((h | h) | h) | h
    · exact c1 (by rw [h]; rfl)
    · apply c1
      have : (vs.length != ts.length) = true := by rw [bne, h]; rfl
      rw [this]; simp
    · obtain ⟨y, hy, hy2⟩ := List.any_eq_true.mp h
      simp only [Bool.or_eq_true, bne_iff_ne, ne_eq, not_or, Decidable.not_not] at c3
      have hs := filterMap_all c3.1 y hy
      cases y with
      | Name id p =>
        simp only [Bool.not_eq_true'] at hy2
        have hk : X.env.kindOf id ≠ some .local := fun z => by
          have z : X.env.scope.names.lookup id = some .local := z
          rw [x.ok.sc] at z
          unfold isLoc at hy2
          rw [z] at hy2
          cases hy2
        simp [hk] at hs
      | _ => simp at hs
    · exact c4 h
  · cases h
  · rename_i h1 h2
    unfold swappedStores
    cases t <;> first | rfl | skip
    · exact (h1 _ _ rfl).elim
    · cases e <;> first | rfl | skip
      exact (h2 _ _ _ _ _ _ rfl rfl).elim
/-! ### stores -/
theorem ss_asg (x : XS S C sc fb W X) {i : Nat} {e : Ex} {n : Str} {v : Expr} {p pos : Pos} (hi : C.N[i]? = some n) (hl : loc sc fb n = true) (he : SE S W X e v) (hc : noComp v = true) : SS S W X (.asg i e) (.Assign [.Name n p] v pos) := by
  obtain ⟨l1, l2⟩ := loc_of x.ok hl
  refine PS.imp (ps_set x.ok.nd (by rw [x.ok.N]; exact hi) l1 he (noSw hc) l2) fun D σ H h => ?_
  obtain ⟨w, sl, mu, hH, F, P⟩ := h
  refine tS.bndE hH F P fun q u sl1 mu1 w1 e1 F1 rv P1 => ?_
  exact P1.now (F1.set i rv)
theorem ss_ast (x : XS S C sc fb W X) {tg : Tg} {e : Ex} {t v : Expr} {pos : Pos} (hs : notStar t = true) (hg : ckG C.N sc fb tg t = true) (he : SE S W X e v) (hc : noComp v = true) (ht : swN sc t v = true) : SS S W X (.ast tg e) (.Assign [t] v pos) := by
  refine PS.imp (ps_asg he (s_tg x.ok tg t hg) (noSw hc) (noSt x ht) (asgOne hs)) fun D σ H h => ?_
  obtain ⟨w, sl, mu, hH, F, P⟩ := h
  refine tS.bndE hH F P fun q u sl1 mu1 w1 e1 F1 rv P1 => ?_
  obtain ⟨s', ha, P2⟩ := P1.lift
  exact ⟨w1, sl1, mu1, q, s', rfl, F1, rv, ha, fun σ' F' _ => P2.now F'⟩
theorem ss_cell (x : XS S C sc fb W X) {i : Nat} {es : Exs} {n : Str} {vs : List Expr} {p p2 pos : Pos} (hi : C.N[i]? = some n) (hl : loc sc fb n = true) (ha : SA S W X es vs) (hk : ckEs C sc fb es vs = true) (hz : vs.length ≤ 1000) : SS S W X (.cell i es) (.Assign [.Name n p] (.List vs p2) pos) := by
  obtain ⟨l1, l2⟩ := loc_of x.ok hl
  refine PS.imp (ps_set x.ok.nd (by rw [x.ok.N]; exact hi) l1 (pe_lst ha) rfl l2) fun D σ H h => ?_
  obtain ⟨w, sl, mu, hH, F, P⟩ := h
  have P : Psf S.T S.C W w ((evs S.G S.cf es sl mu).bnd fun l s m => .ok .nx (setS s i (.ref m.length)) (m ++ [.lst l])) D := P
  refine ⟨w, sl, mu, hH, F, (P.bndE F.wok σ).mono_ok fun l s m w1 e e1 F1 P1 us ru => ?_⟩
  have hlen := evs_len es sl mu hk e
  refine ⟨by rw [← ru.len, hlen, sizeLine_eq]; omega, fun q hq => ?_⟩
  refine P1.at (newC_ext hq) ((F1.newC hq ru).set i ?_)
  simp only [RepV]
  exact ⟨q, rfl, by show (w1.m ++ [q])[m.length]? = _; rw [← F1.cel.mlen]; simp⟩
theorem ss_own (x : XS S C sc fb W X) {i : Nat} {es : Exs} {n : Str} {vs : List Expr} {p p2 pos : Pos} (hi : C.N[i]? = some n) (hl : loc sc fb n = true) (ha : SA S W X es vs) (hk : ckEs C sc fb es vs = true) (hz : vs.length ≤ 1000) : SS S W X (.own i es) (.Assign [.Name n p] (.List vs p2) pos) := by
  obtain ⟨l1, l2⟩ := loc_of x.ok hl
  refine PS.imp (ps_set x.ok.nd (by rw [x.ok.N]; exact hi) l1 (pe_lst ha) rfl l2) fun D σ H h => ?_
  obtain ⟨w, sl, mu, hH, F, P⟩ := h
  have P : Psf S.T S.C W w ((evs S.G S.cf es sl mu).bnd fun l s m => .ok .nx (s.set i (.ow (.lst l))) m) D := P
  refine ⟨w, sl, mu, hH, F, (P.bndE F.wok σ).mono_ok fun l s m w1 e e1 F1 P1 us ru => ?_⟩
  have hlen := evs_len es sl mu hk e
  exact ⟨by rw [← ru.len, hlen, sizeLine_eq]; omega, fun q hq => P1.at (new_ext hq) (F1.newO hq ru)⟩
theorem par_sw (x : XS S C sc fb W X) {n n' : Str} {p p' pt pt2 : Pos} {kt k2} {u v : Expr} (h1 : isLoc sc n = true) (h2 : isLoc sc n' = true) (hl : (p.line == p'.line) = true) (hn : (n == n') = false) (s1 : notStar u = true) (s2 : notStar v = true) (f : ([u, v].all (foldedForSure 8)) = false) (c : ([u, v].all (constantsAlone 8)) = false) :
    swappedStores [.Tuple [.Name n p, .Name n' p'] kt pt] (.Tuple [u, v] k2 pt2) X.env = pure (some [n, n']) := by
  have k1 : X.env.kindOf n = some .local := isLoc_of x.ok h1
  have k2' : X.env.kindOf n' = some .local := isLoc_of x.ok h2
  have hs : ([u, v].any fun | .Starred .. => true | _ => false) = false := by
    cases u <;> first | (simp [notStar] at s1; done) | skip
    all_goals (cases v <;> first | (simp [notStar] at s2; done) | rfl)
  have hl' : p'.line = p.line := (eq_of_beq hl).symm
  have hne : n ≠ n' := fun e => by rw [e] at hn; simp at hn
  have hnm : ([Expr.Name n p, Expr.Name n' p'].filterMap fun t => match t with | .Name id pos => if X.env.kindOf id == some .local && pos.line == p.line then some id else none | _ => none) = [n, n'] := by
    simp [k1, k2', hl']
  have hed : ([n, n'] : List Str).eraseDups = [n, n'] := by simp [List.eraseDups_cons, hn, hne, Ne.symm hne]
  unfold swappedStores
  simp only [blk_fun x]
  show (do
    if !((2 : Nat) == 2 || (2 : Nat) == 3) || (2 : Nat) != 2 || ScopeKind.function != .function then return none
    if [u, v].any fun | .Starred .. => true | _ => false then return none
    let names := [Expr.Name n p, Expr.Name n' p'].filterMap fun t => match t with | .Name id pos => if X.env.kindOf id == some .local && pos.line == p.line then some id else none | _ => none
    if names.length != 2 || names.eraseDups.length != names.length then return none
    if [u, v].all (foldedForSure 8) then return none
    if [u, v].all (constantsAlone 8) then unsupported "assign.tuple-of-constant-expressions:order-of-the-stores"
    return some names : Sem (Option (List Str))) = _
  rw [hnm, hs, f, c]
  simp only [hed]
  rfl
theorem ss_par (x : XS S C sc fb W X) (hc : C.hot = false) {i j : Nat} {a b : Ex} {n n' : Str} {p p' pt pt2 pos : Pos} {kt k2} {u v : Expr} (hi : C.N[i]? = some n) (hj : C.N[j]? = some n') (h1 : isLoc sc n = true) (h2 : isLoc sc n' = true) (hl : (p.line == p'.line) = true) (hn : (n == n') = false) (s1 : notStar u = true) (s2 : notStar v = true) (f : ([u, v].all (foldedForSure 8)) = false) (c : ([u, v].all (constantsAlone 8)) = false)
    (ha : SE S W X a u) (hb : SE S W X b v) : SS S W X (.par i j a b) (.Assign [.Tuple [.Name n p, .Name n' p'] kt pt] (.Tuple [u, v] k2 pt2) pos) := by
  have hne : n ≠ n' := fun e => by rw [e] at hn; simp at hn
  have hij : i ≠ j := fun e => by rw [e, hj] at hi; cases hi; exact hne rfl
  refine PS.imp (ps_par (x.ok.calm hc) x.ok.nd (by rw [x.ok.N]; exact hi) (by rw [x.ok.N]; exact hj) hij (isLoc_of x.ok h1) (isLoc_of x.ok h2) (pa_cons ha (pa_cons hb pa_nil (star_cons s2)) (star_cons s1)) (par_sw x h1 h2 hl hn s1 s2 f c) rfl) fun D σ H h => ?_
  obtain ⟨w, sl, mu, hH, F, P⟩ := h
  simp only [tPar, tCons]
  refine tS.bndE hH F P fun q y sl1 mu1 w1 e1 F1 rv P1 => ?_
  refine tS.bndE rfl F1 P1 fun q2 y2 sl2 mu2 w2 e2 F2 rv2 P2 => ?_
  exact ⟨y, y2, rfl, P2.now ((F2.set i (RepV.ext F1.wok e2 _ _ rv)).set j rv2)⟩
theorem ip_aug (hK : S.T.K = X.K) (o : O2) : PIp X (opE o) (rP2 S.T (augP o)) := by
  intro pins s σ H x y v u Q I rx ry h
  obtain ⟨w, σ', sl, mu, p, q, z, rfl, F, rp, rq, e, h⟩ := h
  unfold augP at e
  split at e
  · cases e
    simp only [RepV] at rp rq
    subst rp rq
    exact ip_add pins s σ w.H _ _ v u Q I rx ry ⟨_, _, rfl, rfl, P2.here F h (by simp only [RepV])⟩
  · cases e
    simp only [RepV] at rp rq
    subst rp rq
    exact ip_sub pins s σ w.H _ _ v u Q I rx ry ⟨_, _, rfl, rfl, P2.here F h (by simp only [RepV])⟩
  · split at e
    · rename_i hs
      cases e
      simp only [RepV] at rp rq
      subst rp rq
      obtain ⟨t, rfl⟩ := rx
      obtain ⟨t', rfl⟩ := ry
      rw [Bool.or_eq_true, small_iff, small_iff] at hs
      exact PySem.AutoIntOps.imul_0 ⟨.int _, w.H, I.tok _, ⟨_, rfl⟩, P2.here F h (by simp only [RepV])⟩ (CMul.ok hs)
    · cases e
  · split at e
    · rename_i hs
      cases e
      simp only [RepV] at rp rq
      obtain ⟨rfl, z1⟩ := rp
      obtain ⟨rfl, z2⟩ := rq
      obtain ⟨t, rfl⟩ := rx
      obtain ⟨t', rfl⟩ := ry
      refine PySem.SB.iadd (fun t2 k => ?_) (by rw [str_len, str_len, sizeLine_eq]; exact hs)
      refine ⟨.str (⟨_⟩ ++ ⟨_⟩), w.H, I.tok _, ⟨_, rfl⟩, ?_⟩
      rw [str_append]
      exact P2.here F h (by simp only [RepV]; exact ⟨trivial, by rw [List.length_append]; exact hs⟩)
    · cases e
  · cases e
theorem par3_sw (x : XS S C sc fb W X) {n n' m : Str} {p p' p3 pt pt2 : Pos} {kt k2} {u v y : Expr} (h1 : isLoc sc n = true) (h2 : isLoc sc n' = true) (h3 : isLoc sc m = true) (hl : (p.line == p'.line) = true) (hl3 : (p.line == p3.line) = true) (hn : (n == n') = false) (hn2 : (n == m) = false) (hn3 : (n' == m) = false)
    (s1 : notStar u = true) (s2 : notStar v = true) (s3 : notStar y = true) (f : ([u, v, y].all (foldedForSure 8)) = false) (c : ([u, v, y].all (constantsAlone 8)) = false) :
    swappedStores [.Tuple [.Name n p, .Name n' p', .Name m p3] kt pt] (.Tuple [u, v, y] k2 pt2) X.env = pure (some [n, n', m]) := by
  have k1 : X.env.kindOf n = some .local := isLoc_of x.ok h1
  have k2' : X.env.kindOf n' = some .local := isLoc_of x.ok h2
  have k3 : X.env.kindOf m = some .local := isLoc_of x.ok h3
  have hs0 : ∀ q : Expr → Bool, (∀ e, notStar e = true → q e = false) → [u, v, y].any q = false := fun q hq => by simp [hq u s1, hq v s2, hq y s3]
  have hs := hs0 (fun | .Starred .. => true | _ => false) fun e h => by cases e <;> first | rfl | (simp [notStar] at h)
  have hl' : p'.line = p.line := (eq_of_beq hl).symm
  have hl3' : p3.line = p.line := (eq_of_beq hl3).symm
  have hne : n ≠ n' := fun e => by rw [e] at hn; simp at hn
  have hne2 : n ≠ m := fun e => by rw [e] at hn2; simp at hn2
  have hne3 : n' ≠ m := fun e => by rw [e] at hn3; simp at hn3
  have hnm : ([Expr.Name n p, Expr.Name n' p', Expr.Name m p3].filterMap fun t => match t with | .Name id pos => if X.env.kindOf id == some .local && pos.line == p.line then some id else none | _ => none) = [n, n', m] := by
    simp [k1, k2', k3, hl', hl3']
  have hed : ([n, n', m] : List Str).eraseDups = [n, n', m] := by simp [List.eraseDups_cons, hne, hne2, hne3, Ne.symm hne, Ne.symm hne2, Ne.symm hne3]
  unfold swappedStores
  simp only [blk_fun x]
  show (do
    if !((3 : Nat) == 2 || (3 : Nat) == 3) || (3 : Nat) != 3 || ScopeKind.function != .function then return none
    if [u, v, y].any fun | .Starred .. => true | _ => false then return none
    let names := [Expr.Name n p, Expr.Name n' p', Expr.Name m p3].filterMap fun t => match t with | .Name id pos => if X.env.kindOf id == some .local && pos.line == p.line then some id else none | _ => none
    if names.length != 3 || names.eraseDups.length != names.length then return none
    if [u, v, y].all (foldedForSure 8) then return none
    if [u, v, y].all (constantsAlone 8) then unsupported "assign.tuple-of-constant-expressions:order-of-the-stores"
    return some names : Sem (Option (List Str))) = _
  rw [hnm, hs, f, c]
  simp only [hed]
  rfl
theorem ss_par3 (x : XS S C sc fb W X) (hc : C.hot = false) {i j k : Nat} {a b d : Ex} {n n' m : Str} {p p' p3 pt pt2 pos : Pos} {kt k2} {u v y : Expr} (hi : C.N[i]? = some n) (hj : C.N[j]? = some n') (hk : C.N[k]? = some m) (h1 : isLoc sc n = true) (h2 : isLoc sc n' = true) (h3 : isLoc sc m = true) (hl : (p.line == p'.line) = true) (hl3 : (p.line == p3.line) = true) (hn : (n == n') = false) (hn2 : (n == m) = false) (hn3 : (n' == m) = false)
    (s1 : notStar u = true) (s2 : notStar v = true) (s3 : notStar y = true) (f : ([u, v, y].all (foldedForSure 8)) = false) (c : ([u, v, y].all (constantsAlone 8)) = false)
    (ha : SE S W X a u) (hb : SE S W X b v) (hd : SE S W X d y) : SS S W X (.par3 i j k a b d) (.Assign [.Tuple [.Name n p, .Name n' p', .Name m p3] kt pt] (.Tuple [u, v, y] k2 pt2) pos) := by
  have hne : n ≠ n' := fun e => by rw [e] at hn; simp at hn
  have hne2 : n ≠ m := fun e => by rw [e] at hn2; simp at hn2
  have hne3 : n' ≠ m := fun e => by rw [e] at hn3; simp at hn3
  have hij : i ≠ j := fun e => by rw [e, hj] at hi; cases hi; exact hne rfl
  have hik : i ≠ k := fun e => by rw [e, hk] at hi; cases hi; exact hne2 rfl
  have hjk : j ≠ k := fun e => by rw [e, hk] at hj; cases hj; exact hne3 rfl
  refine PS.imp (ps_par3 (x.ok.calm hc) x.ok.nd (by rw [x.ok.N]; exact hi) (by rw [x.ok.N]; exact hj) (by rw [x.ok.N]; exact hk) hij hik hjk (isLoc_of x.ok h1) (isLoc_of x.ok h2) (isLoc_of x.ok h3) (pa_cons ha (pa_cons hb (pa_cons hd pa_nil (star_cons s3)) (star_cons s2)) (star_cons s1)) (par3_sw x h1 h2 h3 hl hl3 hn hn2 hn3 s1 s2 s3 f c) rfl) fun D σ H h => ?_
  obtain ⟨w, sl, mu, hH, F, P⟩ := h
  simp only [tPar3, tCons]
  refine tS.bndE hH F P fun q y sl1 mu1 w1 e1 F1 rv P1 => ?_
  refine tS.bndE rfl F1 P1 fun q2 y2 sl2 mu2 w2 e2 F2 rv2 P2 => ?_
  refine tS.bndE rfl F2 P2 fun q3 y3 sl3 mu3 w3 e3 F3 rv3 P3 => ?_
  exact ⟨y, y2, y3, rfl, P3.now (((F3.set i (RepV.ext F1.wok (e2.trans F1.wok e3) _ _ rv)).set j (RepV.ext F2.wok e3 _ _ rv2)).set k rv3)⟩
theorem ss_aug (x : XS S C sc fb W X) {i : Nat} {o : O2} {e : Ex} {n : Str} {v : Expr} {p pos : Pos} (hi : C.N[i]? = some n) (hl : loc sc fb n = true) (he : SE S W X e v) : SS S W X (.aug i o e) (.AugAssign (.Name n p) (opE o) v pos) := by
  obtain ⟨l1, l2⟩ := loc_of x.ok hl
  refine PS.imp (ps_aug x.ok.nd (by rw [x.ok.N]; exact hi) l1 he (ip_aug x.ok.hK o) l2) fun D σ H h => ?_
  obtain ⟨w, sl, mu, rfl, F, P⟩ := h
  have P : Psf S.T S.C W w ((getS sl i mu).bnd fun x s m => (ev S.G S.cf e s m).bnd fun y s m => (lift (augP o x y) s m).bnd fun z s m => .ok .nx (setS s i z) m) D := P
  obtain ⟨q, u, sl', w', k1, ex, eH, F', rv, P'⟩ := getS_ok F (P.bndE F.wok σ)
  refine ⟨u, k1, ?_⟩
  rw [← eH]
  refine tS.bndE rfl F' P' fun q2 y2 sl2 mu2 w2 e2 F2 rv2 P2 => ?_
  obtain ⟨z, hz, P3⟩ := P2.lift
  exact ⟨w2, σ, sl2, mu2, q, q2, z, rfl, F2, RepV.ext F'.wok e2 _ _ rv, rv2, hz, fun w3 e3 F3 v3 r3 => P3.at e3 (F3.set i r3)⟩
theorem ixN_pIx {n : Nat} {i : Int} {j : Nat} (h : pIx n i = some j) : ixN n i = some j := by
  unfold pIx at h
  unfold ixN
  split at h
  · split at h
    · rename_i h1 h2
      cases h
      rw [if_pos h1, if_pos (by omega)]
    · cases h
  · split at h
    · rename_i h1 h2
      cases h
      rw [if_neg h1, if_pos (by omega)]
    · cases h
theorem ss_stc (x : XS S C sc fb W X) {a k v : Ex} {o i e : Expr} {p pos : Pos} (ha : SE S W X a o) (hk : SE S W X k i) (hs : notSlice i = true) (hv : SE S W X v e) (hc : noComp e = true) : SS S W X (.stc a k v) (.Assign [.Subscript o i p] e pos) := by
  have hsub : ∀ v, assign (.Subscript o i p) X.env v = (do
      let ov ← holding [v] (eval o X.env)
      let iv ← holding [v, ov] (eval i X.env)
      standAt p
      holding [v, ov, iv] (setItem ov iv v)
      release [v, ov, iv] []) := fun v => by cases i <;> first | rfl | (simp [notSlice] at hs)
  have hst : swappedStores [.Subscript o i p] e X.env = pure none := by cases e <;> rfl
  refine PS.imp (ps_asg hv (pg_sub ha hk set_list hsub) (by unfold swapsWithSole; exact noSw hc) hst rfl) fun D σ H h => ?_
  obtain ⟨w, sl, mu, hH, F, P⟩ := h
  refine tS.bndE hH F P fun q y sl1 mu1 w1 e1 F1 rv P1 => ?_
  refine tS.bndE rfl F1 P1 fun q2 y2 sl2 mu2 w2 e2 F2 rv2 P2 => ?_
  refine tS.bndE rfl F2 P2 fun q3 y3 sl3 mu3 w3 e3 F3 rv3 P3 => ?_
  cases q2 with
  | ref n =>
    cases q3 with
    | int j =>
      have r2 := RepV.ext F2.wok e3 _ _ rv2
      simp only [RepV] at r2 rv3
      obtain ⟨ad, rfl, hm⟩ := r2
      subst rv3
      have P3 : Psf S.T S.C W w3 (match mu3[n]? with
        | some (.lst l) => (match pIx l.length j with
          | some j => .ok .nx sl3 (mu3.set n (.lst (l.set j q)))
          | none => .stk)
        | _ => .stk) D := P3
      split at P3
      · rename_i l hl
        split at P3
        · rename_i jj hj
          obtain ⟨⟨xs, k1, k2⟩, hw⟩ := F3.cel.cl n _ ad hl hm
          have hix := ixN_pIx hj
          rw [k2.len] at hix
          exact ⟨ad, xs, j, jj, rfl, rfl, k1, hix, P3.at (wrt_ext hw) (F3.wrtC hm (Reps.set (RepV.ext F1.wok (e2.trans F1.wok e3) _ _ rv) jj k2))⟩
        · exact P3.elim
      · exact P3.elim
    | _ => exact P3.elim
  | _ => exact P3.elim
theorem ss_app (x : XS S C sc fb W X) {i : Nat} {e : Ex} {n : Str} {v : Expr} {p ap cp pos : Pos} (hi : C.N[i]? = some n) (hv : vis sc n = true) (ho : okNm n = true) (he : SE S W X e v) (hs : notStar v = true) (hline : (ap.endLine == cp.line) = true) :
    SS S W X (.app i e) (.Expr (.Call (.Attribute (.Name n p) "append" ap) [v] [] cp) pos) := by
  obtain ⟨h1, h2, _⟩ := okNm_of ho
  have hst : ∀ {y : Expr}, y ∈ [v] → notStar y = true := fun {y} hy => by rw [List.mem_singleton.mp hy]; exact hs
  refine PS.imp (ps_expr (pe_bm PySem.F.plainAttrs_list PySem.F.slot_list_append PySem.F.type_list_append (r := rAppend) mt_append (pe_var (by rw [x.ok.N]; exact hi) (vis_of x.ok hv) h1 h2) (pa_cons he pa_nil (star_cons hs)) rfl (by rw [back_all fun y hy => hst hy]; rfl) hline (star_cons hs) rfl) rfl) fun D σ H h => ?_
  obtain ⟨w, sl, mu, rfl, F, P⟩ := h
  have P : Psf S.T S.C W w (match sl[i]? with
    | some (.ow (.lst _)) => (ev S.G S.cf e sl mu).bnd fun x s m => (match s[i]? with
      | some (.ow (.lst l)) => if Nat.blt l.length SZ then .ok .nx (s.set i (.ow (.lst (l ++ [x])))) m else .stk
      | _ => .stk)
    | _ => .stk) D := P
  split at P
  · rename_i l0 h0
    obtain ⟨a, g1, ⟨xs, g2, g3⟩, g4, g5⟩ := F.ow i _ h0
    refine ⟨.ref a, g1, .inl ⟨rfl, xs, SqL.of g2⟩, ?_⟩
    refine tS.bndE rfl F P fun q y sl1 mu1 w1 e1 F1 rv P1 => ?_
    split at P1
    · rename_i l hl
      split at P1
      · rename_i hz
        obtain ⟨a', k1, ⟨ys, k2, k3⟩, k4, k5⟩ := F1.ow i _ hl
        rw [g1] at k1; cases k1
        refine ⟨a, ys, y, rfl, rfl, k2, ?_, P1.at (wrt_ext k4) (F1.wrtO hl g1 (k3.append (by simp only [Reps]; exact ⟨y, [], rfl, rv, rfl⟩)))⟩
        rw [← k3.len, sizeLine_eq]
        exact Nat.blt_eq.mp hz
      · exact P1.elim
    · exact P1.elim
  · exact P.elim
end
end RA

/-! Soundness: control flow. -/
namespace RA
open PySem L2

theorem Pss.ext {α : Type} {T : Tb} {Cl : Nat → Value} {W : WX} {w w' : Wd} {r : Res α} {P : α → List Sl → List PV → L2.St → Wd → Prop} (ok : WOk w) (e : Ext w w') (h : Pss T Cl W w r P) : Pss T Cl W w' r P := by
  cases r with
  | stk => exact h
  | ok a sl mu => exact fun σ w2 e2 F => h σ w2 (e.trans ok e2) F
  | exc x sl mu => exact fun cls d σ w2 e2 F rx => h cls d σ w2 (e.trans ok e2) F rx
section
variable {S : Gs} {C : Ck} {sc : Scope} {fb : Str → Bool} {X : Cx} {W : WX}
theorem ss_asgL (x : XS S C sc fb W X) (hc : C.hot = false) {i : Nat} {own : List Nat} {elt : Ex} {tg : Tg} {it : It} {ifs : Tts} {n : Str} {p : Pos} {y tge iter : Expr} {fs : List Expr} {scope : Scope} {pos spos : Pos} (hi' : C.N[i]? = some n) (hsame : lcSame sc n p (.ListComp y [⟨tge, iter, fs, 0⟩] scope pos) = true)
    (hown : (ownOf C.N own).map (·.2) = own) (hb : blkC C.N sc scope (ownOf C.N own) = true) (hsl : ∀ i ∈ tg.sl, i ∈ own) (hi : SI S W X it tge iter) (hn : notSet iter = true)
    (hg : ∀ (s : Shared) (H : Hp) (A : Addr) (cl : List (Str × Addr)) (fp : List Addr), PG (X.blk s H scope (compEnvC scope cl A X.env) fp) tge (tG S.T tg))
    (ht : ∀ (s : Shared) (H : Hp) (A : Addr) (cl : List (Str × Addr)) (fp : List Addr), PTs (X.blk s H scope (compEnvC scope cl A X.env) fp) fs (tT S.T S.C W0 (evall S.G S.cf ifs)))
    (he : ∀ (s : Shared) (H : Hp) (A : Addr) (cl : List (Str × Addr)) (fp : List Addr), SE S W0 (X.blk s H scope (compEnvC scope cl A X.env) fp) elt y) :
    SS S W X (.asg i (.lc own elt tg it ifs)) (.Assign [.Name n p] (.ListComp y [⟨tge, iter, fs, 0⟩] scope pos) spos) := by
  simp only [lcSame, Bool.and_eq_true, Bool.not_eq_true'] at hsame
  obtain ⟨⟨h1, h2⟩, h3⟩ := hsame
  have hloc : X.env.scope.names.lookup n = some .local := isLoc_of x.ok (by unfold isLoc; exact h1)
  refine PS.imp (ps_setLc (x.ok.calm hc) x.ok.nd (by rw [x.ok.N]; exact hi') hloc (sw_true (by rw [x.ok.sc]; exact x.kd) hloc h2 h3) hi (by rw [x.ok.N, x.ok.sc]; exact blkOk_by hb) hg ht he (noFold hn)) fun D σ H h => ?_
  obtain ⟨w, sl, mu, hH, F, P⟩ := h
  rw [hown]
  show tLc _ _ _ _ own σ H _
  refine lc_wish hsl (tS.bndE hH F P fun q u sl1 mu1 w1 e1 F1 rv P1 => ?_)
  exact P1.now (F1.set i rv)
theorem ss_ift {t : Tt} {a b : Sms} {c : Expr} {u v : List Stmt} {pos : Pos} (ht : ST S W X t c) (ha : SSs S W X a u) (hb : SSs S W X b v) : SS S W X (.ift t a b) (.If c u v pos) := by
  refine PS.imp (ps_if ht ha hb) fun D σ H h => ?_
  obtain ⟨w, sl, mu, hH, F, P⟩ := h
  refine tS.bndT hH F P fun k sl1 mu1 w1 e1 F1 P1 => ?_
  cases k with
  | true => exact ⟨w1, sl1, mu1, rfl, F1, P1⟩
  | false => exact ⟨w1, sl1, mu1, rfl, F1, P1⟩
theorem ss_whl (x : XS S C sc fb W X) {t : Tt} {b : Sms} {c : Expr} {v : List Stmt} {pos : Pos} (ht : ST S W X t c) (hb : SSs S W X b v) : SS S W X (.whl t b) (.While c v [] pos) := by
  refine PS.imp (ps_while x.hp ht hb) fun D σ H h => ?_
  obtain ⟨w, sl, mu, hH, F, P⟩ := h
  have P : Psf S.T S.C W w (whlN (fun s m => evt S.G S.cf t s m) (fun s m => xss S.G S.cf b s m) WF sl mu) D := P
  refine ⟨fun m σ H => ∃ w sl mu, w.H = H ∧ FRel S.T w σ sl mu ∧ Psf S.T S.C W w (whlN (fun s m => evt S.G S.cf t s m) (fun s m => xss S.G S.cf b s m) m sl mu) D, ⟨WF, w, sl, mu, hH, F, P⟩, ?_⟩
  rintro m σ H ⟨w, sl, mu, hH, F, P⟩
  cases m with
  | zero => exact P.elim
  | succ m =>
    unfold whlN at P
    refine tS.bndT hH F P fun k sl1 mu1 w1 e1 F1 P1 => ?_
    cases k with
    | false => exact P1.now F1
    | true =>
      rw [if_pos rfl] at P1 ⊢
      refine ⟨fun σ' H' => ∃ w sl mu, w.H = H' ∧ FRel S.T w σ' sl mu ∧ Psf S.T S.C W w (whlN (fun s m => evt S.G S.cf t s m) (fun s m => xss S.G S.cf b s m) m sl mu) D, fun σ' H' h => ⟨m, Nat.lt_succ_self _, h⟩, w1, sl1, mu1, rfl, F1, ?_⟩
      refine (P1.bnd F1.wok).mono fun f sl2 mu2 σ2 w2 e2 F2 P2 => ?_
      cases f with
      | nx => exact ⟨w2, sl2, mu2, rfl, F2, P2⟩
      | ct => exact ⟨w2, sl2, mu2, rfl, F2, P2⟩
      | bk => exact P2.now F2
      | rt p => exact P2.now F2
theorem ss_forA {tg : Tg} {it : It} {b : Sms} {tge iter : Expr} {v : List Stmt} {pos : Pos} (hp : PS X (.For tge iter v [] pos) (tFor (tI S.T S.C W (sI S it)) (tG S.T tg) (tS S.T S.C W (xss S.G S.cf b)))) : SS S W X (.for tg it b) (.For tge iter v [] pos) := by
  refine PS.imp hp fun D σ H h => ?_
  obtain ⟨w0, sl0, mu0, hH, F0, P⟩ := h
  have P : Psf S.T S.C W w0 ((evi S.G S.cf it sl0 mu0).bnd fun l s m => forL (fun x s m => (lift (asg tg x s) s m).bnd fun s' _ m => xss S.G S.cf b s' m) l s m) D := P
  refine ⟨w0, sl0, mu0, hH, F0, (P.bndE F0.wok σ).mono fun ps sl1 mu1 w1 e1 F1 P1 J hJ => ?_⟩
  generalize hgb : (fun (x : PV) (s : List Sl) (m : List PV) => (lift (asg tg x s) s m).bnd fun s' _ m => xss S.G S.cf b s' m) = g at P1
  refine ⟨fun i m σ H => m = ps.length - i ∧ i ≤ ps.length ∧ ∃ w sl mu, w.H = H ∧ Ext w1 w ∧ FRel S.T w σ sl mu ∧ Psf S.T S.C W w (forL g (ps.drop i) sl mu) D, ⟨ps.length, by simp, Nat.zero_le _, w1, sl1, mu1, rfl, Ext.refl w1, F1, by simpa using P1⟩, ?_⟩
  rintro i m σ H ⟨rfl, hi, w, sl, mu, rfl, ex, F, P⟩
  by_cases hlt : i < ps.length
  case neg =>
    have e : i = ps.length := by omega
    subst e
    rw [List.drop_length] at P
    exact .inl ⟨hJ.stop w ex, P.now F⟩
  have hp : ps[i]? = some ps[i] := List.getElem?_eq_getElem hlt
  refine .inr ⟨hJ.go i ps[i] w ex hp, fun σ H => ∃ w sl mu, w.H = H ∧ Ext w1 w ∧ FRel S.T w σ sl mu ∧ Psf S.T S.C W w (forL g (ps.drop (i + 1)) sl mu) D, fun σ' H' h => ⟨ps.length - (i + 1), by omega, rfl, hlt, h⟩, fun y H' hy => ?_⟩
  obtain ⟨w2, rfl, hw2, rx⟩ := hJ.yld i ps[i] w y H' ex F.wok hp hy
  have step : Ext w w2 ∧ FRel S.T w2 σ sl mu := by
    rcases hw2 with rfl | ⟨a, o, ha, rfl⟩
    · exact ⟨Ext.refl _, F⟩
    · exact ⟨Wd.put_ext ha, F.put ha⟩
  obtain ⟨e2, F2⟩ := step
  rw [List.drop_eq_getElem_cons hlt] at P
  unfold forL at P
  rw [← hgb] at P
  simp only at P
  rw [Res.bnd_assoc] at P
  obtain ⟨s', ha, P⟩ := P.lift
  rw [hgb] at P
  have P := P.ext F.wok e2
  refine ⟨w2, sl, mu, ps[i], s', rfl, F2, rx, ha, fun σ2 Fσ _ => ⟨w2, s', mu, rfl, Fσ, ?_⟩⟩
  refine (P.bnd F2.wok).mono fun f sl3 mu3 σ3 w3 e3 F3 P3 => ?_
  cases f with
  | nx => exact ⟨w3, sl3, mu3, rfl, ex.trans F1.wok (e2.trans F.wok e3), F3, P3⟩
  | ct => exact ⟨w3, sl3, mu3, rfl, ex.trans F1.wok (e2.trans F.wok e3), F3, P3⟩
  | bk => exact P3.now F3
  | rt p => exact P3.now F3
theorem ss_for (x : XS S C sc fb W X) (hc : C.hot = false) {tg : Tg} {it : It} {b : Sms} {tge iter : Expr} {v : List Stmt} {pos : Pos} (hg : ckG C.N sc fb tg tge = true) (hi : SI S W X it tge iter) (hn : notSet iter = true) (hb : SSs S W X b v) : SS S W X (.for tg it b) (.For tge iter v [] pos) :=
  ss_forA (ps_for x.hp (x.ok.calm hc) hi (s_tg x.ok tg tge hg) hb (noFold hn))
theorem ss_forH (x : XS S C sc fb W X) (hc : C.hot = true) {tg : Tg} {it : It} {b : Sms} {tge iter : Expr} {v : List Stmt} {pos : Pos} (hg : ckG C.N sc fb tg tge = true) (hi : SIH S W X it tge iter) (hn : notSet iter = true) (hb : SSs S W X b v) : SS S W X (.for tg it b) (.For tge iter v [] pos) :=
  ss_forA (L2H.ps_forH x.hp (x.ok.hotc hc) hi (s_tg x.ok tg tge hg) hb (noFold hn))
theorem ss_ret {e : Ex} {v : Expr} {pos : Pos} (he : SE S W X e v) : SS S W X (.ret e) (.Return (some v) pos) := by
  refine PS.imp (ps_ret he) fun D σ H h => ?_
  obtain ⟨w, sl, mu, hH, F, P⟩ := h
  exact tS.bndE hH F P fun q u sl1 mu1 w1 e1 F1 rv P1 => P1.now F1 u rv
theorem ss_exp {e : Ex} {v : Expr} {pos : Pos} (he : SE S W X e v) (hc : noComp v = true) : SS S W X (.exp e) (.Expr v pos) := by
  refine PS.imp (ps_expr he (noSw hc)) fun D σ H h => ?_
  obtain ⟨w, sl, mu, hH, F, P⟩ := h
  exact tS.bndE hH F P fun q u sl1 mu1 w1 e1 F1 rv P1 => P1.now F1
theorem ss_pas {pos : Pos} : SS S W X .pas (.Pass pos) := PS.imp ps_pass fun D σ H h => by
  obtain ⟨w, sl, mu, rfl, F, P⟩ := h
  exact P.now F
theorem ss_brk {pos : Pos} : SS S W X .brk (.Break pos) := PS.imp ps_break fun D σ H h => by
  obtain ⟨w, sl, mu, rfl, F, P⟩ := h
  exact P.now F
theorem ss_cnt {pos : Pos} : SS S W X .cnt (.Continue pos) := PS.imp ps_continue fun D σ H h => by
  obtain ⟨w, sl, mu, rfl, F, P⟩ := h
  exact P.now F
theorem sss_nil : SSs S W X .nil [] := PSs.imp pss_nil fun D σ H h => by
  obtain ⟨w, sl, mu, rfl, F, P⟩ := h
  exact P.now F
theorem sss_cons {s : Sm} {r : Sms} {st : Stmt} {sts : List Stmt} (h1 : SS S W X s st) (h2 : SSs S W X r sts) : SSs S W X (.cons s r) (st :: sts) := by
  refine PSs.imp (pss_cons h1 h2) fun D σ H h => ?_
  obtain ⟨w, sl, mu, hH, F, P⟩ := h
  refine ⟨w, sl, mu, hH, F, ?_⟩
  have P : Psf S.T S.C W w ((xs S.G S.cf s sl mu).bnd fun f s m => (match f with
    | .nx => xss S.G S.cf r s m
    | f => .ok f s m)) D := P
  refine (P.bnd F.wok).mono fun f sl2 mu2 σ2 w2 e2 F2 P2 => ?_
  cases f with
  | nx => exact ⟨w2, sl2, mu2, rfl, F2, P2⟩
  | ct => exact P2.now F2
  | bk => exact P2.now F2
  | rt p => exact P2.now F2

/-! ### match -/
theorem ckPat_ne {x : Str} {z : List Nat} : (z == x.cps.toList) = true ↔ (⟨z.toArray⟩ : Str) = x := by
  constructor
  · intro h
    obtain rfl := eq_of_beq h
    simp
  · rintro rfl
    simp
theorem pat_one (x0 : XOk S C sc fb X) {y : Str} {j p pos} {z : List Nat} {v : Value} {pins : List (Addr × Obj)} {σ : L2.St} {H : Hp} {s : Shared} (I : L2.Inv X pins σ H s) (r : RelV (.str ⟨z.toArray⟩) v) :
    wpAny (model X.prog X.w) X.A (matchPattern (.MatchValue (.Constant (.str y) j p) pos) X.env v) (fun q s1 => q = (if z == y.cps.toList then some [] else none) ∧ L2.Inv X pins σ H s1) X.xe s := by
  refine wpAny_matchPattern_Value (thn (pe_str.run pins s σ H (fun u H1 => u = .str y ∧ H1 = H) I ⟨rfl, rfl⟩) fun u s1 ⟨u', H1, I1, r1, e1, e2⟩ => ?_)
  subst e1 e2
  refine thn (op_eq pins s1 σ H1 _ _ v u (fun w H2 => w = .bl (z == y.cps.toList) ∧ H2 = H1) I1 r r1 ⟨rfl, ?_, rfl⟩) fun c s2 ⟨c', H2, I2, r2, e3, e4⟩ => ?_
  · congr 1
    rw [Bool.eq_iff_iff, ckPat_ne, decide_eq_true_eq]
    exact ⟨fun h => by cases h; rfl, fun h => by rw [h]⟩
  · subst e3 e4
    cases r2
    refine wpAny_truthy_bool ?_
    cases (z == y.cps.toList) <;> exact ⟨rfl, I2⟩
theorem first_all (x0 : XOk S C sc fb X) {z : List Nat} {v : Value} {pins : List (Addr × Obj)} {σ : L2.St} {H : Hp} (r : RelV (.str ⟨z.toArray⟩) v) : ∀ (ks : List (List Nat)) (ps : List Pattern) (s : Shared), ps.length = ks.length → ((ks.zip ps).all fun p => match p.2 with | .MatchValue (.Constant (.str y) _ _) _ => p.1 == y.cps.toList | _ => false) = true → L2.Inv X pins σ H s →
    wpAny (model X.prog X.w) X.A (matchFirst ps X.env v) (fun q s1 => q = (if ks.contains z then some [] else none) ∧ L2.Inv X pins σ H s1) X.xe s
  | [], [], s, _, _, I => wpAny_matchFirst_nil ⟨by simp, I⟩
  | [], _ :: _, s, h, _, _ => by simp at h
  | _ :: _, [], s, h, _, _ => by simp at h
  | k :: ks, p :: ps, s, hl, ha, I => by
    simp only [List.zip_cons_cons, List.all_cons, Bool.and_eq_true] at ha
    obtain ⟨h1, h2⟩ := ha
    split at h1
    · rename_i y _ _ _
      obtain rfl := eq_of_beq h1
      refine wpAny_matchFirst_cons (thn (pat_one x0 I r) fun q s1 ⟨e, I1⟩ => ?_)
      subst e
      by_cases hz : (z == y.cps.toList) = true
      · rw [if_pos hz]
        exact ⟨by rw [List.contains_cons, hz]; rfl, I1⟩
      · rw [if_neg hz]
        refine thn (first_all x0 r ks ps s1 (by simpa using hl) h2 I1) fun q s2 ⟨e, I2⟩ => ⟨?_, I2⟩
        rw [e, List.contains_cons]
        simp only [Bool.not_eq_true] at hz
        rw [hz, Bool.false_or]
    · cases h1
theorem pat_all (x0 : XOk S C sc fb X) {ks : List (List Nat)} {pt : Pattern} (h : ckPat ks pt = true) {z : List Nat} {v : Value} {pins : List (Addr × Obj)} {σ : L2.St} {H : Hp} {s : Shared} (I : L2.Inv X pins σ H s) (r : RelV (.str ⟨z.toArray⟩) v) :
    wpAny (model X.prog X.w) X.A (matchPattern pt X.env v) (fun q s1 => q = (if ks.contains z then some [] else none) ∧ L2.Inv X pins σ H s1) X.xe s := by
  unfold ckPat at h
  split at h
  · obtain rfl := eq_of_beq h
    refine thn (pat_one x0 I r) fun q s1 ⟨e, I1⟩ => ⟨?_, I1⟩
    rw [e]
    simp [List.contains_cons]
  · simp only [Bool.and_eq_true, Bool.not_eq_true', decide_eq_true_eq] at h
    obtain ⟨⟨h1, h2⟩, h3⟩ := h
    refine wpAny_matchPattern_Or (thn (first_all x0 r _ _ s h2 h3 I) fun q s1 ⟨e, I1⟩ => ?_)
    subst e
    split
    · rename_i e
      split at e
      · cases e
      · exact ⟨(if_neg (by assumption)).symm, I1⟩
    · rename_i bs e
      split at e
      · rename_i hc
        cases e
        rename_i ps _
        refine ⟨?_, I1⟩
        rw [if_pos hc]
        simp
      · cases e
  · cases h
/-- cases, on a text -/
def PMs (X : Cx) (ms : List MatchCase) (t : List Nat → TS) : Prop := ∀ (pins : List (Addr × Obj)) (s : Shared) (σ : L2.St) (H : Hp) (D : Ends) (z : List Nat) (v : Value) (first : Bool), L2.Inv X pins σ H s → RelV (.str ⟨z.toArray⟩) v → t z D σ H → wpAny (model X.prog X.w) X.A (matchCases ms X.env v first) (SP X pins D) X.xe s
def SMs (S : Gs) (W : WX) (X : Cx) (a : Mcs) (ms : List MatchCase) : Prop := PMs X ms fun z => tS S.T S.C W (xm S.G S.cf a z)
theorem sm_nil : SMs S W X .nil [] := by
  intro pins s σ H D z v first I r h
  obtain ⟨w, sl, mu, rfl, F, P⟩ := h
  exact wpAny_matchCases_nil ⟨σ, w.H, I, P.now F⟩
theorem sm_cons (x : XS S C sc fb W X) {ks : List (List Nat)} {b : Sms} {r : Mcs} {pt : Pattern} {body : List Stmt} {rest : List MatchCase} (hp : ckPat ks pt = true) (hb : SSs S W X b body) (hr : SMs S W X r rest) : SMs S W X (.cons ks b r) (⟨pt, none, body⟩ :: rest) := by
  intro pins s σ H D z v first I rv h
  obtain ⟨w, sl, mu, rfl, F, P⟩ := h
  have P : Psf S.T S.C W w (if ks.contains z then xss S.G S.cf b sl mu else xm S.G S.cf r z sl mu) D := P
  refine wpAny_matchCases_cons (thn (pat_all x.ok hp I rv) fun q s1 ⟨e, I1⟩ => ?_)
  subst e
  by_cases hz : ks.contains z = true
  · rw [if_pos hz] at P ⊢
    exact wpAny_assignInOrder_none (hb.run pins s1 σ w.H D I1 ⟨w, sl, mu, rfl, F, P⟩)
  · rw [if_neg hz] at P ⊢
    exact hr pins s1 σ w.H D z v false I1 rv ⟨w, sl, mu, rfl, F, P⟩
theorem ss_mat {e : Ex} {cs : Mcs} {v : Expr} {ms : List MatchCase} {pos : Pos} (he : SE S W X e v) (hc : SMs S W X cs ms) : SS S W X (.mat e cs) (.Match v ms pos) := by
  refine ⟨fun pins s σ H D I h => ?_⟩
  obtain ⟨w, sl, mu, hH, F, P⟩ := h
  refine wpAny_Match (thn (he.run pins s σ H (fun y H1 => ∃ z, y = .str ⟨z.toArray⟩ ∧ tS S.T S.C W (xm S.G S.cf cs z) D σ H1) I (tS.bndE hH F P fun q u sl1 mu1 w1 e1 F1 rv P1 => ?_)) fun u s1 ⟨y, H1, I1, r1, z, hz, q⟩ => ?_)
  · cases q with
    | str z =>
      simp only [RepV] at rv
      exact ⟨z, rv.1, w1, sl1, mu1, rfl, F1, P1⟩
    | _ => exact P1.elim
  · subst hz
    exact hc pins s1 σ H1 D z u true I1 r1 q
end


section
/-- what gets stuck is never asked -/
theorem ss_stuck {S : Gs} {W : WX} {X : Cx} {a : Sm} {st : Stmt} (h : ∀ sl mu, xs S.G S.cf a sl mu = .stk) : SS S W X a st := ⟨fun pins s σ H D I q => by
  obtain ⟨w, sl, mu, hH, F, P⟩ := q
  have P : Psf S.T S.C W w (xs S.G S.cf a sl mu) D := P
  rw [h sl mu] at P
  exact P.elim⟩
variable {S : Gs} {C : Ck} {sc : Scope} {fb : Str → Bool} {X : Cx} {W : WX}
theorem cxN {P : Program} {w : World} {outer : List Env} {H : Hp} {s : Shared} {e : Value} {s' : Shared} (h : L2N.CX P w outer H s (fun _ _ _ => False) e s') : False := by
  obtain ⟨_, _, _, _, _, _, _, _, _, _, _, _, h⟩ := h
  exact h
theorem XS.tr {pn : List (Addr × Obj)} {xe : Value → Shared → Prop} {W' : WX} (x : XS S C sc fb W X) (hc : C.hot = false) (tk : L2N.Takes (X.tr pn xe) W') (hp : PassesOwn (model X.prog X.w) X.A X.env xe) : XS S C sc fb W' (X.tr pn xe) where
  ok := ⟨x.ok.hK, x.ok.sc, x.ok.fb, x.ok.N, x.ok.nd, x.ok.calm, (fun h => by rw [hc] at h; cases h), x.ok.roomH, fun f a h q => (x.ok.fnsH f a h q).same, x.ok.room, x.ok.un, x.ok.glob, x.ok.fa, fun h f a q => (x.ok.fns h f a q).same, fun h f c n q => by
    obtain ⟨a, k1, k2, k3, k4⟩ := x.ok.mts h f c n q
    exact ⟨a, k1, k2, k3.same, k4⟩, x.ok.cls, x.ok.atr, x.ok.nom, fun c y ks q => (x.ok.xcs c y ks q).same, x.ok.exm, x.ok.xfl, x.ok.nx, x.ok.icl, x.ok.cold, (fun p hp => by
      rw [x.ok.cold hc] at hp
      cases hp), x.ok.blt⟩
  tk := tk
  hp := hp
  kd := x.kd
  stk := x.stk
  frm := x.frm
/-- the setting of a handler's suite -/
theorem RepX.at {T : Tb} {Cl : Nat → Value} {E : List (Nat × Addr × Nat × Addr)} {w : Wd} {e : PV} {cls : Value} {d : Option Addr} : RepX (T.at E) Cl w e cls d ↔ RepX T Cl w e cls d :=
  ⟨fun ⟨c, fs, d', vs, h1, h2, h3, h4, h5, h6, h7, h8⟩ => ⟨c, fs, d', vs, h1, h2, h3, h4, h5, h6, h7, (Reps.at fs vs).mp h8⟩, fun ⟨c, fs, d', vs, h1, h2, h3, h4, h5, h6, h7, h8⟩ => ⟨c, fs, d', vs, h1, h2, h3, h4, h5, h6, h7, (Reps.at fs vs).mpr h8⟩⟩
theorem spF_at {S : Gs} {E : List (Nat × Addr × Nat × Addr)} {f : Nat} : spF { S with T := S.T.at E } f = spF S f := by
  funext vs H Q EE
  apply propext
  unfold spF
  constructor
  · rintro ⟨w, ps, mu, h1, h2, h3, h4, h5, h6⟩
    refine ⟨w, ps, mu, h1, h2, CRel.at.mp h3, h4, (Reps.at ps vs).mp h5, ?_⟩
    have h6 : (match S.cf f ps mu with
      | .stk => False
      | .ok p mu' => ∀ v w', Ext w w' → WOk w' → CRel (S.T.at E) w' mu' → RepV (S.T.at E) w' p v → Q v w'.H
      | .exc e mu' => ∀ cls d w', Ext w w' → WOk w' → CRel (S.T.at E) w' mu' → RepX (S.T.at E) S.C w' e cls d → EE cls d w'.H) := h6
    generalize S.cf f ps mu = r at h6 ⊢
    cases r with
    | stk => exact h6
    | ok p mu' => exact fun v w' a b c d => h6 v w' a b (CRel.at.mpr c) ((RepV.at p v).mpr d)
    | exc e mu' => exact fun cls d w' a b c q => h6 cls d w' a b (CRel.at.mpr c) (RepX.at.mpr q)
  · rintro ⟨w, ps, mu, h1, h2, h3, h4, h5, h6⟩
    refine ⟨w, ps, mu, h1, h2, CRel.at.mpr h3, h4, (Reps.at ps vs).mpr h5, ?_⟩
    show (match S.cf f ps mu with
      | .stk => False
      | .ok p mu' => ∀ v w', Ext w w' → WOk w' → CRel (S.T.at E) w' mu' → RepV (S.T.at E) w' p v → Q v w'.H
      | .exc e mu' => ∀ cls d w', Ext w w' → WOk w' → CRel (S.T.at E) w' mu' → RepX (S.T.at E) S.C w' e cls d → EE cls d w'.H)
    generalize S.cf f ps mu = r at h6 ⊢
    cases r with
    | stk => exact h6
    | ok p mu' => exact fun v w' a b c d => h6 v w' a b (CRel.at.mp c) ((RepV.at p v).mp d)
    | exc e mu' => exact fun cls d w' a b c q => h6 cls d w' a b (CRel.at.mp c) (RepX.at.mp q)
theorem XS.suite {a : Addr} {oe : Obj} {pn : List (Addr × Obj)} {E : List (Nat × Addr × Nat × Addr)} (x : XS S C sc fb W X) (hz : ∃ cls d, L2N.Zn cls d oe) (hd : ∃ vs, oe.data = .fields vs) (hE : ∀ p ∈ E, p.2.2.1 < C.xcn.length ∧ ∃ o, (p.2.1, o) ∈ (a, oe) :: pn ∧ L2N.Zn (S.C p.2.2.1) (some p.2.2.2) o ∧ ∃ vs, o.data = .fields vs) :
    XS { S with T := S.T.at E } { C with hot := true } sc fb W0 (X.suite a ((a, oe) :: pn)) where
  ok := {
    hK := x.ok.hK
    sc := x.ok.sc
    fb := x.ok.fb
    N := x.ok.N
    nd := x.ok.nd
    calm := fun h => Bool.noConfusion h
    hotc := fun _ => by
      obtain ⟨cls, d, z⟩ := hz
      obtain ⟨vs, e⟩ := hd
      exact ⟨(a, oe), ⟨rfl, vs, e, z.2.2 vs e⟩, List.mem_cons_self⟩
    roomH := ⟨x.ok.roomH.dp, x.ok.roomH.un⟩
    fnsH := fun f b hf q => by
      obtain ⟨fd, ps, l, k1, k2, k3, k4⟩ := (x.ok.fnsH f b hf q).ex
      exact ⟨fd, ps, l, k1, k2, k3, by rw [spF_at]; exact k4⟩
    room := fun h => Bool.noConfusion h
    un := x.ok.un
    glob := fun g y h => by
      obtain ⟨u, v, p, k1, k2, k3, k4⟩ := x.ok.glob g y h
      exact ⟨u, v, p, k1, k2, k3, fun w ok => (RepV.at p v).mpr (k4 w ok)⟩
    fa := x.ok.fa
    fns := fun h => Bool.noConfusion h
    mts := fun h => Bool.noConfusion h
    cls := x.ok.cls
    atr := x.ok.atr
    nom := x.ok.nom
    xcs := fun c y ks q => ⟨(x.ok.xcs c y ks q).ex⟩
    exm := x.ok.exm
    xfl := x.ok.xfl
    nx := x.ok.nx
    icl := x.ok.icl
    cold := fun h => Bool.noConfusion h
    pin := hE
    blt := x.ok.blt }
  tk := takesW0
  hp := PassesOwn.never
  kd := x.kd
  stk := fun h => Bool.noConfusion h
  frm := x.frm
theorem endsP.at {E : List (Nat × Addr × Nat × Addr)} {D : Ends} {f : Fl} {σ : L2.St} {w : Wd} (h : endsP S.T D f σ w) : endsP (S.T.at E) D f σ w := by
  cases f with
  | rt p => exact fun v rv => h v ((RepV.at p v).mp rv)
  | _ => exact h
theorem exc_is {c c' : Nat} {fs : List PV} {w : Wd} {cls : Value} {d : Option Addr} (rx : RepX S.T S.C w (.exc c' fs) cls d) : c' < S.T.nx ∧ cls = S.C c' ∧ ∃ d' vs, d = some d' ∧ w.H d' = some (.xd ((S.T.fld c').zip vs)) ∧ (S.T.fld c').length = vs.length ∧ ¬ w.mb d' ∧ Reps S.T w fs vs := by
  obtain ⟨c0, fs0, d', vs, e, r0, r1, r2, r3, r4, r5, r6⟩ := rx
  cases e
  exact ⟨r0, r1, d', vs, r2, r3, r4, r5, r6⟩
theorem Pss.noxat {E : List (Nat × Addr × Nat × Addr)} {w : Wd} {r : Res Fl} {Wa : WX} {D : Ends} {P : Fl → List Sl → List PV → L2.St → Wd → Prop} (h : ∀ f sl mu, r = .ok f sl mu → ∀ σ w', Ext w w' → FRel (S.T.at E) w' σ sl mu → endsP (S.T.at E) D f σ w') (hn : r ≠ .stk) (hx : ∀ e sl mu, r ≠ .exc e sl mu) : Psf (S.T.at E) S.C Wa w r D := by
  cases r with
  | stk => exact absurd rfl hn
  | exc e sl mu => exact absurd rfl (hx e sl mu)
  | ok f sl mu => exact h f sl mu rfl
theorem ss_rai (x : XS S C sc fb W X) (hc : C.hot = false) {c : Nat} {ks : List Bool} {as : Exs} {n : Str} {e : Expr} {es : List Expr} {p pos pos' : Pos} (hx : C.xcn[c]? = some (n, ks)) (hg : glb sc n = true) (ho : okNm n = true) (ha : SA S W X as (e :: es)) (hk : ckEs C sc fb as (e :: es) = true) (hl : (e :: es).length ≤ 900) :
    SS S W X (.rai c ks as) (.Raise (some (.Call (.Name n p) (e :: es) [] pos)) none pos') := by
  obtain ⟨h1, _, _⟩ := okNm_of ho
  have hs := notStar_all hk
  obtain ⟨Ca, fI, fd, ps, lv, klv, k1, k2, k3, k4, k5, k6, k7, _, _, _, k10, k11, _⟩ := (x.ok.xcs c n ks hx).ex
  have hr : Room (lv + 1) X.A := (x.ok.room hc).mono (by omega)
  refine PS.imp (L2N.ps_raise (x.ok.calm hc) x.tk (pmk_oexN k3 k4 k5 k6 hr k7 (fun _ _ _ _ z => cxN z) (glb_of x.ok hg) k2 ha h1 (star_cons (hs e List.mem_cons_self)) (back_any fun y hy => hs y (List.mem_cons_of_mem _ hy)))) fun D σ H h => ?_
  obtain ⟨w, sl, mu, hH, F, P⟩ := h
  refine tS.bndA hH F P fun l vs sl1 mu1 w1 e1 F1 rv P1 => ?_
  by_cases hk : okX ks l = true
  case neg => rw [if_neg hk] at P1; exact P1.elim
  rw [if_pos hk] at P1
  have hv := okV_of hk rv
  have hfl : vs.length = (S.T.fld c).length := (okV_len hv).trans k10
  refine ⟨?_, fun a ha => ⟨a, vs ++ [], rfl, by rw [List.append_nil]; exact hfl, by rw [List.append_nil]; exact hv, upd_same, fun d H' hd hne g1 g2 g3 => ⟨rfl, d, _, g1, g2, ?_, ?_⟩⟩⟩
  · rw [hfl]; omega
  · rw [upd_ne hne] at hd; exact hd
  · rw [List.append_nil] at g2 ⊢
    rw [upd_ne hne] at hd
    -- the world behind the raise
    have gr : Grow w1.H (upd (del H' a) d (.xd ((S.T.fld c).zip vs.reverse))) := fun b o hb => by
      have n1 : b ≠ a := ne_of_none hb ha
      have n2 : b ≠ d := ne_of_none hb hd
      rw [upd_ne n2]
      show (if b = a then none else H' b) = some o
      rw [if_neg n1]
      exact g3 b o n1 (by rw [upd_ne n1]; exact hb)
    have e2 := Wd.hp_ext gr
    rw [← k1]
    exact P1 (S.C c) (some d) σ (w1.hp _) e2 (F1.hp gr) ⟨c, l.reverse, d, vs.reverse, rfl, by rw [x.ok.nx]; exact (List.getElem?_eq_some_iff.mp hx).1, rfl, rfl, by show upd _ d _ d = _; rw [upd_same], by rw [List.length_reverse, hfl], fun z => F1.wok.mtr d z hd, Reps.reverse (Reps.ext F1.wok e2 _ _ rv)⟩
end
section
variable {S : Gs} {C : Ck} {sc : Scope} {fb : Str → Bool} {X : Cx} {W : WX}
/-- except C as n -/
theorem ss_trya (x : XS S C sc fb W X) (hc : C.hot = false) {b h : Sms} {c j : Nat} {n m : Str} {ks : List Bool} {body suite : List Stmt} {b0 : Stmt} {np hp pos : Pos} (hx : C.xcn[c]? = some (n, ks)) (hcl : c ∈ C.hnd) (hg : glb sc n = true) (ho : okNm n = true) (hj : C.N[j]? = some m) (hl : isLoc sc m = true)
    (hb : ∀ {W' : WX} {X' : Cx}, XS S C sc fb W' X' → SSs S W' X' b body) (hh : ∀ {S' : Gs} {X' : Cx}, XS S' { C with hot := true } sc fb W0 X' → SSs S' W0 X' h (b0 :: suite)) :
    SS S W X (.try b c (some j) h) (.Try body [.ExceptHandler (some (.Name n np)) (some m) (b0 :: suite) hp] [] [] pos) := by
  obtain ⟨h1, _, _⟩ := okNm_of ho
  obtain ⟨Ca, fI, fd, ps, lv, klv, k1, k2, _⟩ := (x.ok.xcs c n ks hx).ex
  have hcn : c < C.xcn.length := (List.getElem?_eq_some_iff.mp hx).1
  refine PS.imp (L2N.ps_try_as (tb := fun W' => tS S.T S.C W' (xss S.G S.cf b)) (ts := fun a cls d D σ H => ∃ d', cls = S.C c ∧ d = some d' ∧ tS (S.T.at ((j, a, c, d') :: S.T.xs)) S.C W0 (xss S.G S.cf h) D σ H) (c := .ref Ca) (i := j) (Wout := W) (x.stk hc) x.frm x.ok.nd (by rw [x.ok.N]; exact hj) (isLoc_of x.ok hl) ⟨glb_of x.ok hg, h1, .inl k2⟩ x.tk
    (fun W' pn xe tk hpo => hb (x.tr hc tk hpo)) (fun a oe cls d pn hz hf => ⟨fun pins s σ H D I ⟨d', e1, e2, q⟩ => ?_⟩)) fun D σ H q => ?_
  · subst e1 e2
    refine (hh (S' := { S with T := S.T.at ((j, a, c, d') :: S.T.xs) }) (x.suite ⟨_, _, hz⟩ hf fun p hp => ?_)).run pins s σ H D I q
    rw [x.ok.cold hc] at hp
    obtain rfl := List.mem_singleton.mp hp
    exact ⟨hcn, oe, List.mem_cons_self, hz, hf⟩
  · obtain ⟨w, sl, mu, hH, F, P⟩ := q
    refine ⟨w, sl, mu, hH, F, ?_⟩
    have P : Psf S.T S.C W w (match xss S.G S.cf b sl mu with
      | .exc (.exc c' fs) s m => if c' == c then ((xss S.G S.cf h (s.set j (.ex c' fs)) m).nox.bnd fun f s m => .ok f (s.set j .un) m) else .exc (.exc c' fs) s m
      | r => r) D := P
    generalize xss S.G S.cf b sl mu = r at P ⊢
    cases r with
    | stk => exact P
    | ok f s m => exact P
    | exc e s m =>
      intro cls d σ' w' ex F' rx
      cases e with
      | exc c' fs =>
        obtain ⟨r0, r1, d', vs, r2, r3, r4, r5, r6⟩ := exc_is (S := S) (c := c) rx
        have hm := x.ok.exm c' c (by rw [← x.ok.nx]; exact r0) hcl
        subst r1 r2
        refine ⟨c' == c, by rw [← k1]; exact hm, fun hb a ha => ?_, fun hb => ?_⟩
        · have P2 : Psf S.T S.C W w (if (c' == c) = true then ((xss S.G S.cf h (s.set j (.ex c' fs)) m).nox.bnd fun f s m => .ok f (s.set j .un) m) else .exc (.exc c' fs) s m) D := P
          rw [if_pos hb] at P2
          obtain rfl : c' = c := by simpa using hb
          refine ⟨d', rfl, rfl, w', _, m, rfl, F'.into (i := j) r3 r4 r5 r6, ?_⟩
          generalize xss S.G S.cf h (s.set j (.ex c' fs)) m = r at P2 ⊢
          cases r with
          | stk => exact P2
          | exc _ _ _ => exact P2.elim
          | ok f s2 m2 =>
            intro σ2 w2 e2 F2
            have q := P2 (σ2.set j none) w2 (ex.trans F.wok e2) F2.outof
            cases f with
            | rt p => exact fun v rv => q v ((RepV.at p v).mp rv)
            | _ => exact q
        · have P2 : Psf S.T S.C W w (if (c' == c) = true then ((xss S.G S.cf h (s.set j (.ex c' fs)) m).nox.bnd fun f s m => .ok f (s.set j .un) m) else .exc (.exc c' fs) s m) D := P
          rw [if_neg (by rw [hb]; simp)] at P2
          exact P2 _ _ σ' w' ex F' rx
      | _ =>
        obtain ⟨_, _, _, _, e, _⟩ := rx
        cases e
/-- except C -/
theorem ss_tryo (x : XS S C sc fb W X) (hc : C.hot = false) {b h : Sms} {c : Nat} {n : Str} {ks : List Bool} {body suite : List Stmt} {b0 : Stmt} {np hp pos : Pos} (hx : C.xcn[c]? = some (n, ks)) (hcl : c ∈ C.hnd) (hg : glb sc n = true) (ho : okNm n = true)
    (hb : ∀ {W' : WX} {X' : Cx}, XS S C sc fb W' X' → SSs S W' X' b body) (hh : ∀ {S' : Gs} {X' : Cx}, XS S' { C with hot := true } sc fb W0 X' → SSs S' W0 X' h (b0 :: suite)) :
    SS S W X (.try b c none h) (.Try body [.ExceptHandler (some (.Name n np)) none (b0 :: suite) hp] [] [] pos) := by
  obtain ⟨h1, _, _⟩ := okNm_of ho
  obtain ⟨Ca, fI, fd, ps, lv, klv, k1, k2, _⟩ := (x.ok.xcs c n ks hx).ex
  have hcn : c < C.xcn.length := (List.getElem?_eq_some_iff.mp hx).1
  have hat : S.T.at [] = S.T := by
    have := x.ok.cold hc
    unfold Tb.at
    rw [← this]
  refine PS.imp (ps_try_onlyN (tb := fun W' => tS S.T S.C W' (xss S.G S.cf b)) (ts := fun a cls d => tS S.T S.C W0 (xss S.G S.cf h)) (c := .ref Ca) (Wout := W) (x.stk hc) x.frm ⟨glb_of x.ok hg, h1, .inl k2⟩ x.tk
    (fun W' pn xe tk hpo => hb (x.tr hc tk hpo)) (fun a oe cls d pn hz hf => ?_)) fun D σ H q => ?_
  · have z := hh (S' := { S with T := S.T.at [] }) (x.suite (a := a) (oe := oe) (pn := pn) (E := []) ⟨_, _, hz⟩ hf fun p hp => by cases hp)
    rw [hat] at z
    exact z
  · obtain ⟨w, sl, mu, hH, F, P⟩ := q
    refine ⟨w, sl, mu, hH, F, ?_⟩
    have P : Psf S.T S.C W w (match xss S.G S.cf b sl mu with
      | .exc (.exc c' fs) s m => if c' == c then (xss S.G S.cf h s m).nox else .exc (.exc c' fs) s m
      | r => r) D := P
    generalize xss S.G S.cf b sl mu = r at P ⊢
    cases r with
    | stk => exact P
    | ok f s m => exact P
    | exc e s m =>
      intro cls d σ' w' ex F' rx
      cases e with
      | exc c' fs =>
        obtain ⟨r0, r1, d', vs, r2, r3, r4, r5, r6⟩ := exc_is (S := S) (c := c) rx
        have hm := x.ok.exm c' c (by rw [← x.ok.nx]; exact r0) hcl
        subst r1 r2
        have P : Psf S.T S.C W w (if (c' == c) = true then (xss S.G S.cf h s m).nox else .exc (.exc c' fs) s m) D := P
        refine ⟨c' == c, by rw [← k1]; exact hm, fun hb a ha => ?_, fun hb => ?_⟩
        · rw [if_pos hb] at P
          refine ⟨w', s, m, rfl, F', ?_⟩
          generalize xss S.G S.cf h s m = r at P ⊢
          cases r with
          | stk => exact P
          | exc _ _ _ => exact P.elim
          | ok f s2 m2 => exact fun σ2 w2 e2 F2 => P σ2 w2 (ex.trans F.wok e2) F2
        · rw [if_neg (by rw [hb]; simp)] at P
          exact P _ _ σ' w' ex F' rx
      | _ =>
        obtain ⟨_, _, _, _, e, _⟩ := rx
        cases e
end
set_option maxHeartbeats 4000000 in
mutual
theorem ss_all {sc : Scope} {fb : Str → Bool} : ∀ (a : Sm) {S : Gs} {C : Ck} {W : WX} {X : Cx} (x : XS S C sc fb W X) (st : Stmt), ckS sc fb a C st = true → SS S W X a st
  | .asg i e, S, C, W, X, x, st, h => by
    simp only [ckS] at h
    split at h
    · simp only [Bool.and_eq_true, Bool.or_eq_true, decide_eq_true_eq] at h
      obtain ⟨⟨⟨h1, h2⟩, h3⟩, h4 | h4⟩ := h
      · exact ss_asg x h1 h2 (s_ex e x.ok x.tk _ h3) h4
      · rename_i n p v pos
        simp only [Bool.and_eq_true, Bool.not_eq_true'] at h4
        obtain ⟨hc, h4⟩ := h4
        match v, h3, h4 with
        | .ListComp y gs scope lp, h3, h4 =>
          match e, h3 with
          | .lc own elt tg it ifs, h3 =>
            simp only [ckE] at h3
            split at h3
            · rename_i heq
              cases heq
              simp only [Bool.and_eq_true, decide_eq_true_eq] at h3
              obtain ⟨⟨⟨⟨⟨⟨⟨⟨k1, k2⟩, k3⟩, k4⟩, k5⟩, k6⟩, k7⟩, k8⟩, k9⟩ := h3
              refine ss_asgL x hc h1 h4 k2 k1 (fun i hi => ?_) (s_it it x.ok x.tk _ _ k4) k9 (fun s H A cl fp => s_tg (x.ok.blk hc s H _ A cl fp) tg _ k5) (fun s H A cl fp => s_ifs ?_) fun s H A cl fp => s_ex elt (x.ok.blk hc s H _ A cl fp) takesW0 _ k8
              · have := List.all_eq_true.mp k3 i hi
                simpa using this
              · rename_i fs
                match ifs, fs, k6, k7 with
                | .nil, fs, h6, _ =>
                  simp only [ckTs, List.isEmpty_iff] at h6
                  exact .inl ⟨rfl, h6⟩
                | .cons t ts, [], h6, _ => simp [ckTs] at h6
                | .cons t .nil, [y], h6, _ =>
                  simp only [ckTs, Bool.and_eq_true] at h6
                  exact .inr ⟨t, y, rfl, rfl, s_tt t (x.ok.blk hc s H _ A cl fp) takesW0 _ h6.1⟩
                | .cons t (.cons _ _), [y], h6, _ => simp [ckTs] at h6
                | _, _ :: _ :: _, _, h7 => exact absurd (Nat.le_of_ble_eq_true h7) (by simp)
            · cases h3
          | .stk, h3 => exact ss_stuck fun _ _ => rfl
    · cases h
  | .cell i es, S, C, W, X, x, st, h => by
    simp only [ckS] at h
    split at h
    · simp only [Bool.and_eq_true, decide_eq_true_eq] at h
      obtain ⟨⟨⟨h1, h2⟩, h3⟩, h4⟩ := h
      exact ss_cell x h1 h2 (s_exs es x.ok x.tk _ h3) h3 (Nat.le_of_ble_eq_true h4)
    · cases h
  | .own i es, S, C, W, X, x, st, h => by
    simp only [ckS] at h
    split at h
    · simp only [Bool.and_eq_true, decide_eq_true_eq] at h
      obtain ⟨⟨⟨h1, h2⟩, h3⟩, h4⟩ := h
      exact ss_own x h1 h2 (s_exs es x.ok x.tk _ h3) h3 (Nat.le_of_ble_eq_true h4)
    · cases h
  | .ast tg e, S, C, W, X, x, st, h => by
    simp only [ckS] at h
    split at h
    · simp only [Bool.and_eq_true] at h
      obtain ⟨⟨⟨⟨h1, h2⟩, h3⟩, h4⟩, h5⟩ := h
      exact ss_ast x h1 h2 (s_ex e x.ok x.tk _ h3) h4 h5
    · cases h
  | .par i j a b, S, C, W, X, x, st, h => by
    simp only [ckS] at h
    split at h
    · simp only [Bool.and_eq_true, Bool.not_eq_true', decide_eq_true_eq] at h
      obtain ⟨⟨⟨⟨⟨⟨⟨⟨⟨⟨⟨⟨hc, h1⟩, h2⟩, h3⟩, h4⟩, h5⟩, h6⟩, h7⟩, h8⟩, h9⟩, h10⟩, h11⟩, h12⟩ := h
      exact ss_par x hc h1 h2 h3 h4 h5 h6 h7 h8 h9 h10 (s_ex a x.ok x.tk _ h11) (s_ex b x.ok x.tk _ h12)
    · cases h
  | .par3 i j k a b c, S, C, W, X, x, st, h => by
    simp only [ckS] at h
    split at h
    · simp only [Bool.and_eq_true, Bool.not_eq_true', decide_eq_true_eq] at h
      obtain ⟨⟨⟨⟨⟨⟨⟨⟨⟨⟨⟨⟨⟨⟨⟨⟨⟨⟨⟨hc, h1⟩, h2⟩, h3⟩, h4⟩, h5⟩, h6⟩, h7⟩, h8⟩, h9⟩, h10⟩, h11⟩, h12⟩, h13⟩, h14⟩, h15⟩, h16⟩, h17⟩, h18⟩, h19⟩ := h
      exact ss_par3 x hc h1 h2 h3 h4 h5 h6 h7 h8 h9 h10 h11 h12 h13 h14 h15 h16 (s_ex a x.ok x.tk _ h17) (s_ex b x.ok x.tk _ h18) (s_ex c x.ok x.tk _ h19)
    · cases h
  | .aug i o e, S, C, W, X, x, st, h => by
    simp only [ckS] at h
    split at h
    · simp only [Bool.and_eq_true, decide_eq_true_eq] at h
      obtain ⟨⟨⟨h1, h2⟩, rfl⟩, h4⟩ := h
      exact ss_aug x h1 h2 (s_ex e x.ok x.tk _ h4)
    · cases h
  | .stc a k v, S, C, W, X, x, st, h => by
    simp only [ckS] at h
    split at h
    · simp only [Bool.and_eq_true] at h
      obtain ⟨⟨⟨⟨h1, h2⟩, h3⟩, h4⟩, h5⟩ := h
      exact ss_stc x (s_ex a x.ok x.tk _ h1) (s_ex k x.ok x.tk _ h2) h3 (s_ex v x.ok x.tk _ h4) h5
    · cases h
  | .ift t a b, S, C, W, X, x, st, h => by
    simp only [ckS] at h
    split at h
    · simp only [Bool.and_eq_true] at h
      exact ss_ift (s_tt t x.ok x.tk _ h.1.1) (sss_all a x _ h.1.2) (sss_all b x _ h.2)
    · cases h
  | .whl t b, S, C, W, X, x, st, h => by
    simp only [ckS] at h
    split at h
    · simp only [Bool.and_eq_true] at h
      exact ss_whl x (s_tt t x.ok x.tk _ h.1) (sss_all b x _ h.2)
    · cases h
  | .for tg it b, S, C, W, X, x, st, h => by
    simp only [ckS] at h
    split at h
    · simp only [Bool.and_eq_true] at h
      obtain ⟨⟨⟨h1, h2⟩, h3⟩, h4⟩ := h
      cases hc : C.hot with
      | false => exact ss_for x hc h1 (s_it it x.ok x.tk _ _ h2) h3 (sss_all b x _ h4)
      | true => exact ss_forH x hc h1 (s_itH it x.ok hc x.tk _ _ h2) h3 (sss_all b x _ h4)
    · cases h
  | .ret e, S, C, W, X, x, st, h => by
    simp only [ckS] at h
    split at h
    · exact ss_ret (s_ex e x.ok x.tk _ h)
    · cases h
  | .exp e, S, C, W, X, x, st, h => by
    simp only [ckS] at h
    split at h
    · simp only [Bool.and_eq_true] at h
      exact ss_exp (s_ex e x.ok x.tk _ h.1) h.2
    · cases h
  | .pas, S, C, W, X, x, st, h => by
    simp only [ckS] at h
    split at h
    · exact ss_pas
    · cases h
  | .brk, S, C, W, X, x, st, h => by
    simp only [ckS] at h
    split at h
    · exact ss_brk
    · cases h
  | .cnt, S, C, W, X, x, st, h => by
    simp only [ckS] at h
    split at h
    · exact ss_cnt
    · cases h
  | .mat e cs, S, C, W, X, x, st, h => by
    simp only [ckS] at h
    split at h
    · simp only [Bool.and_eq_true] at h
      exact ss_mat (s_ex e x.ok x.tk _ h.1) (sm_all cs x _ h.2)
    · cases h
  | .app i e, S, C, W, X, x, st, h => by
    simp only [ckS] at h
    split at h
    · simp only [Bool.and_eq_true, decide_eq_true_eq] at h
      obtain ⟨⟨⟨⟨⟨⟨rfl, h2⟩, h3⟩, h4⟩, h5⟩, h6⟩, h7⟩ := h
      exact ss_app x h2 h3 h4 (s_ex e x.ok x.tk _ h5) h6 h7
    · cases h
  | .rai c ks es, S, C, W, X, x, st, h => by
    simp only [ckS] at h
    split at h
    · simp only [Bool.and_eq_true, Bool.not_eq_true', decide_eq_true_eq] at h
      obtain ⟨⟨⟨⟨⟨hc, h1⟩, h2⟩, h3⟩, h4⟩, h5⟩ := h
      exact ss_rai x hc h1 h2 h3 (s_exs es x.ok x.tk _ h4) h4 (Nat.le_of_ble_eq_true h5)
    · cases h
  | .try b c i hs, S, C, W, X, x, st, h => by
    simp only [ckS] at h
    split at h
    · simp only [Bool.and_eq_true, Bool.not_eq_true', decide_eq_true_eq] at h
      obtain ⟨⟨⟨⟨⟨⟨⟨hc, h1⟩, h7⟩, h2⟩, h3⟩, h4⟩, h5⟩, h6⟩ := h
      have h7 : c ∈ C.hnd := by simpa using h7
      split at h1
      · rename_i y ks hy
        obtain rfl := of_decide_eq_true h1
        split at h4
        · simp only [Bool.and_eq_true, decide_eq_true_eq] at h4
          exact ss_trya x hc hy h7 h2 h3 h4.1 h4.2 (fun x' => sss_all b x' _ h5) fun x' => sss_all hs x' _ h6
        · exact ss_tryo x hc hy h7 h2 h3 (fun x' => sss_all b x' _ h5) fun x' => sss_all hs x' _ h6
        · cases h4
      · cases h1
    · cases h
  | .frz _, S, C, W, X, x, st, h => by simp [ckS] at h
  | .sat _ _ _ _, S, C, W, X, x, st, h => by simp [ckS] at h
  | .stk, S, C, W, X, x, st, h => ss_stuck fun _ _ => rfl
theorem sss_all {sc : Scope} {fb : Str → Bool} : ∀ (a : Sms) {S : Gs} {C : Ck} {W : WX} {X : Cx} (x : XS S C sc fb W X) (sts : List Stmt), ckSs sc fb a C sts = true → SSs S W X a sts
  | .nil, S, C, W, X, x, sts, h => by
    simp only [ckSs, List.isEmpty_iff] at h
    subst h
    exact sss_nil
  | .cons s r, S, C, W, X, x, sts, h => by
    simp only [ckSs] at h
    split at h
    · simp only [Bool.and_eq_true] at h
      exact sss_cons (ss_all s x _ h.1) (sss_all r x _ h.2)
    · cases h
theorem sm_all {sc : Scope} {fb : Str → Bool} : ∀ (a : Mcs) {S : Gs} {C : Ck} {W : WX} {X : Cx} (x : XS S C sc fb W X) (ms : List MatchCase), ckMs sc fb a C ms = true → SMs S W X a ms
  | .nil, S, C, W, X, x, ms, h => by
    simp only [ckMs, List.isEmpty_iff] at h
    subst h
    exact sm_nil
  | .cons ks b r, S, C, W, X, x, ms, h => by
    simp only [ckMs] at h
    split at h
    · simp only [Bool.and_eq_true] at h
      exact sm_cons x h.1.1 (sss_all b x _ h.1.2) (sm_all r x _ h.2)
    · cases h
end
end RA

/-! Functions: all of them, by the number of calls. -/
namespace RA
open PySem L2

structure FOk (K : PySem.W.Frag) (mg : Str → Option Value) (a : Addr) (fd : FuncData) (I : FI) : Prop where
  F : L2.Fun K I.name I.name I.st a fd
  m : ∀ x, I.gn = some x → mg x = some (.ref a)
  b : Binds K fd I.ps []
theorem repl_get {α : Type} {n i : Nat} {x y : α} (h : (List.replicate n x)[i]? = some y) : y = x := by
  rw [List.getElem?_replicate] at h
  split at h
  · cases h; rfl
  · cases h
theorem slots_at {ps : List PV} {n i : Nat} {s : Sl} (h : (ps.map Sl.va ++ List.replicate n Sl.un)[i]? = some s) : (∃ p, s = .va p ∧ ps[i]? = some p) ∨ s = .un := by
  by_cases hi : i < (ps.map Sl.va).length
  · rw [List.getElem?_append_left hi] at h
    simp only [List.getElem?_map, Option.map_eq_some_iff] at h
    obtain ⟨p, h1, rfl⟩ := h
    exact .inl ⟨p, rfl, h1⟩
  · rw [List.getElem?_append_right (by omega)] at h
    exact .inr (repl_get h)
theorem frel_start {T : Tb} {w : Wd} {N : List Str} {ps : List PV} {vs : List V} {mu : List PV} {np ns : Nat} (ok : WOk w) (cr : CRel T w mu) (r : Reps T w ps vs) (h1 : ps.length = np) (h2 : ns = N.length) : FRel T w (L2.start N vs) (ps.map .va ++ List.replicate (ns - np) .un) mu := by
  have hl := r.len
  refine ⟨ok, by simp [L2.start]; omega, fun i p h => ?_, fun i p h => ?_, fun i j p q a h => ?_, cr, fun i c fs h => ?_⟩
  · rcases slots_at h with ⟨p', e, h'⟩ | e
    · cases e
      obtain ⟨v, hv, rv⟩ := r.get h'
      refine ⟨v, ?_, rv⟩
      have hi : i < (vs.map some).length := by rw [List.length_map]; exact (List.getElem?_eq_some_iff.mp hv).1
      unfold L2.start
      rw [List.getElem?_append_left hi, List.getElem?_map, hv]
      rfl
    · cases e
  · rcases slots_at h with ⟨p', e, h'⟩ | e <;> cases e
  · rcases slots_at h with ⟨p', e, h'⟩ | e <;> cases e
  · rcases slots_at h with ⟨p', e, h'⟩ | e <;> cases e
/-- an own exception class, wherever it is raised -/
def XcAt (P : Program) (w : World) (K : PySem.W.Frag) (mg : Str → Option Value) (T : Tb) (Cl : Nat → Value) (c : Nat) (x : Str) (ks : List Bool) : Prop :=
  ∃ (Ca fI : Addr) (fd : FuncData) (ps : List Str), Cl c = .ref Ca ∧ mg x = some (.ref Ca) ∧ OexC K Ca ∧ PySem.W.findIn K (.ref Ca) "__init__" = some (some (.ref fI)) ∧ PySem.W.typeIn K (.ref fI) = some (.type "function") ∧
    (∀ base, FnOk P w K mg base (L2N.CX P w) 1 fI fd ps (spX T c Ca (okV ks))) ∧ Binds K fd ps [] ∧ XfC K Ca ∧ (∀ n ∈ T.fld c, PySem.W.findIn K (.ref Ca) n = some none) ∧ (T.fld c).Nodup ∧ ks.length = (T.fld c).length ∧ ks.length ≤ 900 ∧ T.xca c = Ca ∧ XiC K Ca
section
variable {P : Program} {w : World} {K : PySem.W.Frag} {mg : Str → Option Value} {base : Heap} {T : Tb} {Cl : Nat → Value} {G : List PV} {Is : List FI} {tx : Tx}
/-- the tables of a program -/
structure PgOk (P : Program) (w : World) (K : PySem.W.Frag) (mg : Str → Option Value) (T : Tb) (Cl : Nat → Value) (G : List PV) (Is : List FI) (tx : Tx) : Prop where
  hK : T.K = K
  xs : T.xs = []
  nx : T.nx = tx.xcn.length
  fns : ∀ (f : Nat) I, Is[f]? = some I → ∃ a fd, FOk K mg a fd I ∧ T.fa f = some a
  fa : ∀ (f : Nat) a, T.fa f = some a → f < Is.length
  sc : ∀ I ∈ Is, FnScope I.N I.ps (defScope I.st)
  chk : Is.all (FI.chk tx Is) = true
  chkH : chkHs tx Is = true
  glob : ∀ (g : Nat) x, tx.gn[g]? = some x → ∃ u v p, mg x = some u ∧ RelV v u ∧ G[g]? = some p ∧ ∀ w, WOk w → RepV T w p v
  nom : ∀ I ∈ Is, I.mt = none
  cln : tx.cln = []
  atn : tx.atn = []
  xcs : ∀ (c : Nat) x ks, tx.xcn[c]? = some (x, ks) → XcAt P w K mg T Cl c x ks
  exm : ∀ (c c' : Nat), c < tx.xcn.length → c' ∈ tx.hnd → PySem.W.exmOne K (Cl c) (Cl c') = some (c == c')
  xfl : ∀ (c : Nat) ns, tx.xfl[c]? = some ns → T.fld c = ns
  icl : ∀ (k : Nat) y tb, tx.icl[k]? = some (y, tb) → ∃ (v : V) (cv : Value), RelV v cv ∧ (∀ u, RelV v u → u = cv) ∧ (mg y = some cv ∨ (mg y = none ∧ bootBuiltins y = some cv)) ∧ ∀ p ∈ tb, p.1 < tx.xcn.length ∧ PySem.W.kitOne K (.ref (T.xca p.1)) cv = some p.2
  blt : ∀ x ∈ bNames, mg x = none
theorem okN {x qual : Str} {st : Stmt} {f : Addr} {fd : FuncData} {N ps : List Str} {k : Nat} {sp : Sp} (F : L2.Fun K x qual st f fd) (S : FnScope N ps (defScope st)) (len : ∀ vs H Q E, sp vs H Q E → vs.length = ps.length)
    (hbody : ∀ (cdv : Value) (A : Around) (outer : List Env) (s : Shared) (H : Hp) (vs : List V) (Q : VK) (E : XK), Room k (A.deeper (PyProof.Rows.envOfC qual (defScope st) s.heap.objs.size f cdv)) → sp vs H Q E →
      ∃ t, PSs (cxOf (L2N.CX P w) P w K mg base N qual (defScope st) f cdv A outer s H E) (defBody st) t ∧ t { nx := fun _ H' => Q .non H', rt := Q } (L2.start N vs) H) : FnOk P w K mg base (L2N.CX P w) (k + 1) f fd ps sp := by
  obtain ⟨oc, od, kV, doc, pm, an, cdv, ct, osl, rfl, lk, hcd⟩ := F.ex
  exact fn_of lk hcd S len fun A outer s H vs Q E hr hsp => hbody cdv A outer s H vs Q E hr hsp
theorem okH {x qual : Str} {st : Stmt} {f : Addr} {fd : FuncData} {N ps : List Str} {k : Nat} {sp : Sp} (F : L2.Fun K x qual st f fd) (S : FnScope N ps (defScope st)) (len : ∀ vs H Q E, sp vs H Q E → vs.length = ps.length)
    (hbody : ∀ (cdv : Value) (A : Around) (outer : List Env) (s : Shared) (H : Hp) (vs : List V) (Q : VK) (E : XK) (p : Addr × Obj), L2H.Hot1 A p → L2H.RoomH k (A.deeper (PyProof.Rows.envOfC qual (defScope st) s.heap.objs.size f cdv)) → sp vs H Q E →
      ∃ t, PSs (L2H.cxH (L2N.CX P w) P w K mg base N qual (defScope st) f cdv A outer s H E p) (defBody st) t ∧ t { nx := fun _ H' => Q .non H', rt := Q } (L2.start N vs) H) : L2H.FnH P w K mg base (L2N.CX P w) (k + 1) f fd ps sp := by
  obtain ⟨oc, od, kV, doc, pm, an, cdv, ct, osl, rfl, lk, hcd⟩ := F.ex
  exact L2H.fn_ofH lk hcd S len fun A outer s H vs Q E p hot hr hsp => hbody cdv A outer s H vs Q E p hot hr hsp
theorem fn_hot (O : PgOk P w K mg T Cl G Is tx) : ∀ (k f : Nat) (I : FI) (a : Addr) (fd : FuncData), tx.hf.contains f = true → Is[f]? = some I → FOk K mg a fd I → L2H.FnH P w K mg base (L2N.CX P w) (2 * k + 1) a fd I.ps (spF ⟨T, Cl, G, callN G (Is.map FI.fn) k, 2 * k + 2⟩ f)
  | 0, f, I, a, fd, hhf, hI, hF => by
    have no : ∀ vs H Q E, ¬ spF ⟨T, Cl, G, callN G (Is.map FI.fn) 0, 2⟩ f vs H Q E := fun vs H Q E h => by
      obtain ⟨w, ps, mu, _, _, _, _, _, h⟩ := h
      exact h
    exact ⟨fun vs H Q E h => absurd h (no vs H Q E), fun A outer s H args us vs Q E _ _ _ _ _ _ _ h => absurd h (no vs H Q E)⟩
  | k + 1, f, I, a, fd, hhf, hI, hF => by
    have hmem : I ∈ Is := List.mem_of_getElem? hI
    have hc := List.all_eq_true.mp O.chk I hmem
    unfold FI.chk at hc
    simp only [Bool.and_eq_true] at hc
    obtain ⟨⟨⟨_, hnp⟩, hns⟩, hkd⟩ := hc
    have hb : ckSs (defScope I.st) (fun _ => true) I.fn.body { tx.ck Is I.N with hot := true } (defBody I.st) = true := by
      have z := O.chkH
      unfold chkHs at z
      have z := List.all_eq_true.mp z f (by simpa using hhf)
      rw [hI] at z
      exact z
    have hnp := Nat.eq_of_beq_eq_true hnp
    have hns := Nat.eq_of_beq_eq_true hns
    have hS := O.sc I hmem
    have hfn : (Is.map FI.fn)[f]? = some I.fn := by rw [List.getElem?_map, hI]; rfl
    have opened : ∀ {ps : List PV} {mu : List PV} , callN G (Is.map FI.fn) (k + 1) f ps mu = if ps.length == I.fn.np then (match xss G (callN G (Is.map FI.fn) k) I.fn.body (ps.map .va ++ List.replicate (I.fn.ns - I.fn.np) .un) mu with
      | .ok (.rt p) _ m => .ok p m
      | .ok .nx _ m => .ok .non m
      | .exc e _ m => .exc e m
      | _ => .stk) else .stk := fun {ps mu} => by
      show (match (Is.map FI.fn)[f]? with | none => CR.stk | some fn => _) = _
      rw [hfn]
      all_goals rfl
    refine okH (k := 2 * k + 2) hF.F hS (fun vs H Q E h => ?_) fun cdv A outer s H vs Q E p0 hp0 hr h => ?_
    · obtain ⟨w0, ps, mu, _, _, _, _, rp, hm⟩ := h
      have hm : (match callN G (Is.map FI.fn) (k + 1) f ps mu with | .stk => False | .ok p mu' => _ | .exc e mu' => _) := hm
      rw [opened] at hm
      by_cases hl : (ps.length == I.fn.np) = true
      · rw [← rp.len]
        have := eq_of_beq hl
        omega
      · rw [if_neg hl] at hm
        exact hm.elim
    · obtain ⟨w0, ps, mu, rfl, ok, cr, hwr, rp, hm⟩ := h
      have hm : (match callN G (Is.map FI.fn) (k + 1) f ps mu with
        | .stk => False
        | .ok p mu' => ∀ v w', Ext w0 w' → WOk w' → CRel T w' mu' → RepV T w' p v → Q v w'.H
        | .exc e mu' => ∀ cls d w', Ext w0 w' → WOk w' → CRel T w' mu' → RepX T Cl w' e cls d → E cls d w'.H) := hm
      rw [opened] at hm
      by_cases hl : (ps.length == I.fn.np) = true
      case neg => rw [if_neg hl] at hm; exact hm.elim
      rw [if_pos hl] at hm
      have hl := eq_of_beq hl
      have x0 : XS ⟨T, Cl, G, callN G (Is.map FI.fn) k, 2 * k + 2⟩ { tx.ck Is I.N with hot := true } (defScope I.st) (fun _ => true) (fun cls d _ H => E cls d H) (L2H.cxH (L2N.CX P w) P w K mg base I.N I.name (defScope I.st) a cdv A outer s w0.H E p0) := by
        refine ⟨⟨O.hK, rfl, rfl, rfl, hS.nd, fun h => Bool.noConfusion h, fun _ => ⟨p0, hp0, List.mem_cons_self⟩, hr, fun j b hf hj => ?_, fun h => Bool.noConfusion h, by have := hr.un; show (A.deeper (PyProof.Rows.envOfC I.name (defScope I.st) s.heap.objs.size a cdv)).units + 66 < cLine; omega, O.glob, fun j x hj => ?_, fun h => Bool.noConfusion h, fun h => Bool.noConfusion h, fun c x hx => ?_, fun c ns hx => ?_, fun j c n hj => ?_, fun c x ks hx => ?_, O.exm, O.xfl, O.nx, O.icl, fun h => Bool.noConfusion h, fun p hp => ?_, O.blt⟩, L2N.takes_of rfl rfl rfl rfl, passes_of rfl, hS.kind, fun h => Bool.noConfusion h, rfl⟩
        · have hlt := O.fa j b hj
          obtain ⟨b', fe, hO, hfa⟩ := O.fns j Is[j] (List.getElem?_eq_getElem hlt)
          have hj : T.fa j = some b := hj
          rw [hfa] at hj
          cases hj
          exact ⟨⟨fe, Is[j].ps, 2 * k + 1, by show 2 * k + 1 + 1 ≤ 2 * k + 2; omega, hO.F.kp, hO.b, fn_hot O k j Is[j] b fe hf (List.getElem?_eq_getElem hlt) hO⟩⟩
        · have hj : (Is.map FI.gn)[j]? = some (some x) := hj
          rw [List.getElem?_map, Option.map_eq_some_iff] at hj
          obtain ⟨J, hJ, e⟩ := hj
          obtain ⟨b, fe, hO, hfa⟩ := O.fns j J hJ
          exact ⟨b, hO.m x e, hfa⟩
        · have hx : tx.cln[c]? = some x := hx
          rw [O.cln] at hx
          simp at hx
        · have hx : tx.atn[c]? = some ns := hx
          rw [O.atn] at hx
          simp at hx
        · have hj : (Is.map FI.mt)[j]? = some (some (c, n)) := hj
          rw [List.getElem?_map, Option.map_eq_some_iff] at hj
          obtain ⟨J, hJ, e⟩ := hj
          rw [O.nom J (List.mem_of_getElem? hJ)] at e
          cases e
        · obtain ⟨Ca, fI, fd', ps', q1, q2, q3, q4, q5, q6, q7⟩ := O.xcs c x ks hx
          exact ⟨Ca, fI, fd', ps', 1, by show 1 + 1 ≤ 2 * k + 2; omega, q1, q2, q3, q4, q5, q6 base, q7⟩
        · have hp : p ∈ T.xs := hp
          rw [O.xs] at hp
          cases hp
      refine ⟨_, sss_all I.fn.body x0 _ hb, w0, _, mu, rfl, frel_start (np := I.fn.np) (ns := I.fn.ns) ok cr rp hl hns, ?_⟩
      generalize hr' : xss G (callN G (Is.map FI.fn) k) I.fn.body (ps.map .va ++ List.replicate (I.fn.ns - I.fn.np) .un) mu = r at hm
      cases r with
      | stk => exact hm.elim
      | exc e sl m => exact fun cls d σ w' ex F rx => hm cls d w' ex F.wok F.cel rx
      | ok fl sl m =>
        intro σ w' ex F
        cases fl with
        | nx => exact hm .non w' ex F.wok F.cel (by simp only [RepV])
        | bk => exact hm.elim
        | ct => exact hm.elim
        | rt p => exact fun v rv => hm v w' ex F.wok F.cel rv
theorem fn_all (O : PgOk P w K mg T Cl G Is tx) : ∀ (k f : Nat) (I : FI) (a : Addr) (fd : FuncData), Is[f]? = some I → FOk K mg a fd I → FnOk P w K mg base (L2N.CX P w) (2 * k + 1) a fd I.ps (spF ⟨T, Cl, G, callN G (Is.map FI.fn) k, 2 * k + 2⟩ f)
  | 0, f, I, a, fd, hI, hF => by
    have no : ∀ vs H Q E, ¬ spF ⟨T, Cl, G, callN G (Is.map FI.fn) 0, 2⟩ f vs H Q E := fun vs H Q E h => by
      obtain ⟨w, ps, mu, _, _, _, _, _, h⟩ := h
      exact h
    exact ⟨fun vs H Q E h => absurd h (no vs H Q E), fun A outer s H args us vs Q E _ _ _ _ h => absurd h (no vs H Q E)⟩
  | k + 1, f, I, a, fd, hI, hF => by
    have hmem : I ∈ Is := List.mem_of_getElem? hI
    have hc := List.all_eq_true.mp O.chk I hmem
    unfold FI.chk at hc
    simp only [Bool.and_eq_true] at hc
    obtain ⟨⟨⟨hb, hnp⟩, hns⟩, hkd⟩ := hc
    have hnp := Nat.eq_of_beq_eq_true hnp
    have hns := Nat.eq_of_beq_eq_true hns
    have hS := O.sc I hmem
    have hfn : (Is.map FI.fn)[f]? = some I.fn := by rw [List.getElem?_map, hI]; rfl
    have opened : ∀ {ps : List PV} {mu : List PV} , callN G (Is.map FI.fn) (k + 1) f ps mu = if ps.length == I.fn.np then (match xss G (callN G (Is.map FI.fn) k) I.fn.body (ps.map .va ++ List.replicate (I.fn.ns - I.fn.np) .un) mu with
      | .ok (.rt p) _ m => .ok p m
      | .ok .nx _ m => .ok .non m
      | .exc e _ m => .exc e m
      | _ => .stk) else .stk := fun {ps mu} => by
      show (match (Is.map FI.fn)[f]? with | none => CR.stk | some fn => _) = _
      rw [hfn]
      all_goals rfl
    refine okN (k := 2 * k + 2) hF.F hS (fun vs H Q E h => ?_) fun cdv A outer s H vs Q E hr h => ?_
    · obtain ⟨w0, ps, mu, _, _, _, _, rp, hm⟩ := h
      have hm : (match callN G (Is.map FI.fn) (k + 1) f ps mu with | .stk => False | .ok p mu' => _ | .exc e mu' => _) := hm
      rw [opened] at hm
      by_cases hl : (ps.length == I.fn.np) = true
      · rw [← rp.len]
        have := eq_of_beq hl
        omega
      · rw [if_neg hl] at hm
        exact hm.elim
    · obtain ⟨w0, ps, mu, rfl, ok, cr, hwr, rp, hm⟩ := h
      have hm : (match callN G (Is.map FI.fn) (k + 1) f ps mu with
        | .stk => False
        | .ok p mu' => ∀ v w', Ext w0 w' → WOk w' → CRel T w' mu' → RepV T w' p v → Q v w'.H
        | .exc e mu' => ∀ cls d w', Ext w0 w' → WOk w' → CRel T w' mu' → RepX T Cl w' e cls d → E cls d w'.H) := hm
      rw [opened] at hm
      by_cases hl : (ps.length == I.fn.np) = true
      case neg => rw [if_neg hl] at hm; exact hm.elim
      rw [if_pos hl] at hm
      have hl := eq_of_beq hl
      have x0 : XS ⟨T, Cl, G, callN G (Is.map FI.fn) k, 2 * k + 2⟩ (tx.ck Is I.N) (defScope I.st) (fun _ => true) (fun cls d _ H => E cls d H) (cxOf (L2N.CX P w) P w K mg base I.N I.name (defScope I.st) a cdv A outer s w0.H E) := by
        refine ⟨⟨O.hK, rfl, rfl, rfl, hS.nd, fun _ => rfl, (fun h => Bool.noConfusion h), L2H.roomH_of hr, fun j b hf hj => ?_, fun _ => hr, by have := hr.un; show (A.deeper (PyProof.Rows.envOfC I.name (defScope I.st) s.heap.objs.size a cdv)).units + 66 < cLine; omega, O.glob, fun j x hj => ?_, fun _ j b hj => ?_, fun _ j c n hj => ?_, fun c x hx => ?_, fun c ns hx => ?_, fun j c n hj => ?_, fun c x ks hx => ?_, O.exm, O.xfl, O.nx, O.icl, fun _ => O.xs, fun p hp => ?_, O.blt⟩, L2N.takes_of rfl rfl rfl rfl, passes_of rfl, hS.kind, fun _ => rfl, rfl⟩
        · have hlt := O.fa j b hj
          obtain ⟨b', fe, hO, hfa⟩ := O.fns j Is[j] (List.getElem?_eq_getElem hlt)
          have hj : T.fa j = some b := hj
          rw [hfa] at hj
          cases hj
          exact ⟨⟨fe, Is[j].ps, 2 * k + 1, by show 2 * k + 1 + 1 ≤ 2 * k + 2; omega, hO.F.kp, hO.b, fn_hot O k j Is[j] b fe hf (List.getElem?_eq_getElem hlt) hO⟩⟩
        · have hj : (Is.map FI.gn)[j]? = some (some x) := hj
          rw [List.getElem?_map, Option.map_eq_some_iff] at hj
          obtain ⟨J, hJ, e⟩ := hj
          obtain ⟨b, fe, hO, hfa⟩ := O.fns j J hJ
          exact ⟨b, hO.m x e, hfa⟩
        · have hlt := O.fa j b hj
          obtain ⟨b', fe, hO, hfa⟩ := O.fns j Is[j] (List.getElem?_eq_getElem hlt)
          have hj : T.fa j = some b := hj
          rw [hfa] at hj
          cases hj
          exact ⟨⟨fe, Is[j].ps, 2 * k + 1, by show 2 * k + 1 + 1 ≤ 2 * k + 2; omega, hO.F.kp, hO.b, fn_all O k j Is[j] b fe (List.getElem?_eq_getElem hlt) hO⟩⟩
        · have hj : (Is.map FI.mt)[j]? = some (some (c, n)) := hj
          rw [List.getElem?_map, Option.map_eq_some_iff] at hj
          obtain ⟨J, hJ, e⟩ := hj
          rw [O.nom J (List.mem_of_getElem? hJ)] at e
          cases e
        · have hx : tx.cln[c]? = some x := hx
          rw [O.cln] at hx
          simp at hx
        · have hx : tx.atn[c]? = some ns := hx
          rw [O.atn] at hx
          simp at hx
        · have hj : (Is.map FI.mt)[j]? = some (some (c, n)) := hj
          rw [List.getElem?_map, Option.map_eq_some_iff] at hj
          obtain ⟨J, hJ, e⟩ := hj
          rw [O.nom J (List.mem_of_getElem? hJ)] at e
          cases e
        · obtain ⟨Ca, fI, fd', ps', q1, q2, q3, q4, q5, q6, q7⟩ := O.xcs c x ks hx
          exact ⟨Ca, fI, fd', ps', 1, by show 1 + 1 ≤ 2 * k + 2; omega, q1, q2, q3, q4, q5, q6 base, q7⟩
        · have hp : p ∈ T.xs := hp
          rw [O.xs] at hp
          cases hp
      refine ⟨_, sss_all I.fn.body x0 _ hb, w0, _, mu, rfl, frel_start (np := I.fn.np) (ns := I.fn.ns) ok cr rp hl hns, ?_⟩
      generalize hr' : xss G (callN G (Is.map FI.fn) k) I.fn.body (ps.map .va ++ List.replicate (I.fn.ns - I.fn.np) .un) mu = r at hm
      cases r with
      | stk => exact hm.elim
      | exc e sl m => exact fun cls d σ w' ex F rx => hm cls d w' ex F.wok F.cel rx
      | ok fl sl m =>
        intro σ w' ex F
        cases fl with
        | nx => exact hm .non w' ex F.wok F.cel (by simp only [RepV])
        | bk => exact hm.elim
        | ct => exact hm.elim
        | rt p => exact fun v rv => hm v w' ex F.wok F.cel rv
/-- the law's promise from the interpreter's answer -/
theorem law_sp {S : Gs} {f n : Nat} (h : ∀ ns : List Int, ns.length ≤ n → ∃ m, S.cf f [.fro ns] [] = .ok (.bl true) m) {H : Hp} {a : Addr} {ns : List Int} (hl : ns.length ≤ n) (hq : SqL S.T.K H a (ns.map V.int)) : spF S f [.ref a] H (fun v _ => v = .bl true) fun _ _ _ => False := by
  obtain ⟨m, hm⟩ := h ns hl
  refine ⟨⟨H, [], fun _ => False, fun _ => False, []⟩, [.fro ns], [], rfl, ⟨fun _ h => h, fun _ h => h.elim⟩, ⟨rfl, fun n c a h => by simp at h, fun n n' a h => by simp at h⟩, fun _ h => h.elim, ?_, ?_⟩
  · simp only [Reps, RepV]
    refine ⟨_, _, rfl, ⟨a, rfl, ?_⟩, rfl⟩
    rcases hq with hq | hq
    · exact .inl ⟨hq, fun z => z⟩
    · exact .inr hq
  · rw [hm]
    intro v w' _ _ _ rv
    simpa only [RepV] using rv
theorem cx_none {P : Program} {w : World} {H : Hp} {s : Shared} {e : Value} {s' : Shared} (h : L2N.CX P w [] H s (fun _ _ _ => False) e s') : False := by
  obtain ⟨_, _, _, _, _, _, _, _, _, _, _, _, h⟩ := h
  exact h
end
end RA

set_option maxHeartbeats 4000000
/-! An own exception class below ValueError whose initializer begins with super().__init__(..): its def keeps its promise. -/
namespace RA
open PySem PySem.Spec PyProof.Rows L2
/-- the names of such a def -/
structure SupScope (N P : List Str) (sc : Scope) : Prop where
  kind : sc.kind = .function
  co : sc.isCoroutine = false
  gen : sc.isGenerator = false
  nd : N.Nodup
  pre : N.take P.length = P
  par : ∀ x ∈ P, sc.names.lookup x = some .local
  fre : ∀ y ∈ sc.names, y.2 = .free → y.1 = ("__class__" : Str)
  noc : ∀ y ∈ sc.names, y.2 ≠ .cell
  sup : sc.names.lookup ("super" : Str) = some .globalImplicit
  cls : sc.names.lookup ("__class__" : Str) = some .free
/-- what is known of the def and its class D -/
structure SupK (P : Program) (K : PySem.W.Frag) (mg : Str → Option Value) (cdv : Value) (cc D : Addr) : Prop where
  code : ∃ (cda : Addr) (ccl : Value) (cdd : Option Addr) (vs : Array Value) (ccs : Array (Option Value)) (file : Str) (tf : Tok), cdv = .ref cda ∧ K.lookup cda = some ⟨ccl, cdd, .fields vs, ccs⟩ ∧ vs[2]? = some (.str file tf) ∧ ((P.main.file : Str) == file) = true
  cell : ∃ (cl : Value) (cld : Option Addr) (csl : Array (Option Value)), K.lookup cc = some ⟨cl, cld, .cell (some (.ref D)), csl⟩
  hD : ∃ cdD, PySem.W.clsIn K D = some cdD
  mgs : mg "super" = none
  top : (P.main.scope.names.lookup ("super" : Str)).isSome = false
  noth : PySem.W.nsIn K cStatics "thirdparty.any" = some none
/-- what is known of the object's class C -/
structure SupC (K : PySem.W.Frag) (D C : Addr) : Prop where
  T : OexC K C
  sub : PySem.W.mroIn K C (.ref D) = some true
  sup : PySem.W.ks_superIn K C D "__init__" = some (some (.builtin "ValueError.__init__"))
  ve : PySem.W.subIn K (.ref C) (.type "ValueError") = some true
theorem lookup_one {a x : Str} {b c : Addr} (h : ([(a, b)] : List (Str × Addr)).lookup x = some c) : x = a ∧ c = b := by
  by_cases e : x = a
  · subst e
    simp [List.lookup] at h
    exact ⟨rfl, h.symm⟩
  · have e' : (x == a) = false := by simpa using e
    simp [List.lookup, e'] at h
theorem lookup_app {α : Type} {x : Str} : ∀ (l r : List (Str × α)), (l ++ r).lookup x = match l.lookup x with | some v => some v | none => r.lookup x
  | [], r => rfl
  | (k, v) :: l, r => by
    show (match x == k with | true => some v | false => (l ++ r).lookup x) = match (match x == k with | true => some v | false => l.lookup x) with | some v => some v | none => r.lookup x
    cases x == k
    · exact lookup_app l r
    · rfl
theorem lookup_out {α : Type} {x : Str} : ∀ (l : List (Str × α)), (∀ p ∈ l, p.1 ≠ x) → l.lookup x = none
  | [], _ => rfl
  | (k, v) :: l, h => by
    have hk : (x == k) = false := by
      have := h (k, v) (List.mem_cons_self ..)
      simpa using fun e => this e.symm
    show (match x == k with | true => some v | false => l.lookup x) = none
    rw [hk]
    exact lookup_out l fun p hp => h p (List.mem_cons_of_mem _ hp)
theorem rev_lookup : ∀ {ps : List Str} {us : List Value} {i : Nat} {x : Str} {u : Value}, ps.Nodup → ps[i]? = some x → us[i]? = some u → (ps.zip us).reverse.lookup x = some u
  | [], _, i, _, _, _, h, _ => by simp at h
  | p :: ps, [], i, _, _, _, _, h => by simp at h
  | p :: ps, w :: us, 0, x, u, nd, h1, h2 => by
    simp at h1 h2
    subst h1 h2
    rw [List.zip_cons_cons, List.reverse_cons, lookup_app, lookup_out _ fun q hq => ?_]
    · simp [List.lookup]
    · intro e
      have hm := List.mem_reverse.mp hq
      obtain ⟨a, b⟩ := q
      have h3 := (List.of_mem_zip hm).1
      simp only at e
      rw [e] at h3
      exact (List.nodup_cons.mp nd).1 h3
  | p :: ps, w :: us, i + 1, x, u, nd, h1, h2 => by
    rw [List.zip_cons_cons, List.reverse_cons, lookup_app, rev_lookup (i := i) (List.nodup_cons.mp nd).2 (by simpa using h1) (by simpa using h2)]
/-- the context of such a def's body -/
def cxS (CX : CXT) (P : Program) (w : World) (K : PySem.W.Frag) (mg : Str → Option Value) (base : Heap) (N : List Str) (qual : Str) (scope : Scope) (f : Addr) (cd : Value) (cc : Addr) (A : Around) (outer : List Env) (s : Shared) (H : Hp) (E : XK) : Cx where
  prog := P
  w := w
  K := K
  mg := mg
  base := base
  A := A.deeper (PySem.W.ksEnv qual scope s.heap.objs.size f cd cc)
  N := N
  s_0 := s
  H_0 := H
  env := PySem.W.ksEnv qual scope s.heap.objs.size f cd cc
  outer := outer
  stack := PySem.W.ksEnv qual scope s.heap.objs.size f cd cc :: outer
  ex := []
  calm := true
  fn := fun _ => false
  pn := []
  xe := fun e s' => wpAny (model P w) (A.deeper (PySem.W.ksEnv qual scope s.heap.objs.size f cd cc)) (leaving (PySem.W.ksEnv qual scope s.heap.objs.size f cd cc) e) (fun _ s'' => CX outer H s E e s'') (fun e' s'' => CX outer H s E e' s'') s'
theorem inv_sup {CX : CXT} {P : Program} {w : World} {K : PySem.W.Frag} {mg : Str → Option Value} {base : Heap} {N ps : List Str} {qual : Str} {scope : Scope} {f cc D : Addr} {cd : Value} {A : Around} {outer : List Env} {s : Shared} {H : Hp} {E : XK} {us : List Value} {vs : List V} {h1 : Heap} {tk : Tok}
    (S : SupScope N ps scope) (SK : SupK P K mg cd cc D) (hd : A.handled = none) (e0 : Env0 P w K mg base A outer s H) (hl : vs.length = ps.length) (r : Vals vs us)
    (hns : h1.Ns s.heap.objs.size (fun x => (ps.zip us).reverse.lookup x)) (hk : ∀ b o, s.heap.get? b = some o → h1.get? b = some o) :
    Inv (cxS CX P w K mg base N qual scope f cd cc A outer s H E) [] (L2.start N vs) H { s with heap := h1, toks := tk } := by
  have hpl : ps.length ≤ N.length := by have := congrArg List.length S.pre; rw [List.length_take] at this; omega
  obtain ⟨cl, cld, csl, hcell⟩ := SK.cell
  have hbase := e0.mod.kin _ _ hcell
  have noA : ∀ b : Addr, b ∉ (cxS CX P w K mg base N qual scope f cd cc A outer s H E).ex := fun b z => absurd (show b ∈ ([] : List Addr) from z) (by simp)
  refine ⟨⟨e0.mod, S.kind, rfl, rfl, Nat.le_refl _, fun y z c h1 h2 => ?_, fun y hy => ?_, fun y c z _ => Bool.noConfusion (show false = true from z), fun _ => hd, Around.frames_deeper e0.frames, .inr ⟨rfl, rfl⟩, fun b z => absurd z (noA b), e0.bs, e0.bsz, fun b _ _ => noA b, fun b z => absurd z (noA b), e0.funs, e0.frf⟩,
    rfl, e0.bare, Un.kept hk, ⟨_, hns, fun i y v h1 h2 h3 => ?_⟩, fun y c h => ?_, e0.hok.fresh (Nat.le_refl _), fun y c h => ?_, fun p hp => absurd (show p ∈ ([] : List (Addr × Obj)) from hp) (by simp), e0.hok.kept hk, ?_⟩
  · exact (lookup_one h1).1.trans (lookup_one h2).1.symm
  · have hy : scope.names.lookup y = some .cell ∨ scope.names.lookup y = some .free := hy
    rcases hy with hy | hy
    · exact absurd rfl (S.noc _ (PySem.mem_of_lookup hy))
    · have e := S.fre _ (PySem.mem_of_lookup hy) rfl
      simp only at e
      subst e
      exact ⟨cc, rfl⟩
  · have hi : i < vs.length := by
      unfold L2.start at h2
      by_cases hi : i < vs.length
      · exact hi
      · rw [List.getElem?_append_right (by simpa using hi)] at h2
        rw [List.getElem?_replicate] at h2
        split at h2 <;> cases h2
    have ha : vs[i]? = some v := by
      unfold L2.start at h2
      rw [List.getElem?_append_left (by simpa using hi), List.getElem?_map] at h2
      cases e : vs[i]? with
      | none => rw [e] at h2; cases h2
      | some a => rw [e] at h2; cases h2; rfl
    obtain ⟨u, hu, rv⟩ := r.get ha
    have hp : ps[i]? = some y := by
      rw [← S.pre, List.getElem?_take_of_lt (by omega)]; exact h1
    have ndP : ps.Nodup := by rw [← S.pre]; exact S.nd.sublist (List.take_sublist _ _)
    exact ⟨u, rv, .inl ⟨S.par y (List.mem_of_getElem? hp), rev_lookup ndP hp hu⟩⟩
  · obtain ⟨rfl, rfl⟩ := lookup_one h
    exact ⟨_, ⟨_, hk _ _ (e0.bs _ _ hbase).1, rfl⟩⟩
  · obtain ⟨rfl, rfl⟩ := lookup_one h
    exact (e0.bs _ _ hbase).2
  · unfold L2.start
    show _ = N.length
    rw [List.length_append, List.length_map, List.length_replicate]
    omega
/-- THE RULE: the def of such an initializer -/
theorem super_fn {CX : CXT} {P : Program} {w : World} {K : PySem.W.Frag} {mg : Str → Option Value} {base : Heap} {k : Nat} {f cc D : Addr} {name qual : Str} {params : Arguments} {e : Expr} {es : List Expr} {rest : List Stmt} {p0 p1 p2 p3 p4 : Pos} {scope : Scope} {dV kV doc pm cdv ct oc : Value} {an od : Option Addr}
    {osl : Array (Option Value)} {N ps : List Str} {sp : Sp} {ar : Arg}
    (lk : K.lookup f = some ⟨oc, od, .func (PySem.W.ksFn name qual params (.Expr (.Call (.Attribute (.Call (.Name "super" p0) [] [] p1) "__init__" p2) (e :: es) [] p3) p4 :: rest) scope dV kV doc pm an cdv ct cc), osl⟩)
    (hcd : PySem.W.codeIn K cdv qual = true) (S : SupScope N ps scope) (hp : (params.posonlyargs ++ params.args).head? = some ar) (har : ps.head? = some ar.arg) (SK : SupK P K mg cdv cc D)
    (len : ∀ vs H Q E, sp vs H Q E → vs.length = ps.length)
    (hbody : ∀ (A : Around) (outer : List Env) (s : Shared) (H : Hp) (vs : List V) (Q : VK) (E : XK), Room k (A.deeper (PySem.W.ksEnv qual scope s.heap.objs.size f cdv cc)) → sp vs H Q E →
      ∃ (ta : TA) (t : TS) (a C : Addr), PA (cxS CX P w K mg base N qual scope f cdv cc A outer s H E) (e :: es) ta ∧ PSs (cxS CX P w K mg base N qual scope f cdv cc A outer s H E) rest t ∧ vs.head? = some (.ref a) ∧ SupC K D C ∧ H a = some (exo a C none) ∧
        ta (L2.start N vs) H fun ws H1 => ws.length ≤ 1000 ∧ H1 a = some (exo a C none) ∧ t { nx := fun _ H' => Q .non H', rt := Q } (L2.start N vs) H1)
    (hse : ∀ env, starEach (e :: es) env = (false, eval e env) :: starEach es env) (hpl : ∀ (pos : Pos) (env : Env), (backTo pos (starEach es env)).any (·.1) = false)
    (pl : Env → Sem Bool) (hev : ∀ env, eval (.Call (.Attribute (.Call (.Name "super" p0) [] [] p1) "__init__" p2) (e :: es) [] p3) env = (do
      let ov ← attributeBase (.Call (.Name "super" p0) [] [] p1) "__init__" env (eval (.Call (.Name "super" p0) [] [] p1) env)
      standAt p2.atName
      let (f, first) ← holding [ov] (getMethod ov "__init__" (pl env))
      callWith p3 f first (backTo p3 (starEach (e :: es) env)) []))
    (hsw : ∀ (l : Nat) (env : Env), swapsWith (.Call (.Attribute (.Call (.Name "super" p0) [] [] p1) "__init__" p2) (e :: es) [] p3) none l env = pure false := by intros; rfl) :
    FnOk P w K mg base CX (k + 1) f (PySem.W.ksFn name qual params (.Expr (.Call (.Attribute (.Call (.Name "super" p0) [] [] p1) "__init__" p2) (e :: es) [] p3) p4 :: rest) scope dV kV doc pm an cdv ct cc) ps sp := by
  refine ⟨len, fun A outer s H args us vs Q E hr e0 hb r hsp => ?_⟩
  have hl := len _ _ _ _ hsp
  have KX : K.In s.heap := e0.mod.kin.keeps fun b o e => (e0.bs b o e).1
  have lim : s.heap.NoLimit := e0.mod.nolimit.keeps fun b o e => (e0.bs b o e).1
  obtain ⟨ta, t, a, C, hpa, hps, hva, SC, hea, hq⟩ := hbody A outer s H vs Q E (hr.deeper _) hsp
  have hul : us.length = ps.length := by rw [← hl]; exact r.length.symm
  refine PySem.ks_codeAny_call_defAt (R := L2.CR CX outer P w H s Q E) hr.depth (KX _ _ lk) rfl lim (PySem.W.codeRec_of KX hcd) rfl hb S.noc (fun y hy => S.par y.1 (List.of_mem_zip (show (y.1, y.2) ∈ ps.zip us from hy)).1) (fun h1 hns hk1 => ?_) S.co S.gen S.kind
  have I : Inv (cxS CX P w K mg base N qual scope f cdv cc A outer s H E) [] (L2.start N vs) H { s with heap := h1, toks := s.toks + (ps.zip us).length } := inv_sup S SK hr.hd e0 hl r hns hk1
  refine PySem.ks_wpAt_execs_cons (PySem.ks_wpAt_Expr_any (PySem.ks_wpAt_MethodCall ?_ (hev _)) I.quiet (hsw _ _))
  obtain ⟨cda, ccl, cdd, cvs, ccs, file, tf, rfl, hcode, hvs, hfile⟩ := SK.code
  obtain ⟨cl, cld, csl, hcell⟩ := SK.cell
  obtain ⟨cdD, hD⟩ := SK.hD
  obtain ⟨oD, hDl, hDd⟩ : ∃ oD, K.lookup D = some oD ∧ oD.data = .cls cdD := by
    unfold PySem.W.clsIn at hD
    split at hD
    · rename_i c d cd' sl ho
      cases hD
      exact ⟨_, ho, rfl⟩
    · cases hD
  have K1 : K.In h1 := I.kIn
  obtain ⟨mb, hb1, hb2⟩ := I.mod.blt
  obtain ⟨m, hn, hloc⟩ := I.loc
  obtain ⟨t1, ho⟩ := exo_at I.hok hea
  refine PySem.ks_wpAt_super_base S.sup S.cls (by decide) rfl (K1 _ _ lk) rfl hp rfl (K1 _ _ hcode) rfl hvs hfile SK.top ?_
  refine PySem.W.ks_loadName_global S.kind S.sup (Calls.loadGlobal_builtin (I.mod.glob.keeps I.bk) SK.mgs (hb1.keeps I.bk) ((hb2 _ (by decide)).trans (show bootBuiltins "super" = some (.type "super") by decide +kernel)) ⟨rfl, ?_⟩)
  refine wpAny_loadName_free S.kind S.cls rfl ⟨_, K1 _ _ hcell, rfl⟩ ?_
  have har0 : ps[0]? = some ar.arg := by rw [← List.head?_eq_getElem?]; exact har
  have hvs0 : vs[0]? = some (.ref a) := by rw [← List.head?_eq_getElem?]; exact hva
  have hN0 : N[0]? = some ar.arg := by
    have h0 : 0 < ps.length := (List.getElem?_eq_some_iff.mp har0).1
    rw [← S.pre, List.getElem?_take_of_lt h0] at har0
    exact har0
  have hs0 : (L2.start N vs)[0]? = some (some (.ref a)) := by
    have h0 : 0 < (vs.map some).length := by rw [List.length_map]; exact (List.getElem?_eq_some_iff.mp hvs0).1
    unfold L2.start
    rw [List.getElem?_append_left h0, List.getElem?_map, hvs0]
    rfl
  have hlar : scope.names.lookup ar.arg = some .local := S.par _ (List.mem_of_getElem? har0)
  obtain ⟨u0, hu0, hl0⟩ := hloc 0 ar.arg (.ref a) hN0 hs0 (.inl hlar)
  have hm0 : m ar.arg = some u0 := by
    rcases hl0 with ⟨_, z⟩ | ⟨z, _⟩
    · exact z
    · have z : scope.names.lookup ar.arg = some .cell ∨ scope.names.lookup ar.arg = some .free := z
      rw [hlar] at z
      rcases z with z | z <;> cases z
  obtain rfl : u0 = Value.ref a := hu0
  refine wpAny_loadName_local S.kind hlar hn hm0 ?_
  refine PySem.ks_wpAny_isType_cls (K1 _ _ hDl) hDd ⟨rfl, ?_⟩
  have II : PySem.W.InstAt h1 a { cls := .ref C, dict := none, data := .fields #[.ref t1, .none, .none, .none, .bool false, .none] } C none := ⟨ho, rfl, rfl, trivial⟩
  refine PySem.ks_wpAny_call_super (K1 _ _ hDl) hDd ho rfl (fun c z => by cases z) (PySem.W.looks_mroIn K1 SC.sub) (fun h2 e2 k2 => ?_)
  -- the super object stands
  have I1 : Inv (cxS CX P w K mg base N qual scope f (.ref cda) cc A outer s H E) [] (L2.start N vs) H { s with heap := h2, toks := s.toks + (ps.zip us).length } := I.kept (h' := h2) (t' := s.toks + (ps.zip us).length) k2
  have K2 : K.In h2 := I1.kIn
  obtain ⟨cd, hcd2⟩ : ∃ cd, PySem.W.clsIn K C = some cd := by
    have z := SC.sup
    unfold PySem.W.ks_superIn at z
    cases y : PySem.W.clsIn K C with
    | none => rw [y] at z; cases z
    | some cd => exact ⟨cd, rfl⟩
  have hsup := SC.sup
  unfold PySem.W.ks_superIn at hsup
  rw [hcd2] at hsup
  have I2i : PySem.W.InstAt h2 a { cls := .ref C, dict := none, data := .fields #[.ref t1, .none, .none, .none, .bool false, .none] } C none := ⟨k2 _ _ ho, rfl, rfl, trivial⟩
  refine PySem.W.kxs_getMethod PySem.W.kxs_ValueError e2 (PySem.W.looks_opaque K2 SK.noth) (l₀ := cd.mro) (fun A Q E s k q => wpAny_bind ((PySem.W.looks_clsIn K2 hcd2) A _ E s k (wpAny_pure q))) rfl K2 hsup (I2i.type.andThen (PySem.W.looks_subIn K2 SC.ve)) (PySem.W.ks_ne K2 I2i hcd2) (by decide) ?_
  -- the bound initializer stands
  have k3 : ∀ b o, h2.get? b = some o → (h2.push (PySem.W.kxs_mw "ValueError.__init__" a)).get? b = some o := fun b o e => Heap.get?_push_of_some _ e
  have I2 : Inv (cxS CX P w K mg base N qual scope f (.ref cda) cc A outer s H E) [] (L2.start N vs) H { s with heap := h2.push (PySem.W.kxs_mw "ValueError.__init__" a), toks := s.toks + (ps.zip us).length + 1 } := I1.kept k3
  have I3 : Inv (cxS CX P w K mg base N qual scope f (.ref cda) cc A outer s H E) [(h2.objs.size, PySem.W.kxs_mw "ValueError.__init__" a)] (L2.start N vs) H { s with heap := h2.push (PySem.W.kxs_mw "ValueError.__init__" a), toks := s.toks + (ps.zip us).length + 1 } := I2.pins_of fun p hp => by
    have hp : p = (h2.objs.size, PySem.W.kxs_mw "ValueError.__init__" a) := by simpa using hp
    subst hp
    exact ⟨Heap.get?_push_at rfl rfl, I1.hok.fresh (Nat.le_refl _), Nat.ne_of_gt I1.lt, I1.nofs (Nat.le_refl _), fun v q => by cases q⟩
  rw [hse]
  refine PySem.W.kxs_callWith (i := "ValueError.__init__") (x := a) (by show (false || (backTo p3 (starEach es _)).any (·.1)) = false; rw [hpl]; rfl) ?_
  have hrun := hpa.run p3 _ _ _ _ _ I3 hq
  rw [hse] at hrun
  refine Calls.evalArgs_plain (wpAny_mono hrun (fun us2 s1 hs1 => ?_) fun _ _ z => z)
  obtain ⟨ws, H1, J1, r1, hz, he1, hq1⟩ := hs1
  have hpin := (J1.pin (h2.objs.size, PySem.W.kxs_mw "ValueError.__init__" a) (by simp)).1
  refine ⟨hpin, ?_⟩
  -- the initializer of ValueError, called
  obtain ⟨nm, q, N', bs, bm, sn, sub, ab, col, dd, k0, k1, k2', k3', k5, hC, hbm⟩ := SC.T.cls
  obtain ⟨t2, ho2⟩ := exo_at J1.hok he1
  have KJ : K.In s1.heap := J1.kIn
  have hlen : us2.length ≤ sizeLine := by rw [← Paired.length r1, sizeLine_eq]; omega
  obtain ⟨hp3, g3, d3, tk3, os3⟩ := s1
  refine wpAny_call (codeAny_of_tree ?_)
  show wpAny _ (A.deeper _).in1 (callAny (.ref h2.objs.size) ⟨us2, []⟩) _ _ _
  simp only [callAny]
  refine wpAny_bind (wpAny_load hpin ?_)
  simp only [PySem.W.kxs_mw, show (Value.type "method-wrapper" == Value.type "method" || Value.type "method-wrapper" == Value.type "builtin_function_or_method" || Value.type "method-wrapper" == Value.type "method-wrapper") = true by decide, if_true]
  refine PySem.W.KFB.if_so (by decide) ?_
  refine wpAny_bind (PySem.W.check_bound_init F.excBase_ValueError.toExcCallFacts (KJ _ _ hC) ho2 rfl ?_)
  refine wpAny_bind (wpAny_pure (wpAny_pure ?_))
  refine ⟨plainId_quiet F.excBase_ValueError.init.plain _, codeAny_builtin F.excBase_ValueError.initEntry ?_⟩
  refine PySem.W.exc_init_tree (cls := .ref C) (t0 := t2) (dv := none) (c2 := .none) (c3 := .none) (b4 := .bool false) ho2 hlen (fun h4 k4 e4 _ => ?_)
  have J2 := J1.write (h' := h4) (t' := tk3) (x := a) (e := a) (o := exo a C none) (by rw [he1]; exact True.intro) (.inl rfl) k4 ⟨_, e4⟩ (exo_ok e4)
  have eu : upd H1 a (exo a C none) = H1 := by
    funext b
    by_cases hb : b = a
    · rw [hb, upd_same, he1]
    · rw [upd_ne hb]
  rw [eu] at J2
  refine wpAt_of_wpAny (wpAny_mono (hps.run _ _ _ _ _ J2 hq1) (fun fl s' hs => ?_) fun e s' hs => hs)
  have fin : ∀ {σ' : L2.St} {H' : Hp} {v : V} {u : Value}, Inv (cxS CX P w K mg base N qual scope f (.ref cda) cc A outer s H E) [(h2.objs.size, PySem.W.kxs_mw "ValueError.__init__" a)] σ' H' s' → RelV v u → Q v H' → CE outer P w H s Q u s' :=
    fun {σ' H' v u} J rv q => ⟨v, H', J.os, J.bare, J.base, J.hok, rv, q⟩
  cases fl with
  | ret u =>
    obtain ⟨v, σ', H', J, rv, q⟩ := hs
    exact fin J rv q
  | next =>
    obtain ⟨σ', H', J, q⟩ := hs
    exact fin (v := V.non) (u := Value.none) J rfl q
  | brk =>
    obtain ⟨_, _, _, q⟩ := hs
    exact False.elim q
  | cont =>
    obtain ⟨_, _, _, q⟩ := hs
    exact False.elim q
end RA

set_option maxHeartbeats 4000000
/-! The initializers of own exceptions: super().__init__(..), then the fields by the parameters. -/
namespace RA
open PySem PySem.Spec PyProof.Rows L2

theorem zip_rev {α β : Type} : ∀ {l : List α} {r : List β}, l.length = r.length → (l.zip r).reverse = l.reverse.zip r.reverse
  | [], [], _ => rfl
  | [], _ :: _, h => by simp at h
  | _ :: _, [], h => by simp at h
  | a :: l, b :: r, h => by
    have h' : l.length = r.length := by simpa using h
    rw [List.zip_cons_cons, List.reverse_cons, List.reverse_cons, List.reverse_cons, zip_rev h', List.zip_append (by simp [h'])]
    rfl
/-- self.f = p, p at slot j -/
def IsSt (X : Cx) (q : Str × Nat) (st : Stmt) : Prop := ∃ (p : Str) (p1 p2 p3 p4 : Pos), st = .Assign [.Attribute (.Name "self" p1) q.1 p2] (.Name p p3) p4 ∧ X.N[q.2]? = some p ∧ Vis X.env.scope p ∧ (p == ("__debug__" : Str)) = false ∧ (p == ("__classdict__" : Str)) = false
def IsSts (X : Cx) : List (Str × Nat) → List Stmt → Prop
  | [], sts => sts = []
  | q :: L, sts => ∃ st r, sts = st :: r ∧ IsSt X q st ∧ IsSts X L r
/-- the values at their slots -/
def AtSl (σ : L2.St) : List (Str × Nat) → List V → Prop
  | [], ys => ys = []
  | q :: L, ys => ∃ y r, ys = y :: r ∧ σ[q.2]? = some (some y) ∧ AtSl σ L r
section
variable {X : Cx} {C : Addr}
theorem ps_one {q : Str × Nat} {st : Stmt} (h : IsSt X q st) (hN : X.N[0]? = some ("self" : Str)) (hv : Vis X.env.scope "self") : ∃ te to : TE, PS X st (tOst X.K q.1 to te) ∧ (∀ σ H Q y, σ[q.2]? = some (some y) → Q y H → te σ H Q) ∧ ∀ σ H Q y, σ[0]? = some (some y) → Q y H → to σ H Q := by
  obtain ⟨p, p1, p2, p3, p4, rfl, h1, h2, h3, h4⟩ := h
  exact ⟨_, _, ps_ost (pe_var (pos := p1) hN hv (by decide) (by decide)) (pe_var (pos := p3) h1 h2 h3 h4), fun σ H Q y a b => ⟨y, a, b⟩, fun σ H Q y a b => ⟨y, a, b⟩⟩
theorem ps_sts (T : OexC X.K C) (hN : X.N[0]? = some ("self" : Str)) (hv : Vis X.env.scope "self") : ∀ (L : List (Str × Nat)) (sts : List Stmt), IsSts X L sts → (∀ q ∈ L, PySem.W.findIn X.K (.ref C) q.1 = some none) →
    ∃ t, PSs X sts t ∧ ∀ (D : Ends) (σ : L2.St) (a dx : Addr) (fs : List (Str × V)) (ys : List V) (H : Hp), σ[0]? = some (some (.ref a)) → AtSl σ L ys → fs.length + L.length ≤ 900 → a ≠ dx → H a = some (exo a C (some dx)) → H dx = some (exd dx fs) →
      (∀ H', H' a = some (exo a C (some dx)) → H' dx = some (exd dx (((L.map (·.1)).zip ys).reverse ++ fs)) → (∀ b, b ≠ dx → H' b = H b) → D.nx σ H') → t D σ H
  | [], sts, h, hf => by
    rw [show sts = [] from h]
    exact ⟨_, pss_nil, fun D σ a dx fs ys H h0 hy hl hn ha hd k => k H ha (by rw [show ys = [] from hy]; exact hd) fun _ _ => rfl⟩
  | q :: L, sts, h, hf => by
    obtain ⟨st, r, rfl, h1, h2⟩ := h
    obtain ⟨t, ht, kt⟩ := ps_sts T hN hv L r h2 fun q hq => hf q (List.mem_cons_of_mem _ hq)
    obtain ⟨te, to, hs, ke, ko⟩ := ps_one h1 hN hv
    refine ⟨_, pss_cons hs ht, fun D σ a dx fs ys H h0 hy hl hn ha hd k => ?_⟩
    obtain ⟨y, rr, rfl, hy1, hy2⟩ := hy
    refine ke σ H _ y hy1 (ko σ H _ _ h0 ⟨a, C, rfl, T, hf q List.mem_cons_self, .inr ⟨dx, fs, ha, hd, by simp only [List.length_cons] at hl; omega, ?_⟩⟩)
    refine kt D σ a dx ((q.1, y) :: fs) rr _ h0 hy2 (by simp only [List.length_cons] at hl ⊢; omega) hn (by rw [upd_ne hn]; exact ha) upd_same fun H' g1 g2 g3 => k H' g1 ?_ fun b hb => by rw [g3 b hb, upd_ne hb]
    rw [g2, List.map_cons, List.zip_cons_cons, List.reverse_cons, List.append_assoc]
    rfl
/-- all the stores, from an exception without a dict -/
theorem ps_all (T : OexC X.K C) (hN : X.N[0]? = some ("self" : Str)) (hv : Vis X.env.scope "self") (L : List (Str × Nat)) (sts : List Stmt) (h : IsSts X L sts) (h0 : L ≠ []) (hf : ∀ q ∈ L, PySem.W.findIn X.K (.ref C) q.1 = some none) (hl : L.length ≤ 900) :
    ∃ t, PSs X sts t ∧ ∀ (D : Ends) (σ : L2.St) (a : Addr) (ys : List V) (H : Hp), σ[0]? = some (some (.ref a)) → AtSl σ L ys → H a = some (exo a C none) →
      (∀ d H', H d = none → d ≠ a → H' a = some (exo a C (some d)) → H' d = some (exd d ((L.map (·.1)).zip ys).reverse) → (∀ b o, b ≠ a → H b = some o → H' b = some o) → D.nx σ H') → t D σ H := by
  match L, h, h0, hf, hl with
  | q :: L, h, _, hf, hl =>
    obtain ⟨st, r, rfl, h1, h2⟩ := h
    obtain ⟨t, ht, kt⟩ := ps_sts T hN hv L r h2 fun q hq => hf q (List.mem_cons_of_mem _ hq)
    obtain ⟨te, to, hs, ke, ko⟩ := ps_one h1 hN hv
    refine ⟨_, pss_cons hs ht, fun D σ a ys H s0 hy ha k => ?_⟩
    obtain ⟨y, rr, rfl, hy1, hy2⟩ := hy
    refine ke σ H _ y hy1 (ko σ H _ _ s0 ⟨a, C, rfl, T, hf q List.mem_cons_self, .inl ⟨ha, fun dx hd hne => ?_⟩⟩)
    refine kt D σ a dx [(q.1, y)] rr _ s0 hy2 (by simp only [List.length_cons, List.length_nil] at hl ⊢; omega) (Ne.symm hne) upd_same (by rw [upd_ne hne, upd_same]) fun H' g1 g2 g3 => k dx H' hd hne g1 ?_ fun b o hb hbo => ?_
    · rw [g2, List.map_cons, List.zip_cons_cons, List.reverse_cons]
    · have hbd : b ≠ dx := ne_of_none hbo hd
      rw [g3 b hbd, upd_ne hb, upd_ne hbd]
      exact hbo
end

/-- slots for the arguments of super().__init__: numbers alone are read -/
def slK : List Bool → List V → List Sl
  | [], _ => []
  | b :: ks, us => (match us with
    | u :: r => (if b then (match u with | .int i => .va (.int i) | _ => .un) else .un) :: slK ks r
    | [] => .un :: slK ks [])
theorem slK_len : ∀ (ks : List Bool) (us : List V), (slK ks us).length = ks.length
  | [], _ => rfl
  | b :: ks, us => by cases us <;> simp [slK, slK_len]
theorem slK_at : ∀ {ks : List Bool} {us : List V} {i : Nat} {p : PV}, (slK ks us)[i]? = some (.va p) → ∃ j : Int, p = .int j ∧ us[i]? = some (.int j)
  | [], _, _, _, h => by simp [slK] at h
  | b :: ks, [], 0, p, h => by simp [slK] at h
  | b :: ks, [], i + 1, p, h => by
    obtain ⟨j, _, z⟩ := slK_at (ks := ks) (us := []) (i := i) (by simpa [slK] using h)
    simp at z
  | b :: ks, u :: us, 0, p, h => by
    simp only [slK, List.getElem?_cons_zero, Option.some.injEq] at h
    split at h
    · split at h
      · cases h; exact ⟨_, rfl, rfl⟩
      · cases h
    · cases h
  | b :: ks, u :: us, i + 1, p, h => by
    obtain ⟨j, e, z⟩ := slK_at (ks := ks) (us := us) (i := i) (by simpa [slK] using h)
    exact ⟨j, e, by simpa using z⟩
theorem slK_no : ∀ {ks : List Bool} {us : List V} {i : Nat} {s : Sl}, (slK ks us)[i]? = some s → (∃ p, s = .va p) ∨ s = .un
  | [], _, _, _, h => by simp [slK] at h
  | b :: ks, [], 0, s, h => by simp [slK] at h; exact .inr h.symm
  | b :: ks, [], i + 1, s, h => slK_no (ks := ks) (us := []) (i := i) (by simpa [slK] using h)
  | b :: ks, u :: us, 0, s, h => by
    simp only [slK, List.getElem?_cons_zero, Option.some.injEq] at h
    split at h
    · split at h
      · exact .inl ⟨_, h.symm⟩
      · exact .inr h.symm
    · exact .inr h.symm
  | b :: ks, u :: us, i + 1, s, h => slK_no (ks := ks) (us := us) (i := i) (by simpa [slK] using h)

/-- THE RULE: the initializer of an own exception -/
theorem xi_fn {P : Program} {w : World} {K : PySem.W.Frag} {mg : Str → Option Value} {base : Heap} {T : Tb} {c : Nat} {C f cc D : Addr} {name qual : Str} {params : Arguments} {e : Expr} {es : List Expr} {rest : List Stmt} {p0 p1 p2 p3 p4 : Pos} {scope : Scope} {dV kV doc pm cdv ct oc : Value} {an od : Option Addr}
    {osl : Array (Option Value)} {N ps : List Str} {ar : Arg} {ks : List Bool} {sup : Exs} {L : List (Str × Nat)}
    (lk : K.lookup f = some ⟨oc, od, .func (PySem.W.ksFn name qual params (.Expr (.Call (.Attribute (.Call (.Name "super" p0) [] [] p1) "__init__" p2) (e :: es) [] p3) p4 :: rest) scope dV kV doc pm an cdv ct cc), osl⟩)
    (hcd : PySem.W.codeIn K cdv qual = true) (S : SupScope N ps scope) (hp : (params.posonlyargs ++ params.args).head? = some ar) (har : ps.head? = some ar.arg) (SK : SupK P K mg cdv cc D) (SC : SupC K D C)
    (hT : T.K = K) (hblt : ∀ x ∈ bNames, mg x = none)
    (hself : ps[0]? = some ("self" : Str)) (hps : ps.length = ks.length + 1) (hNs : N.length = ps.length)
    (hL : L.map (·.2) = (List.range ks.length).map (· + 1)) (hfl : T.fld c = (L.map (·.1)).reverse) (h0 : L ≠ []) (hl9 : L.length ≤ 900) (hf : ∀ q ∈ L, PySem.W.findIn K (.ref C) q.1 = some none)
    (hst : ∀ A outer s H E, IsSts (cxS (L2N.CX P w) P w K mg base N qual scope f cdv cc A outer s H E) L rest)
    (hck : ckEs (⟨N, [], [], [], [], [], [], [], [], false, [], []⟩ : Ck) scope (fun _ => false) sup (e :: es) = true)
    (hev : ∀ us : List V, okV ks us → ∃ ws, evs [] (fun _ _ _ => .stk) sup (.un :: slK ks us) [] = .ok ws (.un :: slK ks us) [] ∧ ws.length ≤ 1000)
    (hse : ∀ env, starEach (e :: es) env = (false, eval e env) :: starEach es env) (hpl : ∀ (pos : Pos) (env : Env), (backTo pos (starEach es env)).any (·.1) = false)
    (pl : Env → Sem Bool) (hevl : ∀ env, eval (.Call (.Attribute (.Call (.Name "super" p0) [] [] p1) "__init__" p2) (e :: es) [] p3) env = (do
      let ov ← attributeBase (.Call (.Name "super" p0) [] [] p1) "__init__" env (eval (.Call (.Name "super" p0) [] [] p1) env)
      standAt p2.atName
      let (f, first) ← holding [ov] (getMethod ov "__init__" (pl env))
      callWith p3 f first (backTo p3 (starEach (e :: es) env)) [])) :
    FnOk P w K mg base (L2N.CX P w) 1 f (PySem.W.ksFn name qual params (.Expr (.Call (.Attribute (.Call (.Name "super" p0) [] [] p1) "__init__" p2) (e :: es) [] p3) p4 :: rest) scope dV kV doc pm an cdv ct cc) ps (spX T c C (okV ks)) := by
  have hLl : L.length = ks.length := by
    have := congrArg List.length hL
    simpa using this
  refine super_fn lk hcd S hp har SK (fun vs H Q E h => ?_) (fun A outer s H vs Q E hr h => ?_) hse hpl pl hevl
  · obtain ⟨a, us, rfl, h1, h2, _⟩ := h
    rw [List.length_cons, okV_len h2, hps]
  · obtain ⟨a, us, rfl, h1, h2, h3, h4⟩ := h
    let S0 : Gs := ⟨{ T with xs := [], nx := 0, fa := fun _ => none }, fun _ => .none, [], fun _ _ _ => .stk, 0⟩
    have hNn : N = ps := by rw [← S.pre, ← hNs, List.take_length]
    have x0 : XOk S0 ⟨N, [], [], [], [], [], [], [], [], false, [], []⟩ scope (fun _ => false) (cxS (L2N.CX P w) P w K mg base N qual scope f cdv cc A outer s H E) := by
      refine ⟨hT, rfl, rfl, rfl, S.nd, fun _ => rfl, (fun h => Bool.noConfusion h), L2H.roomH_of hr, (fun _ _ h => by simp at h), fun _ => hr, by have := hr.un; show (A.deeper (PySem.W.ksEnv qual scope s.heap.objs.size f cdv cc)).units + 66 < cLine; omega, fun g x h => by simp at h, fun g x h => by simp at h, fun _ j b h => ?_, fun _ j c n h => by simp at h,
        fun c x h => by simp at h, fun c x h => by simp at h, fun j c n h => by simp at h, fun c x ks h => by simp at h, fun c c' h => by simp at h, fun c ns h => by simp at h, rfl, fun k y tb h => by simp at h, fun _ => rfl, (fun p h => by cases h), hblt⟩
      cases h
    obtain ⟨ws, he, hw⟩ := hev us h2
    have len : (L2.start N (.ref a :: us)).length = ks.length + 1 := by
      unfold L2.start
      simp only [List.length_append, List.length_map, List.length_cons, List.length_replicate]
      rw [okV_len h2]
      omega
    have slot : ∀ i, i < us.length + 1 → (L2.start N (.ref a :: us))[i]? = ((V.ref a :: us)[i]?).map some := fun i hi => by
      unfold L2.start
      rw [List.getElem?_append_left (by simpa using hi), List.getElem?_map]
    have ul := okV_len h2
    let w0 : Wd := ⟨H, [], fun _ => False, fun _ => False, []⟩
    have ok0 : WOk w0 := ⟨fun _ h => h, fun _ h => h.elim⟩
    have F0 : FRel S0.T w0 (L2.start N (.ref a :: us)) (.un :: slK ks us) [] := by
      refine ⟨ok0, by rw [List.length_cons, slK_len, len], fun i p hi => ?_, fun i p hi => ?_, fun i j p q a hi => ?_, ⟨rfl, (fun n c a h => by simp at h), (fun n n' a h => by have h : ([] : List Addr)[n]? = some a := h; simp at h)⟩, fun i c fs hi => ?_⟩
      · cases i with
        | zero => simp at hi
        | succ i =>
          obtain ⟨j, rfl, hj⟩ := slK_at (by simpa using hi)
          refine ⟨.int j, ?_, by simp only [RepV]⟩
          have hlt := (List.getElem?_eq_some_iff.mp hj).1
          rw [slot (i + 1) (by omega), List.getElem?_cons_succ, hj]
          rfl
      · cases i with
        | zero => simp at hi
        | succ i => rcases slK_no (by simpa using hi) with ⟨_, e⟩ | e <;> cases e
      · cases i with
        | zero => simp at hi
        | succ i => rcases slK_no (by simpa using hi) with ⟨_, e⟩ | e <;> cases e
      · cases i with
        | zero => simp at hi
        | succ i => rcases slK_no (by simpa using hi) with ⟨_, e⟩ | e <;> cases e
    have hv : Vis scope "self" := .inl (S.par _ (List.mem_of_getElem? hself))
    obtain ⟨t, ht, kt⟩ := ps_all (X := cxS (L2N.CX P w) P w K mg base N qual scope f cdv cc A outer s H E) SC.T (by show N[0]? = _; rw [hNn]; exact hself) hv L rest (hst A outer s H E) h0 hf hl9
    refine ⟨_, t, a, C, s_exs sup x0 takesW0 (e :: es) hck, ht, rfl, SC, h3, w0, _, [], rfl, F0, ?_⟩
    show Pst S0.T S0.C W0 (L2.start N (.ref a :: us)) w0 (evs [] (fun _ _ _ => .stk) sup (.un :: slK ks us) []) _
    rw [he]
    intro w' ex F' vs' rv
    have hH : ∀ b o, H b = some o → w'.H b = some o := fun b o hb => ex.keep b o hb fun z => z
    refine ⟨by rw [← rv.len]; exact hw, hH _ _ h3, kt _ _ a us w'.H ?_ ?_ (hH _ _ h3) fun d H' hd hne g1 g2 g3 => h4 d H' ?_ hne g1 ?_ fun b o hb hbo => g3 b o hb (hH b o hbo)⟩
    · rw [slot 0 (by omega)]; rfl
    · have : ∀ (L : List (Str × Nat)) (n : Nat) (us' : List V), L.map (·.2) = (List.range' n L.length) → us'.length = L.length → (∀ i, i < us'.length → (L2.start N (.ref a :: us))[n + i]? = (us'[i]?).map some) → AtSl (L2.start N (.ref a :: us)) L us' := by
        intro L
        induction L with
        | nil => intro n us' _ hl _; exact List.length_eq_zero_iff.mp (by simpa using hl)
        | cons q L ih =>
          intro n us' hm hl hs
          cases us' with
          | nil => simp at hl
          | cons u us' =>
            rw [List.length_cons, List.range'_succ, List.map_cons, List.cons.injEq] at hm
            refine ⟨u, us', rfl, ?_, ih (n + 1) us' hm.2 (by simpa using hl) fun i hi => ?_⟩
            · have := hs 0 (by simp)
              rw [hm.1]
              simpa using this
            · have := hs (i + 1) (by simpa using hi)
              rw [show n + 1 + i = n + (i + 1) by omega]
              simpa using this
      refine this L 1 us (by rw [hL, hLl]; apply List.ext_getElem <;> simp; intro n h1; omega) (by rw [ul, hLl]) fun i hi => ?_
      rw [slot (1 + i) (by omega), show 1 + i = i + 1 by omega, List.getElem?_cons_succ]
    · cases e : H d with
      | none => rfl
      | some o => rw [hH d o e] at hd; cases hd
    · rw [hfl, ← zip_rev (by rw [List.length_map, hLl, ul])]
      exact g2
end RA

/-! What a head must show, piece by piece. -/
namespace RA
open PySem L2
def nsA (K : PySem.W.Frag) (x : Str) : Option Addr := match PySem.W.nsIn K mainGlobals x with | some (some (.ref a)) => some a | _ => none
theorem nsA_of {K : PySem.W.Frag} {x : Str} {a : Addr} (h : PySem.W.nsIn K mainGlobals x = some (some (.ref a))) : nsA K x = some a := by unfold nsA; rw [h]
/-- the tables of a text, from its written part -/
def ctb (Is : List FI) (tx : Tx) (K : PySem.W.Frag) : Tb := ⟨K, fun c => (tx.xfl[c]?).getD [], fun f => (Is[f]?).bind fun I => I.gn.bind (nsA K), fun _ => 0, fun _ => [], [], tx.xcn.length, fun c => match tx.xcn[c]? with | some q => (nsA K q.1).getD 0 | none => 0⟩
def ccl (Is : List FI) (tx : Tx) (K : PySem.W.Frag) (c : Nat) : Value := .ref ((ctb Is tx K).xca c)
theorem fok_mk {K : PySem.W.Frag} {h : Heap} {mg : Str → Option Value} {Is : List FI} {tx : Tx} {I : FI} {j : Nat} {gx : Str} {f : Addr} {od an : Option Addr} {sl : Array (Option Value)} {oc kV dc pm cd ct : Value} (X : K.In h) (G : h.Ns mainGlobals mg) (hj : Is[j]? = some I) (hg : I.gn = some gx)
    (a : PySem.W.nsIn K mainGlobals gx = some (some (.ref f))) (l : K.lookup f = some ⟨oc, od, .func (PySem.W.fnOf I.name I.name (defArgs I.st) (defBody I.st) (defScope I.st) .none kV dc pm an cd ct), sl⟩) (c : PySem.W.codeIn K cd I.name = true) (k : PySem.W.keepIn K (.ref f) = true)
    (b : ∀ (kV doc pm : Value) (an : Option Addr) (cdv ct : Value) (us : List Value), us.length = I.ps.length → bindArgs (PySem.W.fnOf I.name I.name (defArgs I.st) (defBody I.st) (defScope I.st) .none kV doc pm an cdv ct) ⟨us, []⟩ = pure (I.ps.zip us)) : ∃ a fd, FOk K mg a fd I ∧ (ctb Is tx K).fa j = some a :=
  ⟨f, _, ⟨fun_mk l c k, fun x hx => by rw [hg] at hx; cases hx; exact PySem.W.mg_of X G a, (fun_mk l c k).binds b⟩, by
    show ((Is[j]?).bind fun I => I.gn.bind (nsA K)) = some f
    rw [hj, Option.bind_some, hg, Option.bind_some, nsA_of a]⟩
theorem fa_lt {K : PySem.W.Frag} {Is : List FI} {tx : Tx} {j : Nat} {a : Addr} (h : (ctb Is tx K).fa j = some a) : j < Is.length := by
  have h : ((Is[j]?).bind fun I => I.gn.bind (nsA K)) = some a := h
  cases e : Is[j]? with
  | none => rw [e] at h; cases h
  | some I => exact (List.getElem?_eq_some_iff.mp e).1
theorem gInt {K : PySem.W.Frag} {h : Heap} {mg : Str → Option Value} {T : Tb} {x : Str} {i : Int} {t : Tok} (X : K.In h) (G : h.Ns mainGlobals mg) (a : PySem.W.nsIn K mainGlobals x = some (some (.int i t))) :
    ∃ u v, mg x = some u ∧ RelV v u ∧ ∀ w, WOk w → RepV T w (.int i) v := ⟨_, .int i, PySem.W.mg_of X G a, ⟨t, rfl⟩, fun w _ => by simp only [RepV]⟩
theorem gStr {K : PySem.W.Frag} {h : Heap} {mg : Str → Option Value} {T : Tb} {x : Str} {y : List Nat} {s : Str} {t : Tok} (X : K.In h) (G : h.Ns mainGlobals mg) (a : PySem.W.nsIn K mainGlobals x = some (some (.str s t))) (e : s.cps.toList = y) (hl : y.length ≤ SZ) :
    ∃ u v, mg x = some u ∧ RelV v u ∧ ∀ w, WOk w → RepV T w (.str y) v := ⟨_, .str s, PySem.W.mg_of X G a, ⟨t, rfl⟩, fun w _ => by
      subst e
      simp only [RepV]
      exact ⟨by simp, hl⟩⟩
theorem strs_rep {T : Tb} {w : Wd} : ∀ (ys : List (List Nat)), (∀ y ∈ ys, y.length ≤ SZ) → Reps T w (ys.map PV.str) (ys.map fun y => V.str ⟨y.toArray⟩)
  | [], _ => by simp [Reps]
  | y :: ys, h => by
    simp only [List.map_cons, Reps, RepV]
    exact ⟨_, _, rfl, ⟨rfl, h y List.mem_cons_self⟩, strs_rep ys fun z hz => h z (List.mem_cons_of_mem _ hz)⟩
theorem gTup {K : PySem.W.Frag} {h : Heap} {mg : Str → Option Value} {T : Tb} {x : Str} {ys : List (List Nat)} {a : Addr} {its : Array Value} {n : Nat} {sl : Array (Option Value)} (hT : T.K = K) (X : K.In h) (G : h.Ns mainGlobals mg) (e : PySem.W.nsIn K mainGlobals x = some (some (.ref a))) (l : K.lookup a = some ⟨.type "tuple", none, .seq its n, sl⟩)
    (r : Vals (ys.map fun y => V.str ⟨y.toArray⟩) its.toList) (z : its.size ≤ sizeLine) (hl : ∀ y ∈ ys, y.length ≤ SZ) :
    ∃ u v, mg x = some u ∧ RelV v u ∧ ∀ w, WOk w → RepV T w (.tup (ys.map PV.str)) v := ⟨_, .ref a, PySem.W.mg_of X G e, rfl, fun w _ => by
      simp only [RepV]
      exact ⟨a, _, rfl, .inr ⟨_, its, n, by rw [hT]; exact l, rfl, rfl, rfl, z, r⟩, strs_rep ys hl⟩⟩
/-- flat constants -/
def flatV : PV → V
  | .int i => .int i
  | .str x => .str ⟨x.toArray⟩
  | .bl b => .bl b
  | _ => .non
def flatOk : PV → Bool
  | .int _ => true
  | .str x => Nat.ble x.length SZ
  | .bl _ => true
  | .non => true
  | _ => false
theorem mixv_rep {T : Tb} {w : Wd} : ∀ (ps : List PV), ps.all flatOk = true → Reps T w ps (ps.map flatV)
  | [], _ => by simp only [Reps, List.map_nil]
  | p :: ps, h => by
    simp only [List.all_cons, Bool.and_eq_true] at h
    simp only [List.map_cons, Reps]
    refine ⟨flatV p, _, rfl, ?_, mixv_rep ps h.2⟩
    have h1 := h.1
    cases p <;> simp only [flatOk, Bool.false_eq_true] at h1 <;> simp only [RepV, flatV]
    exact ⟨trivial, Nat.le_of_ble_eq_true h1⟩
theorem gTupM {K : PySem.W.Frag} {h : Heap} {mg : Str → Option Value} {T : Tb} {x : Str} {ps : List PV} {a : Addr} {its : Array Value} {n : Nat} {sl : Array (Option Value)} (hT : T.K = K) (X : K.In h) (G : h.Ns mainGlobals mg) (e : PySem.W.nsIn K mainGlobals x = some (some (.ref a))) (l : K.lookup a = some ⟨.type "tuple", none, .seq its n, sl⟩)
    (r : Vals (ps.map flatV) its.toList) (z : its.size ≤ sizeLine) (hl : ps.all flatOk = true) :
    ∃ u v, mg x = some u ∧ RelV v u ∧ ∀ w, WOk w → RepV T w (.tup ps) v := ⟨_, .ref a, PySem.W.mg_of X G e, rfl, fun w _ => by
      simp only [RepV]
      exact ⟨a, _, rfl, .inr ⟨_, its, n, by rw [hT]; exact l, rfl, rfl, rfl, z, r⟩, mixv_rep ps hl⟩⟩
theorem str_of {s : Str} {x : List Nat} {t : Tok} (h : s.cps.toList = x) : (.str s t : Value) = .str ⟨x.toArray⟩ t := by subst h; simp
/-- an own exception class -/
theorem xc_mk {P : Program} {w : World} {K : PySem.W.Frag} {h : Heap} {mg : Str → Option Value} {T : Tb} {Cl : Nat → Value} {c : Nat} {x qual : Str} {ks : List Bool} {C f cc cda : Addr} {st : Stmt} {e : Expr} {es : List Expr} {rest : List Stmt} {p0 p1 p2 p3 p4 : Pos} {N ps : List Str} {ar : Arg} {sup : Exs} {L : List (Str × Nat)}
    {nm qn : Str} {Nn : Addr} {bs bm : List Value} {sn : List Str} {sb : List Value} {ab : Bool} {col : Option Bool} {dd : Option Addr} {k0 k1 k2 k3 k5 : Option Value} {oc kV doc pm ct ccl' cl : Value} {od an cdd cld : Option Addr} {osl ccs csl : Array (Option Value)} {vs : Array Value} {file : Str} {tf : Tok} {cdD : ClassData}
    (X : K.In h) (G : h.Ns mainGlobals mg) (hT : T.K = K) (hblt : ∀ y ∈ bNames, mg y = none)
    (a : PySem.W.nsIn K mainGlobals x = some (some (.ref C)))
    (l : K.lookup C = some (excClassObj nm qn C Nn bs bm true sn sb ab col dd k0 k1 k2 k3 k5 "ValueError.__new__")) (rb : PySem.HandSPX.refsVE bm = true)
    (sa : PySem.W.findIn K (.ref C) "__setattr__" = some (some (.builtin "object.__setattr__"))) (ex : PySem.W.subIn K (.ref C) (.type "BaseException") = some true) (ty : PySem.W.typeIn K (.ref C) = some (.type "type")) (kp : PySem.W.keepIn K (.ref C) = true)
    (ia : PySem.W.findIn K (.ref C) "__init__" = some (some (.ref f))) (it : PySem.W.typeIn K (.ref f) = some (.type "function"))
    (il : K.lookup f = some ⟨oc, od, .func (PySem.W.ksFn "__init__" qual (defArgs st) (defBody st) (defScope st) .none kV doc pm an (.ref cda) ct cc), osl⟩) (ic : PySem.W.codeIn K (.ref cda) qual = true)
    (dl : K.lookup cda = some ⟨ccl', cdd, .fields vs, ccs⟩) (dv : vs[2]? = some (.str file tf)) (df : ((P.main.file : Str) == file) = true)
    (cel : K.lookup cc = some ⟨cl, cld, .cell (some (.ref C)), csl⟩) (hD : PySem.W.clsIn K C = some cdD) (sg : PySem.W.nsIn K mainGlobals "super" = some none) (tp : (P.main.scope.names.lookup ("super" : Str)).isSome = false) (nt : PySem.W.nsIn K cStatics "thirdparty.any" = some none)
    (sub : PySem.W.mroIn K C (.ref C) = some true) (su : PySem.W.ks_superIn K C C "__init__" = some (some (.builtin "ValueError.__init__"))) (ve : PySem.W.subIn K (.ref C) (.type "ValueError") = some true)
    (ga : PySem.W.findIn K (.ref C) "__getattribute__" = some (some (.builtin "BaseException.__getattribute__"))) (gg : PySem.W.findIn K (.ref C) "__getattr__" = some none) (hd : PySem.W.hasDictIn K C = true)
    (ca : PySem.W.findIn K (.ref C) "__class__" = some (some (.builtin "object.__class__"))) (cn : PySem.W.specialIn K (.builtin "object.__class__") "__get__" = some (some (.builtin "getset_descriptor.__get__"))) (ctk : PySem.W.takesIn K (.builtin "object.__class__") = some true) (cm : PySem.W.mroIn K C (.type "object") = some true)
    (fn : ∀ q ∈ L, PySem.W.findIn K (.ref C) q.1 = some none)
    (body : defBody st = .Expr (.Call (.Attribute (.Call (.Name "super" p0) [] [] p1) "__init__" p2) (e :: es) [] p3) p4 :: rest)
    (S : SupScope N ps (defScope st)) (hp : ((defArgs st).posonlyargs ++ (defArgs st).args).head? = some ar) (har : ps.head? = some ar.arg) (hself : ps[0]? = some ("self" : Str)) (hps : ps.length = ks.length + 1) (hNs : N.length = ps.length)
    (hL : L.map (·.2) = (List.range ks.length).map (· + 1)) (hfl : T.fld c = (L.map (·.1)).reverse) (h0 : L ≠ []) (hl9 : L.length ≤ 900) (hnd : (L.map (·.1)).reverse.Nodup)
    (hst : ∀ base A outer s H E, IsSts (cxS (L2N.CX P w) P w K mg base N qual (defScope st) f (.ref cda) cc A outer s H E) L rest)
    (hck : ckEs (⟨N, [], [], [], [], [], [], [], [], false, [], []⟩ : Ck) (defScope st) (fun _ => false) sup (e :: es) = true)
    (hev : ∀ us : List V, okV ks us → ∃ ws, evs [] (fun _ _ _ => .stk) sup (.un :: slK ks us) [] = .ok ws (.un :: slK ks us) [] ∧ ws.length ≤ 1000)
    (hse : ∀ env, starEach (e :: es) env = (false, eval e env) :: starEach es env) (hpl : ∀ (pos : Pos) (env : Env), (backTo pos (starEach es env)).any (·.1) = false)
    (pl : Env → Sem Bool) (hevl : ∀ env, eval (.Call (.Attribute (.Call (.Name "super" p0) [] [] p1) "__init__" p2) (e :: es) [] p3) env = (do
      let ov ← attributeBase (.Call (.Name "super" p0) [] [] p1) "__init__" env (eval (.Call (.Name "super" p0) [] [] p1) env)
      standAt p2.atName
      let (f, first) ← holding [ov] (getMethod ov "__init__" (pl env))
      callWith p3 f first (backTo p3 (starEach (e :: es) env)) []))
    (hbind : ∀ (kV doc pm : Value) (an : Option Addr) (cdv ct : Value) (cc : Addr) (us : List Value), us.length = ps.length → bindArgs (PySem.W.ksFn "__init__" qual (defArgs st) (defBody st) (defScope st) .none kV doc pm an cdv ct cc) ⟨us, []⟩ = pure (ps.zip us))
    (hx : T.xca c = C) (hcl : Cl c = .ref C) : XcAt P w K mg T Cl c x ks := by
  have T1 : OexC K C := ⟨⟨nm, qn, Nn, bs, bm, sn, sb, ab, col, dd, k0, k1, k2, k3, k5, l, rb⟩, sa, ex, ty, kp⟩
  have hLl : L.length = ks.length := by simpa using congrArg List.length hL
  refine ⟨C, f, _, ps, hcl, PySem.W.mg_of X G a, T1, ia, it, fun base => ?_, .all (hbind kV doc pm an (.ref cda) ct cc), ⟨ga, gg, ex, hd⟩, fun n hn => ?_, by rw [hfl]; exact hnd, by rw [hfl, List.length_reverse, List.length_map, hLl], by rw [← hLl]; exact hl9, hx, ⟨by rw [hD]; rfl, ca, cn, ctk, cm⟩⟩
  · rw [body] at il ⊢
    exact xi_fn il ic S hp har ⟨⟨_, _, _, _, _, _, _, rfl, dl, dv, df⟩, ⟨_, _, _, cel⟩, ⟨_, hD⟩, PySem.W.mg_none_of X G sg, tp, nt⟩ ⟨T1, sub, su, ve⟩ hT hblt hself hps hNs hL hfl h0 hl9 fn (hst base) hck hev hse hpl pl hevl
  · rw [hfl, List.mem_reverse, List.mem_map] at hn
    obtain ⟨q, hq, rfl⟩ := hn
    exact fn q hq
theorem decN_len : ∀ (f n : Nat), (decN f n).length ≤ f
  | 0, n => by simp [decN]
  | f + 1, n => by
    unfold decN
    split
    · simp
    · rw [List.length_append]
      have := decN_len f (n / 10)
      simp; omega
/-- the text of a place -/
theorem sup_line {A B : List Nat} (hA : A.length ≤ 100) (hB : B.length ≤ 100) {us : List V} (h : okV [true, true] us) : ∃ ws, evs [] (fun _ _ _ => .stk) (.cons (.op .add (.op .add (.op .add (.str A) (.bi .str (.cons (.loc 1) .nil))) (.str B)) (.bi .str (.cons (.loc 2) .nil))) .nil) (.un :: slK [true, true] us) [] = .ok ws (.un :: slK [true, true] us) [] ∧ ws.length ≤ 1000 := by
  obtain ⟨x, r, rfl, h1, y, r', rfl, h2, h3⟩ := h
  obtain ⟨i, rfl, i1, i2⟩ := h1 rfl
  obtain ⟨j, rfl, j1, j2⟩ := h2 rfl
  rw [show r' = [] from h3]
  have a1 := decN_len 200 i.toNat
  have a2 := decN_len 200 j.toNat
  have s1 : op2 .add (.str A) (.str (decN 200 i.toNat)) = some (.str (A ++ decN 200 i.toNat)) := by
    show (if A.length + (decN 200 i.toNat).length ≤ SZ then _ else _) = _
    rw [if_pos (by show _ ≤ 16777216; omega)]
  have s2 : op2 .add (.str (A ++ decN 200 i.toNat)) (.str B) = some (.str (A ++ decN 200 i.toNat ++ B)) := by
    show (if (A ++ decN 200 i.toNat).length + B.length ≤ SZ then _ else _) = _
    rw [if_pos (by rw [List.length_append]; show _ ≤ 16777216; omega)]
  have s3 : op2 .add (.str (A ++ decN 200 i.toNat ++ B)) (.str (decN 200 j.toNat)) = some (.str (A ++ decN 200 i.toNat ++ B ++ decN 200 j.toNat)) := by
    show (if (A ++ decN 200 i.toNat ++ B).length + (decN 200 j.toNat).length ≤ SZ then _ else _) = _
    rw [if_pos (by rw [List.length_append, List.length_append]; show _ ≤ 16777216; omega)]
  have b1 : bi .str [.int i] = some (.str (decN 200 i.toNat)) := by
    show (if 0 ≤ i ∧ i.toNat < 10 ^ 200 then _ else _) = _
    rw [if_pos ⟨i1, i2⟩]
  have b2 : bi .str [.int j] = some (.str (decN 200 j.toNat)) := by
    show (if 0 ≤ j ∧ j.toNat < 10 ^ 200 then _ else _) = _
    rw [if_pos ⟨j1, j2⟩]
  refine ⟨[.str (A ++ decN 200 i.toNat ++ B ++ decN 200 j.toNat)], ?_, by simp⟩
  simp only [evs, ev, slK, if_true, getS, List.getElem?_cons_succ, List.getElem?_cons_zero, Res.bnd, b1, b2, lift, s1, s2, s3]
/-- the law's walk -/
theorem law_walk {l : PySem.W.OpenLaw} {q : Program} {loose : List Str} {XP : (Str → Option Value) → Heap → Prop} {YP : World → Heap → Prop} {d : DefRec} {K : Params → PySem.W.Frag} {Is : List FI} {tx : Tx} {gv : List PV} {n : Nat} {I : FI} (hI : Is[n]? = some I) (hIg : I.gn = some "law")
    (hn : l.most = some 63) (hdf : d.params.defaults = []) (hdn : d.name = "law")
    (hY : ∀ (w : World) (h : Heap), YP w h → (K w.params).In h)
    (F : ∀ (w : World) (mg : Str → Option Value) (fa : Addr) (h : Heap), (K w.params).In h → h.Ns mainGlobals mg → mg d.name = some (.ref fa) → PgOk l.prog w (K w.params) mg (ctb Is tx (K w.params)) (ccl Is tx (K w.params)) gv Is tx)
    (hps : I.ps = [("script" : Str)])
    (hbind : ∀ (w : World) (s : Shared) (v : Value) {a : Addr} (fd : FuncData), L2.Fun (K w.params) I.name I.name I.st a fd → BindsTo s fd ⟨[v], []⟩ [("script", v)])
    (hlaw : ∀ ns : List Int, ns.length ≤ 63 → ∃ m, callN gv (Is.map FI.fn) 60 n [.fro ns] [] = .ok (.bl true) m) :
    PySem.W.WalkO q loose XP YP l.row.toRowW d [] (fun f vs => PySem.call f vs) := by
  refine L2.walk_of (n := 63) (k := 121) (x := "script") (CX := fun w => L2N.CX l.prog w) (sp := fun w => spF ⟨ctb Is tx (K w.params), ccl Is tx (K w.params), gv, callN gv (Is.map FI.fn) 60, 122⟩ n) hn (by decide) hdf ⟨rfl, by decide, by decide⟩ hY (fun w mg fa h KX G hm => ?_) (fun w H a ns hl _ hS => law_sp hlaw hl hS) fun _ _ _ _ _ z => cx_none z
  have O := F w mg fa h KX G hm
  obtain ⟨a, fd, hO, _⟩ := O.fns n I hI
  have e : fa = a := by
    have h1 := hO.m "law" hIg
    have h2 : mg "law" = some (.ref fa) := by rw [← hm, hdn]; all_goals rfl
    rw [h2] at h1
    cases h1
    rfl
  subst e
  have hb := hO.F
  obtain ⟨oc, od, kV, doc, pm, an, cdv, ct, osl, hfd, hlk, hcd⟩ := hb.ex
  have hbd := hO.b
  refine ⟨fd, fun s v => ?_, fun base _ _ => ?_⟩
  · exact hbind w s v fd hO.F
  · have := fn_all (base := base) (P := l.prog) (w := w) O 60 n I fa fd hI hO
    rw [hps] at this
    exact this
end RA

namespace RA
open PySem L2
def top (i : Nat) : Stmt := PySem.Challenge.pw_readagain_k02_taken_formats.main.body.getD i (.Pass ⟨0, 0, 0, 0⟩)
/-- the k-th statement of the class there -/
def inn (i k : Nat) : Stmt := match top i with
  | .ClassDef _ _ _ b _ _ _ _ _ _ _ => b.getD k (.Pass ⟨0, 0, 0, 0⟩)
  | _ => .Pass ⟨0, 0, 0, 0⟩
/-- the constants -/
def gn : List Str := ["SIGNS", "FIGURES", "MOST_BASE", "MOST_POWER_BASE", "MOST_LEAST", "MOST_SHORT", "MOST_TEXT", "MOST_WIDTH", "MOST_IN_ROW", "MOST_DEEP", "MOST_FORMATS", "WRITTEN", "SIDES", "MOST_MODULUS", "PLAIN_FIGURES"]
def gv : List PV := [(.str [32, 33, 34, 35, 36, 38, 39, 40, 41, 42, 43, 44, 45, 46, 47, 48, 49, 50, 51, 52, 53, 54, 55, 56, 57, 58, 59, 60, 61, 62, 63, 64, 65, 66, 67, 68, 69, 70, 71, 72, 73, 74, 75, 76, 77, 78, 79, 80, 81, 82, 83, 84, 85, 86, 87, 88, 89, 90, 91, 92, 93, 94, 95, 96, 97, 98, 99, 100, 101, 102, 103, 104, 105, 106, 107, 108, 109, 110, 111, 112, 113, 114, 115, 116, 117, 118, 119, 120, 121, 122, 123, 124, 125, 126]), (.str [48, 49, 50, 51, 52, 53, 54, 55, 56, 57, 97, 98, 99, 100, 101, 102]), (.int 16), (.int 10), (.int 12), (.int 4), (.int 8), (.int 8), (.int 13), (.int 7), (.int 32), (.tup [(.str [45]), (.str [43]), (.str [32])]), (.tup [(.str [60]), (.str [62]), (.str [94])]), (.int 16), (.tup [(.str [102, 105, 103, 117, 114, 101, 115]), (.int 10), (.str [45]), (.int 1), (.int 0), (.str []), (.str [])])]
/-- is_whole -/
def b_is_whole : Sms :=
      (.cons 
      (.ret (.and (.isi .int (.loc 0)) (.nt (.isi .bool (.loc 0))))) .nil)
def f_is_whole : FI := ⟨"is_whole", some "is_whole", none, top 6, ["thing"], ["thing"], ⟨1, 1, b_is_whole⟩⟩
/-- is_from -/
def b_is_from : Sms :=
      (.cons 
      (.ret (.and (.call 0 (.cons (.loc 0) .nil)) (.chn .le .le (.loc 1) (.loc 0) (.loc 2)))) .nil)
def f_is_from : FI := ⟨"is_from", some "is_from", none, top 7, ["thing", "least", "most"], ["thing", "least", "most"], ⟨3, 3, b_is_from⟩⟩
/-- is_text -/
def b_is_text : Sms :=
      (.cons 
      (.ret (.and (.isi .str (.loc 0)) (.and (.cmp .le (.bi .len (.cons (.loc 0) .nil)) (.loc 1)) (.bi .all (.cons (.lc [2] (.cmp .inn (.loc 2) (.glo 0)) (.nm 2) (.val (.loc 0)) .nil) .nil))))) .nil)
def f_is_text : FI := ⟨"is_text", some "is_text", none, top 8, ["thing", "most", "sign"], ["thing", "most"], ⟨2, 3, b_is_text⟩⟩
/-- is_sign -/
def b_is_sign : Sms :=
      (.cons 
      (.ret (.and (.call 2 (.cons (.loc 0) (.cons (.int 1) .nil))) (.cmp .ne (.loc 0) (.str [])))) .nil)
def f_is_sign : FI := ⟨"is_sign", some "is_sign", none, top 9, ["thing"], ["thing"], ⟨1, 1, b_is_sign⟩⟩
/-- is_row -/
def b_is_row : Sms :=
      (.cons 
      (.ret (.and (.isi .tup (.loc 0)) (.cmp .eq (.bi .len (.cons (.loc 0) .nil)) (.loc 1)))) .nil)
def f_is_row : FI := ⟨"is_row", some "is_row", none, top 10, ["thing", "many"], ["thing", "many"], ⟨2, 2, b_is_row⟩⟩
/-- are_rising -/
def b_are_rising : Sms :=
      (.cons 
      (.ret (.bi .all (.cons (.lc [1, 2] (.cmp .lt (.loc 1) (.loc 2)) (.tp (.cons (.nm 1) (.cons (.nm 2) .nil))) (.zip (.loc 0) (.sli (.loc 0) (.so (.int 1)) .no)) .nil) .nil))) .nil)
def f_are_rising : FI := ⟨"are_rising", some "are_rising", none, top 11, ["things", "one", "other"], ["things"], ⟨1, 3, b_are_rising⟩⟩
/-- check_format -/
def b_check_format : Sms :=
      (.cons 
      (.ift (.nt (.v (.call 31 (.cons (.loc 0) (.cons (.loc 1) .nil))))) (.cons 
      (.rai 0 [false] (.cons (.loc 1) .nil)) .nil) .nil) .nil)
def f_check_format : FI := ⟨"check_format", some "check_format", none, top 37, ["sort", "thing"], ["sort", "thing"], ⟨2, 2, b_check_format⟩⟩
/-- plain_format -/
def b_plain_format : Sms :=
      (.cons 
      (.mat (.idx (.loc 0) (.int 0)) (.cons [[105, 110, 116]] (.cons 
      (.ret (.glo 14)) .nil) (.cons [[119, 111, 114, 100]] (.cons 
      (.ret (.tup (.cons (.str [112, 108, 97, 105, 110]) .nil))) .nil) (.cons [[111, 110, 101]] (.cons 
      (.ret (.tup (.cons (.str [110, 97, 109, 101, 115]) (.cons (.op .mul (.tup (.cons (.str []) .nil)) (.idx (.loc 0) (.int 1))) .nil)))) .nil) (.cons [[109, 97, 121, 98, 101]] (.cons 
      (.ret (.tup (.cons (.str [109, 97, 121, 98, 101]) (.cons (.str []) (.cons (.call 7 (.cons (.idx (.loc 0) (.int 1)) .nil)) .nil))))) .nil) (.cons [[114, 111, 119]] (.cons 
      (.ret (.tup (.cons (.str [114, 111, 119]) (.cons (.bi .tuple (.cons (.lc [2, 1] (.tup (.cons (.loc 2) (.cons (.call 7 (.cons (.loc 1) .nil)) .nil))) (.tp (.cons (.nm 2) (.cons (.nm 1) .nil))) (.enu (.idx (.loc 0) (.int 1))) .nil) .nil)) .nil)))) .nil) (.cons [[109, 97, 110, 121]] (.cons 
      (.ret (.tup (.cons (.str [109, 97, 110, 121]) (.cons (.str []) (.cons (.str []) (.cons (.str []) (.cons (.str []) (.cons (.call 7 (.cons (.idx (.loc 0) (.int 1)) .nil)) .nil)))))))) .nil) .nil))))))) (.cons 
      (.ret (.tup (.cons (.str [99, 97, 115, 101]) (.cons (.bi .tuple (.cons (.lc [1] (.call 7 (.cons (.loc 1) .nil)) (.nm 1) (.val (.idx (.loc 0) (.int 1))) .nil) .nil)) .nil)))) .nil))
def f_plain_format : FI := ⟨"plain_format", some "plain_format", none, top 38, ["sort", "part", "number"], ["sort"], ⟨1, 3, b_plain_format⟩⟩
/-- _law_plain -/
def b__law_plain : Sms :=
      (.cons 
      (.ift (.v (.cmp .eq (.idx (.loc 0) (.int 0)) (.str [105, 110, 116]))) (.cons 
      (.ret (.tup (.cons (.str [102, 105, 103, 117, 114, 101, 115]) (.cons (.int 10) (.cons (.str [45]) (.cons (.int 1) (.cons (.int 0) (.cons (.str []) (.cons (.str []) .nil))))))))) .nil) .nil) (.cons 
      (.ift (.v (.cmp .eq (.idx (.loc 0) (.int 0)) (.str [119, 111, 114, 100]))) (.cons 
      (.ret (.tup (.cons (.str [112, 108, 97, 105, 110]) .nil))) .nil) .nil) (.cons 
      (.ift (.v (.cmp .eq (.idx (.loc 0) (.int 0)) (.str [111, 110, 101]))) (.cons 
      (.ret (.tup (.cons (.str [110, 97, 109, 101, 115]) (.cons (.op .mul (.tup (.cons (.str []) .nil)) (.idx (.loc 0) (.int 1))) .nil)))) .nil) .nil) (.cons 
      (.ift (.v (.cmp .eq (.idx (.loc 0) (.int 0)) (.str [109, 97, 121, 98, 101]))) (.cons 
      (.ret (.tup (.cons (.str [109, 97, 121, 98, 101]) (.cons (.str []) (.cons (.call 8 (.cons (.idx (.loc 0) (.int 1)) .nil)) .nil))))) .nil) .nil) (.cons 
      (.ift (.v (.cmp .eq (.idx (.loc 0) (.int 0)) (.str [109, 97, 110, 121]))) (.cons 
      (.ret (.tup (.cons (.str [109, 97, 110, 121]) (.cons (.str []) (.cons (.str []) (.cons (.str []) (.cons (.str []) (.cons (.call 8 (.cons (.idx (.loc 0) (.int 1)) .nil)) .nil)))))))) .nil) .nil) (.cons 
      (.ift (.v (.cmp .eq (.idx (.loc 0) (.int 0)) (.str [99, 97, 115, 101]))) (.cons 
      (.ret (.tup (.cons (.str [99, 97, 115, 101]) (.cons (.bi .tuple (.cons (.lc [2] (.call 8 (.cons (.loc 2) .nil)) (.nm 2) (.val (.idx (.loc 0) (.int 1))) .nil) .nil)) .nil)))) .nil) .nil) (.cons 
      (.ret (.tup (.cons (.str [114, 111, 119]) (.cons (.bi .tuple (.cons (.lc [1, 2] (.tup (.cons (.loc 1) (.cons (.call 8 (.cons (.loc 2) .nil)) .nil))) (.tp (.cons (.nm 1) (.cons (.nm 2) .nil))) (.enu (.idx (.loc 0) (.int 1))) .nil) .nil)) .nil)))) .nil)))))))
def f__law_plain : FI := ⟨"_law_plain", some "_law_plain", none, top 50, ["sort", "number", "part"], ["sort"], ⟨1, 3, b__law_plain⟩⟩
/-- _law_figures_wrong -/
def b__law_figures_wrong : Sms :=
      (.cons 
      (.asg 0 (.tup (.cons (.str [102, 105, 103, 117, 114, 101, 115]) (.cons (.int 10) (.cons (.str [45]) (.cons (.int 1) (.cons (.int 3) (.cons (.str [44]) (.cons (.str [120]) .nil))))))))) (.cons 
      (.asg 1 (.lst (.cons (.sli (.loc 0) .no (.so (.int 6))) (.cons (.bi .list (.cons (.loc 0) .nil)) (.cons .non (.cons (.tup .nil) (.cons (.op .add (.tup (.cons (.str [102, 105, 103, 117, 114, 101]) .nil)) (.sli (.loc 0) (.so (.int 1)) .no)) (.cons (.tup (.cons (.str [112, 108, 97, 105, 110]) .nil)) (.cons (.tup (.cons (.str [110, 97, 109, 101, 115]) (.cons (.tup (.cons (.str []) .nil)) .nil))) (.cons (.tup (.cons (.str [112, 97, 100]) (.cons (.int 2) (.cons (.str [48]) (.cons (.str [60]) (.cons .non .nil)))))) (.cons (.tup (.cons (.str [115, 107, 105, 112]) (.cons (.int 1) .nil))) (.cons (.tup (.cons (.str [99, 117, 116]) (.cons (.int 9) (.cons (.loc 0) .nil)))) (.cons (.tup (.cons (.str [99, 117, 116]) (.cons (.int 2) .nil))) (.cons (.tup (.cons (.str [99, 117, 116]) (.cons (.neg (.int 1)) (.cons (.loc 0) .nil)))) (.cons (.tup (.cons (.str [112, 97, 100]) (.cons (.int 9) (.cons (.str [48]) (.cons (.str [60]) (.cons (.loc 0) .nil)))))) (.cons (.tup (.cons (.str [112, 97, 100]) (.cons (.int 2) (.cons (.str [48, 48]) (.cons (.str [60]) (.cons (.loc 0) .nil)))))) .nil)))))))))))))))) (.cons 
      (.asg 1 (.op .add (.loc 1) (.lst (.cons (.tup (.cons (.str [112, 97, 100]) (.cons (.int 2) (.cons (.str []) (.cons (.str [60]) (.cons (.loc 0) .nil)))))) (.cons (.tup (.cons (.str [112, 97, 100]) (.cons (.int 2) (.cons (.str [48]) (.cons (.str [61]) (.cons (.loc 0) .nil)))))) (.cons (.tup (.cons (.str [112, 97, 100]) (.cons (.bl true) (.cons (.str [48]) (.cons (.str [60]) (.cons (.loc 0) .nil)))))) (.cons (.tup (.cons (.str [112, 97, 100]) (.cons (.int 2) (.cons (.str [10]) (.cons (.str [60]) (.cons (.loc 0) .nil)))))) (.cons (.tup (.cons (.str [112, 97, 100]) (.cons (.int 2) (.cons (.str [48]) (.cons (.str [60]) (.cons (.loc 0) (.cons (.loc 0) .nil))))))) .nil)))))))) (.cons 
      (.for (.tp (.cons (.nm 2) (.cons (.nm 3) .nil))) (.val (.tup (.cons (.tup (.cons (.int 1) (.cons (.tup (.cons (.int 1) (.cons (.int 17) (.cons (.str [49, 48]) (.cons (.bl true) (.cons .non .nil)))))) .nil))) (.cons (.tup (.cons (.int 2) (.cons (.tup (.cons (.str []) (.cons (.str [48]) (.cons .non (.cons (.str [45, 45]) (.cons (.str [40]) .nil)))))) .nil))) (.cons (.tup (.cons (.int 3) (.cons (.tup (.cons (.int 0) (.cons (.int 13) (.cons (.bl true) (.cons .non .nil))))) .nil))) (.cons (.tup (.cons (.int 4) (.cons (.tup (.cons (.int 1) (.cons (.int 5) (.cons (.neg (.int 2)) (.cons (.bl true) (.cons .non .nil)))))) .nil))) (.cons (.tup (.cons (.int 5) (.cons (.tup (.cons (.str []) (.cons (.str [48]) (.cons (.str [57]) (.cons (.str [44, 44]) (.cons (.str [10]) (.cons .non .nil))))))) .nil))) (.cons (.tup (.cons (.int 6) (.cons (.tup (.cons (.str [97, 98, 99, 100, 101]) (.cons .non (.cons (.str [10]) (.cons (.int 3) .nil))))) .nil))) .nil)))))))) (.cons 
      (.asg 1 (.op .add (.loc 1) (.lc [4] (.op .add (.op .add (.sli (.loc 0) .no (.so (.loc 2))) (.tup (.cons (.loc 4) .nil))) (.sli (.loc 0) (.so (.op .add (.loc 2) (.int 1))) .no)) (.nm 4) (.val (.loc 3)) .nil))) .nil)) (.cons 
      (.asg 1 (.op .add (.loc 1) (.lst (.cons (.tup (.cons (.str [99, 104, 101, 99, 107, 101, 100]) (.cons (.int 1) (.cons (.int 1) (.cons (.loc 0) .nil))))) (.cons (.tup (.cons (.str [99, 104, 101, 99, 107, 101, 100]) (.cons (.int 17) (.cons (.int 1) (.cons (.loc 0) .nil))))) (.cons (.tup (.cons (.str [99, 104, 101, 99, 107, 101, 100]) (.cons (.int 5) (.cons (.int 5) (.cons (.loc 0) .nil))))) (.cons (.tup (.cons (.str [99, 104, 101, 99, 107, 101, 100]) (.cons (.int 5) (.cons (.int 0) (.cons (.loc 0) .nil))))) (.cons (.tup (.cons (.str [99, 104, 101, 99, 107, 101, 100]) (.cons (.int 5) (.cons (.bl true) (.cons (.loc 0) .nil))))) (.cons (.tup (.cons (.str [99, 104, 101, 99, 107, 101, 100]) (.cons (.int 5) (.cons (.int 1) .nil)))) (.cons (.tup (.cons (.str [99, 104, 101, 99, 107, 101, 100]) (.cons (.int 5) (.cons (.int 1) (.cons (.tup (.cons (.str [112, 108, 97, 105, 110]) .nil)) .nil))))) .nil)))))))))) (.cons 
      (.ret (.op .add (.loc 1) (.lst (.cons (.tup (.cons (.str [102, 105, 103, 117, 114, 101, 115]) (.cons (.int 10) (.cons (.str [45]) (.cons (.int 1) (.cons (.int 0) (.cons (.str [44]) (.cons (.str []) .nil)))))))) (.cons (.tup (.cons (.str [102, 105, 103, 117, 114, 101, 115]) (.cons (.int 16) (.cons (.str [45]) (.cons (.int 1) (.cons (.int 2) (.cons (.str [102]) (.cons (.str []) .nil)))))))) (.cons (.tup (.cons (.str [102, 105, 103, 117, 114, 101, 115]) (.cons (.int 10) (.cons (.str [45]) (.cons (.int 1) (.cons (.bl false) (.cons (.str []) (.cons (.str []) .nil)))))))) .nil)))))) .nil))))))
def f__law_figures_wrong : FI := ⟨"_law_figures_wrong", some "_law_figures_wrong", none, top 51, ["right", "found", "at", "things", "thing"], [], ⟨0, 5, b__law_figures_wrong⟩⟩
/-- _law_wrong -/
def b__law_wrong : Sms :=
      (.cons 
      (.ast (.tp (.cons (.nm 1) (.cons (.nm 2) (.cons (.nm 3) .nil)))) (.tup (.cons (.tup (.cons (.str [105, 110, 116]) (.cons (.int 0) (.cons .non .nil)))) (.cons (.tup (.cons (.str [105, 110, 116]) (.cons (.int 0) (.cons (.int 9) .nil)))) (.cons (.tup (.cons (.str [119, 111, 114, 100]) (.cons (.str [97, 98]) (.cons (.int 0) (.cons (.int 2) .nil))))) .nil))))) (.cons 
      (.asg 4 (.tup (.cons (.str [102, 105, 103, 117, 114, 101, 115]) (.cons (.int 10) (.cons (.str [45]) (.cons (.int 1) (.cons (.int 0) (.cons (.str []) (.cons (.str []) .nil))))))))) (.cons 
      (.asg 5 (.op .add (.lc [8] (.tup (.cons (.loc 1) (.cons (.loc 8) .nil))) (.nm 8) (.val (.call 9 .nil)) .nil) (.lst (.cons (.tup (.cons (.loc 1) (.cons (.tup (.cons (.str [112, 111, 119, 101, 114, 115]) (.cons (.int 10) (.cons (.str [45]) .nil)))) .nil))) (.cons (.tup (.cons (.loc 2) (.cons (.tup (.cons (.str [112, 111, 119, 101, 114, 115]) (.cons (.int 11) (.cons (.str [45]) .nil)))) .nil))) (.cons (.tup (.cons (.loc 2) (.cons (.tup (.cons (.str [112, 111, 119, 101, 114, 115]) (.cons (.int 1) (.cons (.str [45]) .nil)))) .nil))) (.cons (.tup (.cons (.loc 2) (.cons (.tup (.cons (.str [112, 111, 119, 101, 114, 115]) (.cons (.int 10) (.cons (.str [101]) .nil)))) .nil))) (.cons (.tup (.cons (.loc 2) (.cons (.tup (.cons (.str [112, 111, 119, 101, 114, 115]) (.cons (.int 10) .nil))) .nil))) .nil)))))))) (.cons 
      (.asg 5 (.op .add (.loc 5) (.lc [8] (.tup (.cons (.loc 3) (.cons (.loc 8) .nil))) (.nm 8) (.val (.lst (.cons (.loc 4) (.cons (.tup (.cons (.str [112, 108, 97, 105, 110]) (.cons (.int 1) .nil))) (.cons (.tup (.cons (.str [115, 112, 101, 108, 108, 101, 100]) (.cons (.tup (.cons (.tup (.cons (.str [98]) (.cons (.str [120]) .nil))) (.cons (.tup (.cons (.str [97]) (.cons (.str [121]) .nil))) .nil))) .nil))) (.cons (.tup (.cons (.str [115, 112, 101, 108, 108, 101, 100]) (.cons (.tup (.cons (.tup (.cons (.str [97]) (.cons (.str []) .nil))) .nil)) .nil))) (.cons (.tup (.cons (.str [115, 112, 101, 108, 108, 101, 100]) (.cons (.tup (.cons (.tup (.cons (.str [97]) (.cons (.str [97, 98, 99, 100, 101]) .nil))) .nil)) .nil))) (.cons (.tup (.cons (.str [115, 112, 101, 108, 108, 101, 100]) (.cons (.tup (.cons (.tup (.cons (.str [97, 98]) (.cons (.str [120]) .nil))) .nil)) .nil))) (.cons (.tup (.cons (.str [115, 112, 101, 108, 108, 101, 100]) (.cons (.tup (.cons (.tup (.cons (.str [97]) (.cons (.str [120]) .nil))) (.cons (.tup (.cons (.str [97]) (.cons (.str [121]) .nil))) .nil))) .nil))) (.cons (.tup (.cons (.str [115, 112, 101, 108, 108, 101, 100]) (.cons (.lst (.cons (.tup (.cons (.str [97]) (.cons (.str [120]) .nil))) .nil)) .nil))) .nil)))))))))) .nil))) (.cons 
      (.asg 5 (.op .add (.loc 5) (.lc [8] (.tup (.cons (.loc 3) (.cons (.loc 8) .nil))) (.nm 8) (.val (.lst (.cons (.tup (.cons (.str [113, 117, 111, 116, 101, 100]) (.cons (.str [39]) (.cons (.str [39]) .nil)))) (.cons (.tup (.cons (.str [113, 117, 111, 116, 101, 100]) (.cons (.str []) (.cons (.str [97]) .nil)))) (.cons (.tup (.cons (.str [113, 117, 111, 116, 101, 100]) (.cons (.str [97, 98]) (.cons (.str [99]) .nil)))) (.cons (.tup (.cons (.str [113, 117, 111, 116, 101, 100]) (.cons (.str [39]) .nil))) (.cons (.tup (.cons (.str [115, 112, 101, 108, 108, 101, 100]) .nil)) (.cons (.str [112, 108, 97, 105, 110]) .nil)))))))) .nil))) (.cons 
      (.asg 5 (.op .add (.loc 5) (.lc [8] (.tup (.cons (.tup (.cons (.str [111, 110, 101]) (.cons (.int 2) .nil))) (.cons (.loc 8) .nil))) (.nm 8) (.val (.lst (.cons (.tup (.cons (.str [110, 97, 109, 101, 115]) (.cons (.tup (.cons (.str [97]) .nil)) .nil))) (.cons (.tup (.cons (.str [110, 97, 109, 101, 115]) (.cons (.tup (.cons (.str [97]) (.cons (.str [98]) (.cons (.str [99]) .nil)))) .nil))) (.cons (.tup (.cons (.str [110, 97, 109, 101, 115]) (.cons (.lst (.cons (.str [97]) (.cons (.str [98]) .nil))) .nil))) (.cons (.tup (.cons (.str [110, 97, 109, 101, 115]) (.cons (.tup (.cons (.str [97]) (.cons (.str [49, 50, 51, 52, 53, 54, 55, 56, 57]) .nil))) .nil))) (.cons (.tup (.cons (.str [110, 97, 109, 101, 115]) (.cons (.tup (.cons (.str [97]) (.cons (.int 1) .nil))) .nil))) (.cons (.tup (.cons (.str [112, 108, 97, 105, 110]) .nil)) .nil)))))))) .nil))) (.cons 
      (.asg 5 (.op .add (.loc 5) (.lc [8] (.tup (.cons (.tup (.cons (.str [109, 97, 121, 98, 101]) (.cons (.loc 2) .nil))) (.cons (.loc 8) .nil))) (.nm 8) (.val (.lst (.cons (.tup (.cons (.str [109, 97, 121, 98, 101]) (.cons (.str [97]) .nil))) (.cons (.tup (.cons (.str [109, 97, 121, 98, 101]) (.cons .non (.cons (.loc 4) .nil)))) (.cons (.tup (.cons (.str [109, 97, 121, 98, 101]) (.cons (.str [97]) (.cons (.tup (.cons (.str [112, 108, 97, 105, 110]) .nil)) .nil)))) (.cons (.tup (.cons (.str [109, 97, 121, 98, 101]) (.cons (.str [49, 50, 51, 52, 53, 54, 55, 56, 57]) (.cons (.loc 4) .nil)))) (.cons (.loc 4) .nil))))))) .nil))) (.cons 
      (.asg 6 (.tup (.cons (.str [114, 111, 119]) (.cons (.tup (.cons (.loc 2) (.cons (.loc 3) .nil))) .nil)))) (.cons 
      (.asg 5 (.op .add (.loc 5) (.lc [8] (.tup (.cons (.loc 6) (.cons (.loc 8) .nil))) (.nm 8) (.val (.lst (.cons (.tup (.cons (.str [114, 111, 119]) (.cons (.tup (.cons (.tup (.cons (.int 0) (.cons (.loc 4) .nil))) .nil)) .nil))) (.cons (.tup (.cons (.str [114, 111, 119]) (.cons (.tup (.cons (.tup (.cons (.int 1) (.cons (.tup (.cons (.str [112, 108, 97, 105, 110]) .nil)) .nil))) (.cons (.tup (.cons (.int 0) (.cons (.loc 4) .nil))) .nil))) .nil))) (.cons (.tup (.cons (.str [114, 111, 119]) (.cons (.tup (.cons (.tup (.cons (.int 0) (.cons (.loc 4) .nil))) (.cons (.tup (.cons (.int 0) (.cons (.loc 4) .nil))) (.cons (.tup (.cons (.int 1) (.cons (.tup (.cons (.str [112, 108, 97, 105, 110]) .nil)) .nil))) .nil)))) .nil))) (.cons (.tup (.cons (.str [114, 111, 119]) (.cons (.tup (.cons (.tup (.cons (.int 0) (.cons (.loc 4) .nil))) (.cons (.str []) (.cons (.tup (.cons (.int 1) (.cons (.tup (.cons (.str [112, 108, 97, 105, 110]) .nil)) .nil))) .nil)))) .nil))) (.cons (.tup (.cons (.str [114, 111, 119]) (.cons (.tup (.cons (.tup (.cons (.int 0) (.cons (.tup (.cons (.str [112, 108, 97, 105, 110]) .nil)) .nil))) (.cons (.tup (.cons (.int 1) (.cons (.tup (.cons (.str [112, 108, 97, 105, 110]) .nil)) .nil))) .nil))) .nil))) .nil))))))) .nil))) (.cons 
      (.asg 5 (.op .add (.loc 5) (.lc [8] (.tup (.cons (.loc 6) (.cons (.loc 8) .nil))) (.nm 8) (.val (.lst (.cons (.tup (.cons (.str [114, 111, 119]) (.cons (.tup (.cons (.tup (.cons (.int 0) (.cons (.loc 4) .nil))) (.cons (.tup (.cons (.int 1) (.cons (.tup (.cons (.str [112, 108, 97, 105, 110]) .nil)) .nil))) (.cons (.tup (.cons (.int 2) (.cons (.loc 4) .nil))) .nil)))) .nil))) (.cons (.tup (.cons (.str [114, 111, 119]) (.cons (.tup (.cons (.tup (.cons (.int 0) (.cons (.loc 4) .nil))) (.cons (.str [49, 50, 51, 52, 53, 54, 55, 56, 57]) (.cons (.tup (.cons (.int 1) (.cons (.tup (.cons (.str [112, 108, 97, 105, 110]) .nil)) .nil))) .nil)))) .nil))) (.cons (.tup (.cons (.str [114, 111, 119]) (.cons (.lst (.cons (.tup (.cons (.int 0) (.cons (.loc 4) .nil))) (.cons (.tup (.cons (.int 1) (.cons (.tup (.cons (.str [112, 108, 97, 105, 110]) .nil)) .nil))) .nil))) .nil))) (.cons (.tup (.cons (.str [114, 111, 119]) (.cons (.tup (.cons (.tup (.cons (.bl false) (.cons (.loc 4) .nil))) (.cons (.tup (.cons (.int 1) (.cons (.tup (.cons (.str [112, 108, 97, 105, 110]) .nil)) .nil))) .nil))) .nil))) (.cons (.tup (.cons (.str [114, 111, 119]) (.cons (.op .add (.op .mul (.tup (.cons (.str [97]) .nil)) (.int 12)) (.tup (.cons (.tup (.cons (.int 0) (.cons (.loc 4) .nil))) (.cons (.tup (.cons (.int 1) (.cons (.tup (.cons (.str [112, 108, 97, 105, 110]) .nil)) .nil))) .nil)))) .nil))) .nil))))))) .nil))) (.cons 
      (.asg 7 (.tup (.cons (.str [109, 97, 110, 121]) (.cons (.loc 2) (.cons (.int 0) (.cons .non .nil)))))) (.cons 
      (.asg 5 (.op .add (.loc 5) (.lc [8] (.tup (.cons (.loc 7) (.cons (.loc 8) .nil))) (.nm 8) (.val (.lst (.cons (.tup (.cons (.str [109, 97, 110, 121]) (.cons (.str []) (.cons (.str []) (.cons (.str []) (.cons (.loc 4) .nil)))))) (.cons (.tup (.cons (.str [109, 97, 110, 121]) (.cons (.str []) (.cons (.str []) (.cons (.str []) (.cons (.str []) (.cons (.tup (.cons (.str [112, 108, 97, 105, 110]) .nil)) .nil))))))) (.cons (.tup (.cons (.str [109, 97, 110, 121]) (.cons (.str [49, 50, 51, 52, 53]) (.cons (.str []) (.cons (.str []) (.cons (.str []) (.cons (.loc 4) .nil))))))) (.cons (.tup (.cons (.str [109, 97, 110, 121]) (.cons (.str []) (.cons (.str []) (.cons .non (.cons (.str []) (.cons (.loc 4) .nil))))))) (.cons (.tup (.cons (.str [109, 97, 110, 121]) (.cons (.str []) (.cons (.str []) (.cons (.str []) (.cons (.str []) (.cons (.loc 4) (.cons (.str []) .nil)))))))) .nil))))))) .nil))) (.cons 
      (.ret (.op .add (.loc 5) (.lc [8] (.tup (.cons (.tup (.cons (.str [99, 97, 115, 101]) (.cons (.tup (.cons (.loc 2) (.cons (.loc 3) .nil))) .nil))) (.cons (.loc 8) .nil))) (.nm 8) (.val (.lst (.cons (.tup (.cons (.str [99, 97, 115, 101]) (.cons (.tup (.cons (.loc 4) .nil)) .nil))) (.cons (.tup (.cons (.str [99, 97, 115, 101]) (.cons (.tup (.cons (.loc 4) (.cons (.loc 4) .nil))) .nil))) (.cons (.tup (.cons (.str [99, 97, 115, 101]) (.cons (.lst (.cons (.loc 4) (.cons (.tup (.cons (.str [112, 108, 97, 105, 110]) .nil)) .nil))) .nil))) (.cons (.tup (.cons (.str [99, 97, 115, 101]) (.cons (.tup (.cons (.loc 4) (.cons (.tup (.cons (.str [112, 108, 97, 105, 110]) .nil)) (.cons (.tup (.cons (.str [112, 108, 97, 105, 110]) .nil)) .nil)))) .nil))) (.cons (.tup (.cons (.str [114, 111, 119]) (.cons (.tup (.cons (.tup (.cons (.int 0) (.cons (.loc 4) .nil))) .nil)) .nil))) .nil))))))) .nil))) .nil)))))))))))))
def f__law_wrong : FI := ⟨"_law_wrong", some "_law_wrong", none, top 52, ["draw", "whole", "span", "word", "figures", "found", "pair", "many", "thing"], ["draw"], ⟨1, 9, b__law_wrong⟩⟩
/-- _law_refuses_known -/
def b__law_refuses_known : Sms :=
      (.cons 
      (.ast (.tp (.cons (.nm 0) (.cons (.nm 1) .nil))) (.tup (.cons (.tup (.cons (.str [110, 97, 109, 101, 115]) (.cons (.tup (.cons (.str [120]) (.cons (.str [121]) .nil))) .nil))) (.cons (.tup (.cons (.str [102, 105, 103, 117, 114, 101, 115]) (.cons (.int 10) (.cons (.str [45]) (.cons (.int 1) (.cons (.int 0) (.cons (.str []) (.cons (.str []) .nil)))))))) .nil)))) (.cons 
      (.asg 2 (.lst (.cons (.tup (.cons (.tup (.cons (.str [105, 110, 116]) (.cons .non (.cons (.int 5) .nil)))) (.cons (.tup (.cons (.str [112, 111, 119, 101, 114, 115]) (.cons (.int 10) (.cons (.str [45]) .nil)))) .nil))) (.cons (.tup (.cons (.tup (.cons (.str [105, 110, 116]) (.cons (.int 0) (.cons .non .nil)))) (.cons (.tup (.cons (.str [112, 111, 119, 101, 114, 115]) (.cons (.int 10) (.cons (.str [45]) .nil)))) .nil))) (.cons (.tup (.cons (.tup (.cons (.str [105, 110, 116]) (.cons (.int 0) (.cons (.int 5) .nil)))) (.cons (.tup (.cons (.str [112, 111, 119, 101, 114, 115]) (.cons (.int 11) (.cons (.str [45]) .nil)))) .nil))) (.cons (.tup (.cons (.tup (.cons (.str [105, 110, 116]) (.cons (.int 0) (.cons (.int 5) .nil)))) (.cons (.tup (.cons (.str [112, 111, 119, 101, 114, 115]) (.cons (.int 10) (.cons (.str [48]) .nil)))) .nil))) (.cons (.tup (.cons (.tup (.cons (.str [105, 110, 116]) (.cons (.int 0) (.cons (.int 5) .nil)))) (.cons (.tup (.cons (.str [112, 111, 119, 101, 114, 115]) (.cons (.int 10) .nil))) .nil))) (.cons (.tup (.cons (.tup (.cons (.str [105, 110, 116]) (.cons (.int 0) (.cons (.int 5) .nil)))) (.cons (.tup (.cons (.str [112, 111, 119, 101, 114, 115]) (.cons (.bl true) (.cons (.str [45]) .nil)))) .nil))) .nil)))))))) (.cons 
      (.asg 2 (.op .add (.op .add (.loc 2) (.lc [14] (.tup (.cons (.tup (.cons (.str [105, 110, 116]) (.cons (.int 0) (.cons (.int 5) .nil)))) (.cons (.op .add (.op .add (.sli (.loc 1) .no (.so (.int 4))) (.tup (.cons (.loc 14) .nil))) (.sli (.loc 1) (.so (.int 5)) .no)) .nil))) (.nm 14) (.val (.tup (.cons (.bl false) (.cons (.bl true) (.cons (.int 1) (.cons (.int 5) (.cons .non .nil))))))) .nil)) (.lc [10] (.tup (.cons (.tup (.cons (.str [105, 110, 116]) (.cons (.int 0) (.cons (.int 5) .nil)))) (.cons (.op .add (.sli (.loc 1) .no (.so (.int 4))) (.tup (.cons (.int 3) (.cons (.loc 10) (.cons (.str []) .nil))))) .nil))) (.nm 10) (.val (.tup (.cons (.str []) (.cons (.str [48]) (.cons (.str [57]) (.cons (.str [44, 44]) (.cons (.str [10]) (.cons .non (.cons (.int 3) .nil))))))))) .nil))) (.cons 
      (.asg 2 (.op .add (.op .add (.loc 2) (.lc [15] (.tup (.cons (.tup (.cons (.str [105, 110, 116]) (.cons (.int 0) (.cons (.int 5) .nil)))) (.cons (.op .add (.sli (.loc 1) .no (.so (.int 6))) (.tup (.cons (.loc 15) .nil))) .nil))) (.nm 15) (.val (.tup (.cons (.str [97, 98, 99, 100, 101]) (.cons (.str [10]) (.cons .non (.cons (.int 3) .nil)))))) .nil)) (.lc [11] (.tup (.cons (.tup (.cons (.str [105, 110, 116]) (.cons (.int 0) (.cons (.int 5) .nil)))) (.cons (.loc 11) .nil))) (.nm 11) (.val (.tup (.cons (.sli (.loc 1) .no (.so (.int 6))) (.cons (.op .add (.loc 1) (.tup (.cons (.str []) .nil))) (.cons (.bi .list (.cons (.loc 1) .nil)) (.cons (.op .add (.op .add (.sli (.loc 1) .no (.so (.int 1))) (.tup (.cons (.int 17) .nil))) (.sli (.loc 1) (.so (.int 2)) .no)) (.cons (.op .add (.op .add (.sli (.loc 1) .no (.so (.int 3))) (.tup (.cons (.int 13) .nil))) (.sli (.loc 1) (.so (.int 4)) .no)) (.cons (.op .add (.op .add (.sli (.loc 1) .no (.so (.int 3))) (.tup (.cons (.int 0) .nil))) (.sli (.loc 1) (.so (.int 4)) .no)) .nil)))))))) .nil))) (.cons 
      (.asg 3 (.lst (.cons (.tup (.cons (.str [115, 112, 101, 108, 108, 101, 100]) (.cons (.tup (.cons (.str [97, 98]) .nil)) .nil))) (.cons (.tup (.cons (.str [115, 112, 101, 108, 108, 101, 100]) (.cons (.lst (.cons (.tup (.cons (.str [97]) (.cons (.str [120]) .nil))) .nil)) .nil))) (.cons (.tup (.cons (.str [115, 112, 101, 108, 108, 101, 100]) (.cons (.tup (.cons (.lst (.cons (.str [97]) (.cons (.str [120]) .nil))) .nil)) .nil))) (.cons (.tup (.cons (.str [115, 112, 101, 108, 108, 101, 100]) (.cons (.tup (.cons (.tup (.cons (.str [97]) (.cons (.str [120]) .nil))) (.cons (.tup (.cons (.str [97]) (.cons (.str [121]) .nil))) .nil))) .nil))) (.cons (.tup (.cons (.str [115, 112, 101, 108, 108, 101, 100]) (.cons (.tup (.cons (.tup (.cons (.str [98]) (.cons (.str [120]) .nil))) (.cons (.tup (.cons (.str [97]) (.cons (.str [121]) .nil))) .nil))) .nil))) (.cons (.tup (.cons (.str [115, 112, 101, 108, 108, 101, 100]) (.cons (.tup (.cons (.tup (.cons (.str [97]) (.cons (.str []) .nil))) .nil)) .nil))) (.cons (.tup (.cons (.str [115, 112, 101, 108, 108, 101, 100]) (.cons (.tup (.cons (.tup (.cons (.str [97]) (.cons (.str [120, 120, 120, 120, 120]) .nil))) .nil)) .nil))) (.cons (.tup (.cons (.str [115, 112, 101, 108, 108, 101, 100]) (.cons (.tup (.cons (.tup (.cons (.str [97, 98]) (.cons (.str [120]) .nil))) .nil)) .nil))) (.cons (.tup (.cons (.str [115, 112, 101, 108, 108, 101, 100]) (.cons (.tup (.cons (.tup (.cons (.str [97]) (.cons (.str [10]) .nil))) .nil)) .nil))) .nil))))))))))) (.cons 
      (.asg 3 (.op .add (.loc 3) (.lst (.cons (.tup (.cons (.str [113, 117, 111, 116, 101, 100]) (.cons (.str [39]) (.cons (.str [39]) .nil)))) (.cons (.tup (.cons (.str [113, 117, 111, 116, 101, 100]) (.cons (.str [39]) (.cons (.int 1) .nil)))) (.cons (.tup (.cons (.str [113, 117, 111, 116, 101, 100]) (.cons (.int 1) (.cons (.str [39]) .nil)))) (.cons (.tup (.cons (.str [113, 117, 111, 116, 101, 100]) (.cons (.str [10]) (.cons (.str [39]) .nil)))) (.cons (.tup (.cons (.str [113, 117, 111, 116, 101, 100]) (.cons (.str [39]) (.cons (.str [10]) .nil)))) (.cons (.tup (.cons (.str [113, 117, 111, 116, 101, 100]) (.cons (.str [39, 39]) (.cons (.str [33]) .nil)))) (.cons (.tup (.cons (.str [113, 117, 111, 116, 101, 100]) (.cons (.str [39]) .nil))) (.cons (.tup (.cons (.str [112, 108, 97, 105, 110]) (.cons (.int 1) .nil))) (.cons (.loc 1) (.cons (.loc 0) .nil))))))))))))) (.cons 
      (.asg 2 (.op .add (.op .add (.loc 2) (.lc [11] (.tup (.cons (.tup (.cons (.str [119, 111, 114, 100]) (.cons (.str [97, 98]) (.cons (.int 0) (.cons (.int 2) .nil))))) (.cons (.loc 11) .nil))) (.nm 11) (.val (.loc 3)) .nil)) (.lc [12] (.tup (.cons (.tup (.cons (.str [111, 110, 101]) (.cons (.int 2) .nil))) (.cons (.tup (.cons (.str [110, 97, 109, 101, 115]) (.cons (.loc 12) .nil))) .nil))) (.nm 12) (.val (.tup (.cons (.tup (.cons (.str [120]) .nil)) (.cons (.tup (.cons (.str [120]) (.cons (.str [121]) (.cons (.str [122]) .nil)))) (.cons (.lst (.cons (.str [120]) (.cons (.str [121]) .nil))) (.cons (.tup (.cons (.str [120]) (.cons .non .nil))) (.cons (.tup (.cons (.str [120]) (.cons (.str [97, 98, 99, 100, 101, 102, 103, 104, 105]) .nil))) (.cons (.tup (.cons (.str [120]) (.cons (.str [10]) .nil))) .nil)))))))) .nil))) (.cons 
      (.asg 4 (.tup (.cons (.str [114, 111, 119]) (.cons (.tup (.cons (.tup (.cons (.str [111, 110, 101]) (.cons (.int 2) .nil))) (.cons (.tup (.cons (.str [111, 110, 101]) (.cons (.int 2) .nil))) .nil))) .nil)))) (.cons 
      (.asg 2 (.op .add (.loc 2) (.lc [13] (.tup (.cons (.loc 4) (.cons (.tup (.cons (.str [114, 111, 119]) (.cons (.loc 13) .nil))) .nil))) (.nm 13) (.val (.tup (.cons (.tup (.cons (.tup (.cons (.int 0) (.cons (.loc 0) .nil))) .nil)) (.cons (.tup (.cons (.tup (.cons (.int 1) (.cons (.loc 0) .nil))) (.cons (.tup (.cons (.int 0) (.cons (.loc 0) .nil))) .nil))) (.cons (.tup (.cons (.tup (.cons (.int 0) (.cons (.loc 0) .nil))) (.cons (.tup (.cons (.int 0) (.cons (.loc 0) .nil))) .nil))) (.cons (.tup (.cons (.tup (.cons (.int 0) (.cons (.loc 0) .nil))) (.cons (.tup (.cons (.int 1) (.cons (.loc 0) .nil))) (.cons (.tup (.cons (.int 2) (.cons (.loc 0) .nil))) .nil)))) (.cons (.tup (.cons (.tup (.cons (.bl false) (.cons (.loc 0) .nil))) (.cons (.tup (.cons (.bl true) (.cons (.loc 0) .nil))) .nil))) (.cons (.tup (.cons (.tup (.cons (.int 0) (.cons (.loc 0) .nil))) (.cons (.tup (.cons (.int 1) (.cons (.loc 1) .nil))) .nil))) (.cons (.tup (.cons (.tup (.cons (.int 0) (.cons (.loc 0) .nil))) (.cons (.str []) (.cons (.tup (.cons (.int 1) (.cons (.loc 0) .nil))) .nil)))) (.cons (.tup (.cons (.tup (.cons (.int 0) (.cons (.loc 0) .nil))) (.cons (.str [97, 98, 99, 100, 101, 102, 103, 104, 105]) (.cons (.tup (.cons (.int 1) (.cons (.loc 0) .nil))) .nil)))) (.cons (.lst (.cons (.tup (.cons (.int 0) (.cons (.loc 0) .nil))) (.cons (.tup (.cons (.int 1) (.cons (.loc 0) .nil))) .nil))) (.cons (.tup (.cons (.tup (.cons (.int 0) (.cons (.loc 0) .nil))) (.cons (.lst (.cons (.int 1) (.cons (.loc 0) .nil))) .nil))) (.cons (.tup (.cons (.tup (.cons (.int 0) (.cons (.loc 0) (.cons (.int 1) .nil)))) (.cons (.tup (.cons (.int 1) (.cons (.loc 0) .nil))) .nil))) (.cons (.op .add (.op .mul (.tup (.cons (.str [44]) .nil)) (.int 12)) (.tup (.cons (.tup (.cons (.int 0) (.cons (.loc 0) .nil))) (.cons (.tup (.cons (.int 1) (.cons (.loc 0) .nil))) .nil)))) .nil)))))))))))))) .nil))) (.cons 
      (.asg 2 (.op .add (.loc 2) (.lst (.cons (.tup (.cons (.loc 4) (.cons (.tup (.cons (.str [114, 111, 119]) (.cons (.tup (.cons (.tup (.cons (.int 0) (.cons (.loc 0) .nil))) (.cons (.tup (.cons (.int 1) (.cons (.loc 0) .nil))) .nil))) (.cons (.int 1) .nil)))) .nil))) (.cons (.tup (.cons (.loc 4) (.cons (.tup (.cons (.str [114, 111, 119]) .nil)) .nil))) (.cons (.tup (.cons (.tup (.cons (.str [109, 97, 121, 98, 101]) (.cons (.tup (.cons (.str [111, 110, 101]) (.cons (.int 2) .nil))) .nil))) (.cons (.tup (.cons (.str [109, 97, 121, 98, 101]) (.cons (.str [97, 98, 99, 100, 101, 102, 103, 104, 105]) (.cons (.loc 0) .nil)))) .nil))) (.cons (.tup (.cons (.tup (.cons (.str [109, 97, 121, 98, 101]) (.cons (.tup (.cons (.str [111, 110, 101]) (.cons (.int 2) .nil))) .nil))) (.cons (.tup (.cons (.str [109, 97, 121, 98, 101]) (.cons (.str []) (.cons (.loc 1) .nil)))) .nil))) (.cons (.tup (.cons (.tup (.cons (.str [109, 97, 121, 98, 101]) (.cons (.tup (.cons (.str [111, 110, 101]) (.cons (.int 2) .nil))) .nil))) (.cons (.tup (.cons (.str [109, 97, 121, 98, 101]) (.cons (.str []) .nil))) .nil))) (.cons (.tup (.cons (.tup (.cons (.str [99, 97, 115, 101]) (.cons (.tup (.cons (.tup (.cons (.str [111, 110, 101]) (.cons (.int 2) .nil))) (.cons (.tup (.cons (.str [111, 110, 101]) (.cons (.int 2) .nil))) .nil))) .nil))) (.cons (.tup (.cons (.str [99, 97, 115, 101]) (.cons (.tup (.cons (.loc 0) .nil)) .nil))) .nil))) (.cons (.tup (.cons (.tup (.cons (.str [99, 97, 115, 101]) (.cons (.tup (.cons (.tup (.cons (.str [111, 110, 101]) (.cons (.int 2) .nil))) (.cons (.tup (.cons (.str [111, 110, 101]) (.cons (.int 2) .nil))) .nil))) .nil))) (.cons (.tup (.cons (.str [99, 97, 115, 101]) (.cons (.lst (.cons (.loc 0) (.cons (.loc 0) .nil))) .nil))) .nil))) (.cons (.tup (.cons (.tup (.cons (.str [99, 97, 115, 101]) (.cons (.tup (.cons (.tup (.cons (.str [111, 110, 101]) (.cons (.int 2) .nil))) (.cons (.tup (.cons (.str [111, 110, 101]) (.cons (.int 2) .nil))) .nil))) .nil))) (.cons (.tup (.cons (.str [99, 97, 115, 101]) (.cons (.tup (.cons (.loc 0) (.cons (.loc 1) .nil))) .nil))) .nil))) .nil))))))))))) (.cons 
      (.asg 5 (.tup (.cons (.str [109, 97, 110, 121]) (.cons (.tup (.cons (.str [111, 110, 101]) (.cons (.int 2) .nil))) (.cons (.int 0) (.cons (.int 2) .nil)))))) (.cons 
      (.asg 2 (.op .add (.loc 2) (.lst (.cons (.tup (.cons (.loc 5) (.cons (.tup (.cons (.str [109, 97, 110, 121]) (.cons (.str [97, 98, 99, 100, 101]) (.cons (.str []) (.cons (.str []) (.cons (.str []) (.cons (.loc 0) .nil))))))) .nil))) (.cons (.tup (.cons (.loc 5) (.cons (.tup (.cons (.str [109, 97, 110, 121]) (.cons (.str []) (.cons (.str []) (.cons (.str []) (.cons (.str [10]) (.cons (.loc 0) .nil))))))) .nil))) (.cons (.tup (.cons (.loc 5) (.cons (.tup (.cons (.str [109, 97, 110, 121]) (.cons (.str []) (.cons (.str []) (.cons (.str []) (.cons (.str []) (.cons (.loc 1) .nil))))))) .nil))) (.cons (.tup (.cons (.loc 5) (.cons (.tup (.cons (.str [109, 97, 110, 121]) (.cons (.str []) (.cons (.str []) (.cons (.str []) (.cons (.loc 0) .nil)))))) .nil))) (.cons (.tup (.cons (.loc 5) (.cons (.tup (.cons (.str [109, 97, 110, 121]) (.cons .non (.cons (.str []) (.cons (.str []) (.cons (.str []) (.cons (.loc 0) .nil))))))) .nil))) .nil)))))))) (.cons 
      (.asg 6 (.lst (.cons (.tup (.cons (.str [112, 97, 100]) (.cons (.int 9) (.cons (.str [48]) (.cons (.str [60]) (.cons (.loc 0) .nil)))))) (.cons (.tup (.cons (.str [112, 97, 100]) (.cons (.neg (.int 1)) (.cons (.str [48]) (.cons (.str [60]) (.cons (.loc 0) .nil)))))) (.cons (.tup (.cons (.str [112, 97, 100]) (.cons (.bl true) (.cons (.str [48]) (.cons (.str [60]) (.cons (.loc 0) .nil)))))) (.cons (.tup (.cons (.str [112, 97, 100]) (.cons (.int 2) (.cons (.str []) (.cons (.str [60]) (.cons (.loc 0) .nil)))))) (.cons (.tup (.cons (.str [112, 97, 100]) (.cons (.int 2) (.cons (.str [48, 48]) (.cons (.str [60]) (.cons (.loc 0) .nil)))))) (.cons (.tup (.cons (.str [112, 97, 100]) (.cons (.int 2) (.cons (.str [48]) (.cons (.str [61]) (.cons (.loc 0) .nil)))))) (.cons (.tup (.cons (.str [112, 97, 100]) (.cons (.int 2) (.cons (.str [48]) (.cons .non (.cons (.loc 0) .nil)))))) (.cons (.tup (.cons (.str [112, 97, 100]) (.cons (.int 2) (.cons (.str [48]) (.cons (.str [60]) (.cons (.loc 1) .nil)))))) (.cons (.tup (.cons (.str [112, 97, 100]) (.cons (.int 2) (.cons (.str [48]) (.cons (.str [60]) .nil))))) .nil))))))))))) (.cons 
      (.asg 6 (.op .add (.loc 6) (.lst (.cons (.tup (.cons (.str [99, 117, 116]) (.cons (.int 9) (.cons (.loc 0) .nil)))) (.cons (.tup (.cons (.str [99, 117, 116]) (.cons (.bl false) (.cons (.loc 0) .nil)))) (.cons (.tup (.cons (.str [99, 117, 116]) (.cons (.int 2) (.cons (.loc 1) .nil)))) (.cons (.tup (.cons (.str [99, 117, 116]) (.cons (.int 2) .nil))) (.cons (.tup (.cons (.str [115, 107, 105, 112]) (.cons (.int 1) .nil))) (.cons (.tup (.cons (.str [99, 104, 101, 99, 107, 101, 100]) (.cons (.int 1) (.cons (.int 1) (.cons (.loc 0) .nil))))) (.cons (.tup (.cons (.str [99, 104, 101, 99, 107, 101, 100]) (.cons (.int 17) (.cons (.int 1) (.cons (.loc 0) .nil))))) (.cons (.tup (.cons (.str [99, 104, 101, 99, 107, 101, 100]) (.cons (.int 5) (.cons (.int 5) (.cons (.loc 0) .nil))))) (.cons (.tup (.cons (.str [99, 104, 101, 99, 107, 101, 100]) (.cons (.int 5) (.cons (.int 0) (.cons (.loc 0) .nil))))) (.cons (.tup (.cons (.str [99, 104, 101, 99, 107, 101, 100]) (.cons (.int 5) (.cons (.bl true) (.cons (.loc 0) .nil))))) (.cons (.tup (.cons (.str [99, 104, 101, 99, 107, 101, 100]) (.cons (.int 5) (.cons (.int 2) (.cons (.loc 1) .nil))))) (.cons (.tup (.cons (.str [99, 104, 101, 99, 107, 101, 100]) (.cons (.int 5) (.cons (.int 2) .nil)))) (.cons (.tup (.cons (.str [115, 104, 111, 119, 110]) .nil)) (.cons (.tup .nil) (.cons .non (.cons (.int 3) .nil))))))))))))))))))) (.cons 
      (.asg 2 (.op .add (.loc 2) (.lc [11] (.tup (.cons (.tup (.cons (.str [111, 110, 101]) (.cons (.int 2) .nil))) (.cons (.loc 11) .nil))) (.nm 11) (.val (.loc 6)) .nil))) (.cons 
      (.asg 7 (.lst (.cons (.tup (.cons (.tup (.cons (.str [111, 110, 101]) (.cons (.int 2) .nil))) (.cons (.loc 0) .nil))) (.cons (.tup (.cons (.tup (.cons (.str [111, 110, 101]) (.cons (.int 2) .nil))) (.cons (.tup (.cons (.str [115, 107, 105, 112]) .nil)) .nil))) (.cons (.tup (.cons (.tup (.cons (.str [111, 110, 101]) (.cons (.int 2) .nil))) (.cons (.tup (.cons (.str [99, 117, 116]) (.cons (.int 2) (.cons (.loc 0) .nil)))) .nil))) (.cons (.tup (.cons (.tup (.cons (.str [111, 110, 101]) (.cons (.int 2) .nil))) (.cons (.tup (.cons (.str [112, 97, 100]) (.cons (.int 2) (.cons (.str [48]) (.cons (.str [60]) (.cons (.loc 0) .nil)))))) .nil))) (.cons (.tup (.cons (.tup (.cons (.str [111, 110, 101]) (.cons (.int 2) .nil))) (.cons (.tup (.cons (.str [99, 104, 101, 99, 107, 101, 100]) (.cons (.int 5) (.cons (.int 2) (.cons (.loc 0) .nil))))) .nil))) (.cons (.tup (.cons (.tup (.cons (.str [105, 110, 116]) (.cons (.int 0) (.cons (.int 5) .nil)))) (.cons (.loc 1) .nil))) (.cons (.tup (.cons (.tup (.cons (.str [105, 110, 116]) (.cons (.int 0) (.cons (.int 5) .nil)))) (.cons (.tup (.cons (.str [112, 111, 119, 101, 114, 115]) (.cons (.int 10) (.cons (.str [45]) .nil)))) .nil))) (.cons (.tup (.cons (.tup (.cons (.str [119, 111, 114, 100]) (.cons (.str [97, 98]) (.cons (.int 0) (.cons (.int 2) .nil))))) (.cons (.tup (.cons (.str [112, 108, 97, 105, 110]) .nil)) .nil))) .nil)))))))))) (.cons 
      (.asg 7 (.op .add (.loc 7) (.lst (.cons (.tup (.cons (.tup (.cons (.str [119, 111, 114, 100]) (.cons (.str [97, 98]) (.cons (.int 0) (.cons (.int 2) .nil))))) (.cons (.tup (.cons (.str [115, 112, 101, 108, 108, 101, 100]) (.cons (.tup (.cons (.tup (.cons (.str [97]) (.cons (.str [120]) .nil))) .nil)) .nil))) .nil))) (.cons (.tup (.cons (.tup (.cons (.str [119, 111, 114, 100]) (.cons (.str [97, 98]) (.cons (.int 0) (.cons (.int 2) .nil))))) (.cons (.tup (.cons (.str [113, 117, 111, 116, 101, 100]) (.cons (.str [39]) (.cons (.str [33]) .nil)))) .nil))) (.cons (.tup (.cons (.tup (.cons (.str [109, 97, 121, 98, 101]) (.cons (.tup (.cons (.str [111, 110, 101]) (.cons (.int 2) .nil))) .nil))) (.cons (.tup (.cons (.str [109, 97, 121, 98, 101]) (.cons (.str []) (.cons (.loc 0) .nil)))) .nil))) (.cons (.tup (.cons (.loc 4) (.cons (.tup (.cons (.str [114, 111, 119]) (.cons (.tup (.cons (.tup (.cons (.int 0) (.cons (.loc 0) .nil))) (.cons (.str [44]) (.cons (.tup (.cons (.int 1) (.cons (.loc 0) .nil))) .nil)))) .nil))) .nil))) (.cons (.tup (.cons (.loc 5) (.cons (.tup (.cons (.str [109, 97, 110, 121]) (.cons (.str []) (.cons (.str []) (.cons (.str []) (.cons (.str []) (.cons (.loc 0) .nil))))))) .nil))) (.cons (.tup (.cons (.tup (.cons (.str [99, 97, 115, 101]) (.cons (.tup (.cons (.tup (.cons (.str [111, 110, 101]) (.cons (.int 2) .nil))) (.cons (.tup (.cons (.str [111, 110, 101]) (.cons (.int 2) .nil))) .nil))) .nil))) (.cons (.tup (.cons (.str [99, 97, 115, 101]) (.cons (.tup (.cons (.loc 0) (.cons (.loc 0) .nil))) .nil))) .nil))) .nil))))))))) (.cons 
      (.ift (.nt (.v (.bi .all (.cons (.lc [8, 9] (.call 31 (.cons (.loc 8) (.cons (.loc 9) .nil))) (.tp (.cons (.nm 8) (.cons (.nm 9) .nil))) (.val (.loc 7)) .nil) .nil)))) (.cons 
      (.ret (.bl false)) .nil) .nil) (.cons 
      (.for (.tp (.cons (.nm 8) (.cons (.nm 9) .nil))) (.val (.loc 7)) (.cons 
      (.asg 2 (.op .add (.loc 2) (.lc [11] (.tup (.cons (.loc 8) (.cons (.loc 11) .nil))) (.nm 11) (.val (.tup (.cons (.op .add (.tup (.cons (.str [115, 104, 111, 119, 110]) .nil)) (.sli (.loc 9) (.so (.int 1)) .no)) (.cons (.op .add (.tup (.cons (.int 3) .nil)) (.sli (.loc 9) (.so (.int 1)) .no)) (.cons (.op .add (.loc 9) (.tup (.cons (.int 1) .nil))) (.cons (.sli (.loc 9) .no (.so (.neg (.int 1)))) (.cons (.bi .list (.cons (.loc 9) .nil)) (.cons (.tup (.cons (.loc 9) .nil)) .nil)))))))) .nil))) (.cons 
      (.asg 2 (.op .add (.loc 2) (.lc [16] (.tup (.cons (.loc 16) (.cons (.loc 9) .nil))) (.nm 16) (.val (.tup (.cons (.tup (.cons (.str [111, 110, 101]) (.cons (.int 3) .nil))) (.cons (.tup (.cons (.str [105, 110, 116]) (.cons (.int 0) (.cons .non .nil)))) (.cons (.tup (.cons (.str [119, 111, 114, 100]) (.cons (.str [97, 98]) (.cons (.int 0) (.cons (.int 2) .nil))))) (.cons (.tup (.cons (.str [109, 97, 121, 98, 101]) (.cons (.tup (.cons (.str [119, 111, 114, 100]) (.cons (.str [97]) (.cons (.int 0) (.cons (.int 1) .nil))))) .nil))) (.cons (.tup (.cons (.str [114, 111, 119]) (.cons (.tup (.cons (.tup (.cons (.str [119, 111, 114, 100]) (.cons (.str [97]) (.cons (.int 0) (.cons (.int 1) .nil))))) .nil)) .nil))) (.cons (.tup (.cons (.str [109, 97, 110, 121]) (.cons (.tup (.cons (.str [119, 111, 114, 100]) (.cons (.str [97]) (.cons (.int 0) (.cons (.int 1) .nil))))) (.cons (.int 0) (.cons (.int 1) .nil))))) .nil)))))))) (.cons (.all (.cons (.v (.cmp .ne (.loc 9) (.tup (.cons (.str [115, 107, 105, 112]) .nil)))) (.cons (.v (.cmp .ne (.idx (.loc 16) (.int 0)) (.idx (.loc 8) (.int 0)))) .nil))) .nil)))) .nil))) (.cons 
      (.ret (.nt (.bi .any (.cons (.lc [8, 11] (.call 31 (.cons (.loc 8) (.cons (.loc 11) .nil))) (.tp (.cons (.nm 8) (.cons (.nm 11) .nil))) (.val (.loc 2)) .nil) .nil)))) .nil))))))))))))))))))))
def f__law_refuses_known : FI := ⟨"_law_refuses_known", some "_law_refuses_known", none, top 53, ["name", "plain", "wrong", "words", "row", "lots", "around", "good", "sort", "form", "mark", "thing", "texts", "parts", "group", "ahead", "other"], [], ⟨0, 17, b__law_refuses_known⟩⟩
/-- is_figures -/
def b_is_figures : Sms :=
      (.cons 
      (.ift (.any (.cons (.nt (.v (.call 4 (.cons (.loc 0) (.cons (.int 7) .nil))))) (.cons (.nt (.v (.call 1 (.cons (.idx (.loc 0) (.int 1)) (.cons (.int 2) (.cons (.glo 2) .nil)))))) (.cons (.v (.cmp .nin (.idx (.loc 0) (.int 2)) (.glo 11))) .nil)))) (.cons 
      (.ret (.bl false)) .nil) .nil) (.cons 
      (.ift (.any (.cons (.nt (.v (.call 1 (.cons (.idx (.loc 0) (.int 3)) (.cons (.int 1) (.cons (.glo 4) .nil)))))) (.cons (.v (.cmp .nin (.idx (.loc 0) (.int 4)) (.tup (.cons (.int 0) (.cons (.int 2) (.cons (.int 3) (.cons (.int 4) .nil))))))) (.cons (.v (.isi .bool (.idx (.loc 0) (.int 4)))) .nil)))) (.cons 
      (.ret (.bl false)) .nil) .nil) (.cons 
      (.ift (.any (.cons (.nt (.v (.call 1 (.cons (.idx (.loc 0) (.int 4)) (.cons (.int 0) (.cons (.int 4) .nil)))))) (.cons (.nt (.v (.call 2 (.cons (.idx (.loc 0) (.int 6)) (.cons (.glo 5) .nil))))) .nil))) (.cons 
      (.ret (.bl false)) .nil) .nil) (.cons 
      (.ift (.v (.cmp .eq (.idx (.loc 0) (.int 4)) (.int 0))) (.cons 
      (.ret (.cmp .eq (.idx (.loc 0) (.int 5)) (.str []))) .nil) .nil) (.cons 
      (.ret (.and (.call 3 (.cons (.idx (.loc 0) (.int 5)) .nil)) (.cmp .nin (.idx (.loc 0) (.int 5)) (.sli (.glo 1) .no (.so (.idx (.loc 0) (.int 1))))))) .nil)))))
def f_is_figures : FI := ⟨"is_figures", some "is_figures", none, top 26, ["thing"], ["thing"], ⟨1, 1, b_is_figures⟩⟩
/-- is_powers -/
def b_is_powers : Sms :=
      (.cons 
      (.ift (.any (.cons (.nt (.v (.call 4 (.cons (.loc 1) (.cons (.int 3) .nil))))) (.cons (.v (.isn false (.idx (.loc 0) (.int 1)))) (.cons (.v (.isn false (.idx (.loc 0) (.int 2)))) .nil)))) (.cons 
      (.ret (.bl false)) .nil) .nil) (.cons 
      (.ret (.and (.call 1 (.cons (.idx (.loc 1) (.int 1)) (.cons (.int 2) (.cons (.glo 3) .nil)))) (.cmp .inn (.idx (.loc 1) (.int 2)) (.glo 11)))) .nil))
def f_is_powers : FI := ⟨"is_powers", some "is_powers", none, top 27, ["sort", "thing"], ["sort", "thing"], ⟨2, 2, b_is_powers⟩⟩
/-- is_spelled -/
def b_is_spelled : Sms :=
      (.cons 
      (.ift (.any (.cons (.nt (.v (.call 4 (.cons (.loc 0) (.cons (.int 2) .nil))))) (.cons (.nt (.v (.isi .tup (.idx (.loc 0) (.int 1))))) (.cons (.nt (.v (.bi .all (.cons (.lc [3] (.call 4 (.cons (.loc 3) (.cons (.int 2) .nil))) (.nm 3) (.val (.idx (.loc 0) (.int 1))) .nil) .nil)))) .nil)))) (.cons 
      (.ret (.bl false)) .nil) .nil) (.cons 
      (.ift (.nt (.v (.bi .all (.cons (.lc [1, 2] (.and (.call 3 (.cons (.loc 1) .nil)) (.and (.call 2 (.cons (.loc 2) (.cons (.glo 5) .nil))) (.cmp .ne (.loc 2) (.str [])))) (.tp (.cons (.nm 1) (.cons (.nm 2) .nil))) (.val (.idx (.loc 0) (.int 1))) .nil) .nil)))) (.cons 
      (.ret (.bl false)) .nil) .nil) (.cons 
      (.ret (.call 5 (.cons (.lc [1, 2] (.loc 1) (.tp (.cons (.nm 1) (.cons (.nm 2) .nil))) (.val (.idx (.loc 0) (.int 1))) .nil) .nil))) .nil)))
def f_is_spelled : FI := ⟨"is_spelled", some "is_spelled", none, top 28, ["thing", "sign", "text", "pair"], ["thing"], ⟨1, 4, b_is_spelled⟩⟩
/-- is_quoted -/
def b_is_quoted : Sms :=
      (.cons 
      (.ret (.and (.call 4 (.cons (.loc 0) (.cons (.int 3) .nil))) (.and (.call 3 (.cons (.idx (.loc 0) (.int 1)) .nil)) (.and (.call 3 (.cons (.idx (.loc 0) (.int 2)) .nil)) (.cmp .ne (.idx (.loc 0) (.int 1)) (.idx (.loc 0) (.int 2))))))) .nil)
def f_is_quoted : FI := ⟨"is_quoted", some "is_quoted", none, top 29, ["thing"], ["thing"], ⟨1, 1, b_is_quoted⟩⟩
/-- is_around -/
def b_is_around : Sms :=
      (.cons 
      (.ift (.v (.cmp .eq (.idx (.loc 1) (.int 0)) (.str [115, 107, 105, 112]))) (.cons 
      (.ret (.cmp .eq (.bi .len (.cons (.loc 1) .nil)) (.int 1))) .nil) .nil) (.cons 
      (.ift (.v (.cmp .eq (.idx (.loc 1) (.int 0)) (.str [99, 117, 116]))) (.cons 
      (.ret (.and (.cmp .eq (.bi .len (.cons (.loc 1) .nil)) (.int 3)) (.and (.call 1 (.cons (.idx (.loc 1) (.int 1)) (.cons (.int 0) (.cons (.glo 7) .nil)))) (.call 28 (.cons (.loc 0) (.cons (.idx (.loc 1) (.int 2)) (.cons (.op .sub (.loc 2) (.int 1)) .nil))))))) .nil) .nil) (.cons 
      (.ift (.v (.cmp .eq (.idx (.loc 1) (.int 0)) (.str [99, 104, 101, 99, 107, 101, 100]))) (.cons 
      (.ift (.any (.cons (.v (.cmp .ne (.bi .len (.cons (.loc 1) .nil)) (.int 4))) (.cons (.nt (.v (.call 1 (.cons (.idx (.loc 1) (.int 1)) (.cons (.int 2) (.cons (.glo 13) .nil)))))) (.cons (.nt (.v (.call 1 (.cons (.idx (.loc 1) (.int 2)) (.cons (.int 1) (.cons (.op .sub (.idx (.loc 1) (.int 1)) (.int 1)) .nil)))))) .nil)))) (.cons 
      (.ret (.bl false)) .nil) .nil) (.cons 
      (.ret (.call 28 (.cons (.loc 0) (.cons (.idx (.loc 1) (.int 3)) (.cons (.op .sub (.loc 2) (.int 1)) .nil))))) .nil)) .nil) (.cons 
      (.ift (.any (.cons (.v (.cmp .ne (.bi .len (.cons (.loc 1) .nil)) (.int 5))) (.cons (.nt (.v (.call 1 (.cons (.idx (.loc 1) (.int 1)) (.cons (.int 0) (.cons (.glo 7) .nil)))))) (.cons (.nt (.v (.call 3 (.cons (.idx (.loc 1) (.int 2)) .nil)))) (.cons (.v (.cmp .nin (.idx (.loc 1) (.int 3)) (.glo 12))) .nil))))) (.cons 
      (.ret (.bl false)) .nil) .nil) (.cons 
      (.ret (.call 28 (.cons (.loc 0) (.cons (.idx (.loc 1) (.int 4)) (.cons (.op .sub (.loc 2) (.int 1)) .nil))))) .nil)))))
def f_is_around : FI := ⟨"is_around", some "is_around", none, top 30, ["sort", "thing", "deep"], ["sort", "thing", "deep"], ⟨3, 3, b_is_around⟩⟩
/-- is_row_told -/
def b_is_row_told : Sms :=
      (.cons 
      (.ift (.any (.cons (.nt (.v (.call 4 (.cons (.loc 1) (.cons (.int 2) .nil))))) (.cons (.nt (.v (.isi .tup (.idx (.loc 1) (.int 1))))) (.cons (.v (.cmp .gt (.bi .len (.cons (.idx (.loc 1) (.int 1)) .nil)) (.glo 8))) .nil)))) (.cons 
      (.ret (.bl false)) .nil) .nil) (.cons 
      (.own 3 .nil) (.cons 
      (.for (.nm 4) (.val (.idx (.loc 1) (.int 1))) (.cons 
      (.ift (.v (.isi .tup (.loc 4))) (.cons 
      (.ift (.any (.cons (.v (.cmp .ne (.bi .len (.cons (.loc 4) .nil)) (.int 2))) (.cons (.nt (.v (.call 1 (.cons (.idx (.loc 4) (.int 0)) (.cons (.int 0) (.cons (.op .sub (.bi .len (.cons (.idx (.loc 0) (.int 1)) .nil)) (.int 1)) .nil)))))) .nil))) (.cons 
      (.ret (.bl false)) .nil) .nil) (.cons 
      (.ift (.nt (.v (.call 28 (.cons (.idx (.idx (.loc 0) (.int 1)) (.idx (.loc 4) (.int 0))) (.cons (.idx (.loc 4) (.int 1)) (.cons (.op .sub (.loc 2) (.int 1)) .nil)))))) (.cons 
      (.ret (.bl false)) .nil) .nil) (.cons 
      (.app 3 (.idx (.loc 4) (.int 0))) .nil))) (.cons 
      (.ift (.any (.cons (.nt (.v (.call 2 (.cons (.loc 4) (.cons (.glo 6) .nil))))) (.cons (.v (.cmp .eq (.loc 4) (.str []))) .nil))) (.cons 
      (.ret (.bl false)) .nil) .nil) .nil)) .nil)) (.cons 
      (.ret (.cmp .eq (.loc 3) (.lrg (.rg1 (.bi .len (.cons (.idx (.loc 0) (.int 1)) .nil)))))) .nil))))
def f_is_row_told : FI := ⟨"is_row_told", some "is_row_told", none, top 31, ["sort", "thing", "deep", "numbers", "part"], ["sort", "thing", "deep"], ⟨3, 5, b_is_row_told⟩⟩
/-- is_many_told -/
def b_is_many_told : Sms :=
      (.cons 
      (.ift (.any (.cons (.nt (.v (.call 4 (.cons (.loc 1) (.cons (.int 6) .nil))))) (.cons (.nt (.v (.bi .all (.cons (.lc [3] (.call 2 (.cons (.loc 3) (.cons (.glo 5) .nil))) (.nm 3) (.val (.sli (.loc 1) (.so (.int 1)) (.so (.int 5)))) .nil) .nil)))) .nil))) (.cons 
      (.ret (.bl false)) .nil) .nil) (.cons 
      (.ret (.call 28 (.cons (.idx (.loc 0) (.int 1)) (.cons (.idx (.loc 1) (.int 5)) (.cons (.op .sub (.loc 2) (.int 1)) .nil))))) .nil))
def f_is_many_told : FI := ⟨"is_many_told", some "is_many_told", none, top 32, ["sort", "thing", "deep", "text"], ["sort", "thing", "deep"], ⟨3, 4, b_is_many_told⟩⟩
/-- is_told -/
def b_is_told : Sms :=
      (.cons 
      (.ift (.any (.cons (.nt (.v (.isi .tup (.loc 1)))) (.cons (.v (.cmp .eq (.loc 1) (.tup .nil))) (.cons (.nt (.v (.isi .str (.idx (.loc 1) (.int 0))))) (.cons (.v (.cmp .eq (.loc 2) (.int 0))) .nil))))) (.cons 
      (.ret (.bl false)) .nil) .nil) (.cons 
      (.ift (.v (.cmp .inn (.idx (.loc 1) (.int 0)) (.tup (.cons (.str [112, 97, 100]) (.cons (.str [99, 117, 116]) (.cons (.str [99, 104, 101, 99, 107, 101, 100]) (.cons (.str [115, 107, 105, 112]) .nil))))))) (.cons 
      (.ret (.call 25 (.cons (.loc 0) (.cons (.loc 1) (.cons (.loc 2) .nil))))) .nil) .nil) (.cons 
      (.mat (.idx (.loc 0) (.int 0)) (.cons [[105, 110, 116]] (.cons 
      (.ret (.or (.and (.cmp .eq (.idx (.loc 1) (.int 0)) (.str [102, 105, 103, 117, 114, 101, 115])) (.call 21 (.cons (.loc 1) .nil))) (.and (.cmp .eq (.idx (.loc 1) (.int 0)) (.str [112, 111, 119, 101, 114, 115])) (.call 22 (.cons (.loc 0) (.cons (.loc 1) .nil)))))) .nil) (.cons [[119, 111, 114, 100]] (.cons 
      (.ift (.v (.cmp .eq (.idx (.loc 1) (.int 0)) (.str [112, 108, 97, 105, 110]))) (.cons 
      (.ret (.cmp .eq (.bi .len (.cons (.loc 1) .nil)) (.int 1))) .nil) .nil) (.cons 
      (.ret (.or (.and (.cmp .eq (.idx (.loc 1) (.int 0)) (.str [115, 112, 101, 108, 108, 101, 100])) (.call 23 (.cons (.loc 1) .nil))) (.and (.cmp .eq (.idx (.loc 1) (.int 0)) (.str [113, 117, 111, 116, 101, 100])) (.call 24 (.cons (.loc 1) .nil))))) .nil)) (.cons [[111, 110, 101]] (.cons 
      (.ift (.any (.cons (.v (.cmp .ne (.idx (.loc 1) (.int 0)) (.str [110, 97, 109, 101, 115]))) (.cons (.nt (.v (.call 4 (.cons (.loc 1) (.cons (.int 2) .nil))))) (.cons (.nt (.v (.call 4 (.cons (.idx (.loc 1) (.int 1)) (.cons (.idx (.loc 0) (.int 1)) .nil))))) .nil)))) (.cons 
      (.ret (.bl false)) .nil) .nil) (.cons 
      (.ret (.bi .all (.cons (.lc [5] (.call 2 (.cons (.loc 5) (.cons (.glo 6) .nil))) (.nm 5) (.val (.idx (.loc 1) (.int 1))) .nil) .nil))) .nil)) (.cons [[109, 97, 121, 98, 101]] (.cons 
      (.ift (.any (.cons (.v (.cmp .ne (.idx (.loc 1) (.int 0)) (.str [109, 97, 121, 98, 101]))) (.cons (.nt (.v (.call 4 (.cons (.loc 1) (.cons (.int 3) .nil))))) (.cons (.nt (.v (.call 2 (.cons (.idx (.loc 1) (.int 1)) (.cons (.glo 6) .nil))))) .nil)))) (.cons 
      (.ret (.bl false)) .nil) .nil) (.cons 
      (.ret (.call 28 (.cons (.idx (.loc 0) (.int 1)) (.cons (.idx (.loc 1) (.int 2)) (.cons (.op .sub (.loc 2) (.int 1)) .nil))))) .nil)) (.cons [[114, 111, 119]] (.cons 
      (.ret (.and (.cmp .eq (.idx (.loc 1) (.int 0)) (.str [114, 111, 119])) (.call 26 (.cons (.loc 0) (.cons (.loc 1) (.cons (.loc 2) .nil)))))) .nil) (.cons [[109, 97, 110, 121]] (.cons 
      (.ret (.and (.cmp .eq (.idx (.loc 1) (.int 0)) (.str [109, 97, 110, 121])) (.call 27 (.cons (.loc 0) (.cons (.loc 1) (.cons (.loc 2) .nil)))))) .nil) .nil))))))) (.cons 
      (.ift (.any (.cons (.v (.cmp .ne (.idx (.loc 1) (.int 0)) (.str [99, 97, 115, 101]))) (.cons (.nt (.v (.call 4 (.cons (.loc 1) (.cons (.int 2) .nil))))) (.cons (.nt (.v (.call 4 (.cons (.idx (.loc 1) (.int 1)) (.cons (.bi .len (.cons (.idx (.loc 0) (.int 1)) .nil)) .nil))))) .nil)))) (.cons 
      (.ret (.bl false)) .nil) .nil) (.cons 
      (.ret (.bi .all (.cons (.lc [3, 4] (.call 28 (.cons (.loc 3) (.cons (.loc 4) (.cons (.op .sub (.loc 2) (.int 1)) .nil)))) (.tp (.cons (.nm 3) (.cons (.nm 4) .nil))) (.zip (.idx (.loc 0) (.int 1)) (.idx (.loc 1) (.int 1))) .nil) .nil))) .nil)))))
def f_is_told : FI := ⟨"is_told", some "is_told", none, top 33, ["sort", "thing", "deep", "part", "one", "text"], ["sort", "thing", "deep"], ⟨3, 6, b_is_told⟩⟩
/-- within -/
def b_within : Sms :=
      (.cons 
      (.mat (.idx (.loc 0) (.int 0)) (.cons [[112, 97, 100], [99, 117, 116], [99, 104, 101, 99, 107, 101, 100], [109, 97, 121, 98, 101], [109, 97, 110, 121]] (.cons 
      (.ret (.lst (.cons (.idx (.loc 0) (.neg (.int 1))) .nil))) .nil) (.cons [[114, 111, 119]] (.cons 
      (.ret (.lc [1] (.idx (.loc 1) (.int 1)) (.nm 1) (.val (.idx (.loc 0) (.int 1))) (.cons (.v (.isi .tup (.loc 1))) .nil))) .nil) (.cons [[99, 97, 115, 101]] (.cons 
      (.ret (.bi .lsth (.cons (.idx (.loc 0) (.int 1)) .nil))) .nil) .nil)))) (.cons 
      (.ret (.lst .nil)) .nil))
def f_within : FI := ⟨"within", some "within", none, top 34, ["form", "part"], ["form"], ⟨1, 2, b_within⟩⟩
/-- count_of -/
def b_count_of : Sms :=
      (.cons 
      (.ret (.op .add (.int 1) (.bi .sum1 (.cons (.lc [1] (.call 30 (.cons (.loc 1) .nil)) (.nm 1) (.val (.call 29 (.cons (.loc 0) .nil))) .nil) .nil)))) .nil)
def f_count_of : FI := ⟨"count_of", some "count_of", none, top 35, ["form", "part"], ["form"], ⟨1, 2, b_count_of⟩⟩
/-- is_format -/
def b_is_format : Sms :=
      (.cons 
      (.ret (.and (.call 28 (.cons (.loc 0) (.cons (.loc 1) (.cons (.glo 9) .nil)))) (.cmp .le (.call 30 (.cons (.loc 1) .nil)) (.glo 10)))) .nil)
def f_is_format : FI := ⟨"is_format", some "is_format", none, top 36, ["sort", "thing"], ["sort", "thing"], ⟨2, 2, b_is_format⟩⟩
/-- _law_cell_at -/
def b__law_cell_at : Sms :=
      (.cons 
      (.ift (.v (.cmp .lt (.loc 1) (.bi .len (.cons (.loc 0) .nil)))) (.cons 
      (.ret (.idx (.loc 0) (.loc 1))) .nil) .nil) (.cons 
      (.ret (.int 0)) .nil))
def f__law_cell_at : FI := ⟨"_law_cell_at", some "_law_cell_at", none, top 40, ["script", "k"], ["script", "k"], ⟨2, 2, b__law_cell_at⟩⟩
/-- _law_draw -/
def b__law_draw : Sms :=
      (.cons 
      (.asg 3 (.tup (.cons (.int 1000003) (.cons (.int 1000033) (.cons (.int 1000037) (.cons (.int 1000039) (.cons (.int 1000081) (.cons (.int 1000099) (.cons (.int 1000117) (.cons (.int 1000121) (.cons (.int 1000133) (.cons (.int 1000151) (.cons (.int 1000159) (.cons (.int 1000171) (.cons (.int 1000183) (.cons (.int 1000187) (.cons (.int 1000193) (.cons (.int 1000199) .nil)))))))))))))))))) (.cons 
      (.ret (.op .mod (.op .mod (.bi .int (.cons (.op .add (.op .mul (.loc 0) (.int 48271)) (.op .mul (.loc 1) (.int 69621))) .nil)) (.idx (.loc 3) (.op .mod (.bi .int (.cons (.loc 1) .nil)) (.int 16)))) (.loc 2))) .nil))
def f__law_draw : FI := ⟨"_law_draw", some "_law_draw", none, top 41, ["cell", "k", "bound", "primes"], ["cell", "k", "bound"], ⟨3, 4, b__law_draw⟩⟩
/-- _law_number -/
def b__law_number : Sms :=
      (.cons 
      (.asg 3 (.int 1)) (.cons 
      (.for (.nm 4) (.rg1 (.op .mod (.bi .int (.cons (.loc 1) .nil)) (.int 24))) (.cons 
      (.asg 3 (.op .mul (.loc 3) (.int 1009))) .nil)) (.cons 
      (.asg 5 (.op .fdv (.op .sub (.loc 0) (.op .pow (.int 10) (.int 18))) (.loc 3))) (.cons 
      (.ift (.v (.cmp .gt (.loc 5) (.int 0))) (.cons 
      (.ret (.op .mod (.op .mod (.bi .int (.cons (.loc 5) .nil)) (.int 1009)) (.loc 2))) .nil) .nil) (.cons 
      (.asg 6 (.op .mod (.bi .int (.cons (.loc 0) .nil)) (.int 1000003))) (.cons 
      (.ret (.op .mod (.call 35 (.cons (.op .mul (.op .add (.loc 6) (.op .mul (.int 977) (.loc 1))) (.op .add (.op .add (.loc 6) (.op .mul (.int 31) (.loc 1))) (.int 5))) (.cons (.op .add (.op .mod (.bi .int (.cons (.loc 1) .nil)) (.int 9)) (.int 1)) (.cons (.int 999983) .nil)))) (.loc 2))) .nil))))))
def f__law_number : FI := ⟨"_law_number", some "_law_number", none, top 42, ["cell", "k", "bound", "power", "lap", "remains", "small"], ["cell", "k", "bound"], ⟨3, 7, b__law_number⟩⟩
/-- _law_next -/
def b__law_next : Sms :=
      (.cons 
      (.stc (.loc 0) (.int 2) (.op .add (.idx (.loc 0) (.int 2)) (.int 1))) (.cons 
      (.asg 2 (.op .fdv (.idx (.loc 0) (.int 2)) (.int 12))) (.cons 
      (.asg 3 (.op .add (.call 34 (.cons (.idx (.loc 0) (.int 0)) (.cons (.op .add (.idx (.loc 0) (.int 1)) (.loc 2)) .nil))) (.op .mul (.int 31) (.loc 2)))) (.cons 
      (.ret (.call 36 (.cons (.loc 3) (.cons (.op .add (.op .mod (.bi .int (.cons (.idx (.loc 0) (.int 2)) .nil)) (.int 12)) (.int 1)) (.cons (.loc 1) .nil))))) .nil))))
def f__law_next : FI := ⟨"_law_next", some "_law_next", none, top 43, ["draw", "bound", "at", "cell"], ["draw", "bound"], ⟨2, 4, b__law_next⟩⟩
/-- _law_pick -/
def b__law_pick : Sms :=
      (.cons 
      (.ret (.idx (.loc 1) (.call 37 (.cons (.loc 0) (.cons (.bi .len (.cons (.loc 1) .nil)) .nil))))) .nil)
def f__law_pick : FI := ⟨"_law_pick", some "_law_pick", none, top 44, ["draw", "things"], ["draw", "things"], ⟨2, 2, b__law_pick⟩⟩
/-- _law_sort -/
def b__law_sort : Sms :=
      (.cons 
      (.asg 2 (.call 37 (.cons (.loc 0) (.cons (.ife (.v (.cmp .eq (.loc 1) (.int 0))) (.int 4) (.int 10)) .nil)))) (.cons 
      (.ift (.v (.cmp .lt (.loc 2) (.int 2))) (.cons 
      (.ast (.tp (.cons (.nm 3) (.cons (.nm 4) .nil))) (.call 38 (.cons (.loc 0) (.cons (.lst (.cons (.tup (.cons (.int 0) (.cons .non .nil))) (.cons (.tup (.cons .non (.cons .non .nil))) (.cons (.tup (.cons (.int 0) (.cons (.int 3) .nil))) (.cons (.tup (.cons (.neg (.int 2)) (.cons (.int 5) .nil))) (.cons (.tup (.cons (.int 5) (.cons (.int 12) .nil))) (.cons (.tup (.cons (.int 0) (.cons (.int 1) .nil))) (.cons (.tup (.cons .non (.cons (.int 2) .nil))) (.cons (.tup (.cons (.neg (.int 4)) (.cons (.neg (.int 1)) .nil))) .nil))))))))) .nil)))) (.cons 
      (.ret (.tup (.cons (.str [105, 110, 116]) (.cons (.loc 3) (.cons (.loc 4) .nil))))) .nil)) .nil) (.cons 
      (.ift (.v (.cmp .eq (.loc 2) (.int 2))) (.cons 
      (.asg 5 (.call 37 (.cons (.loc 0) (.cons (.int 2) .nil)))) (.cons 
      (.ret (.tup (.cons (.str [119, 111, 114, 100]) (.cons (.call 38 (.cons (.loc 0) (.cons (.lst (.cons (.str [97, 98]) (.cons (.str [48, 97]) (.cons (.str [45, 101]) (.cons (.str [98]) (.cons (.str [32, 44]) .nil)))))) .nil))) (.cons (.loc 5) (.cons (.call 38 (.cons (.loc 0) (.cons (.lst (.cons .non (.cons (.int 2) (.cons (.loc 5) .nil)))) .nil))) .nil)))))) .nil)) .nil) (.cons 
      (.ift (.v (.cmp .eq (.loc 2) (.int 3))) (.cons 
      (.ret (.tup (.cons (.str [111, 110, 101]) (.cons (.op .add (.int 1) (.call 37 (.cons (.loc 0) (.cons (.int 3) .nil)))) .nil)))) .nil) .nil) (.cons 
      (.ift (.v (.cmp .eq (.loc 2) (.int 4))) (.cons 
      (.ret (.tup (.cons (.str [109, 97, 121, 98, 101]) (.cons (.call 39 (.cons (.loc 0) (.cons (.op .sub (.loc 1) (.int 1)) .nil))) .nil)))) .nil) .nil) (.cons 
      (.ift (.v (.cmp .lt (.loc 2) (.int 8))) (.cons 
      (.ret (.tup (.cons (.str [114, 111, 119]) (.cons (.bi .tuple (.cons (.lc [6] (.call 39 (.cons (.loc 0) (.cons (.op .sub (.loc 1) (.int 1)) .nil))) (.nm 6) (.rg1 (.call 37 (.cons (.loc 0) (.cons (.int 3) .nil)))) .nil) .nil)) .nil)))) .nil) .nil) (.cons 
      (.ift (.v (.cmp .eq (.loc 2) (.int 8))) (.cons 
      (.asg 5 (.call 37 (.cons (.loc 0) (.cons (.int 2) .nil)))) (.cons 
      (.ret (.tup (.cons (.str [109, 97, 110, 121]) (.cons (.call 39 (.cons (.loc 0) (.cons (.op .sub (.loc 1) (.int 1)) .nil))) (.cons (.loc 5) (.cons (.call 38 (.cons (.loc 0) (.cons (.lst (.cons .non (.cons (.int 2) (.cons (.loc 5) .nil)))) .nil))) .nil)))))) .nil)) .nil) (.cons 
      (.ret (.tup (.cons (.str [99, 97, 115, 101]) (.cons (.bi .tuple (.cons (.lc [6] (.call 39 (.cons (.loc 0) (.cons (.op .sub (.loc 1) (.int 1)) .nil))) (.nm 6) (.rg1 (.op .add (.int 1) (.call 37 (.cons (.loc 0) (.cons (.int 2) .nil))))) .nil) .nil)) .nil)))) .nil))))))))
def f__law_sort : FI := ⟨"_law_sort", some "_law_sort", none, top 45, ["draw", "deep", "kind", "low", "high", "least", "part"], ["draw", "deep"], ⟨2, 7, b__law_sort⟩⟩
/-- _law_text -/
def b__law_text : Sms :=
      (.cons 
      (.ret (.mt .join (.str []) (.cons (.lc [2] (.call 38 (.cons (.loc 0) (.cons (.lst (.cons (.str [97]) (.cons (.str [48]) (.cons (.str [44]) (.cons (.str [32]) (.cons (.str [45]) .nil)))))) .nil))) (.nm 2) (.rg1 (.call 37 (.cons (.loc 0) (.cons (.op .add (.loc 1) (.int 1)) .nil)))) .nil) .nil))) .nil)
def f__law_text : FI := ⟨"_law_text", some "_law_text", none, top 46, ["draw", "most", "turn"], ["draw", "most"], ⟨2, 3, b__law_text⟩⟩
/-- _law_figures -/
def b__law_figures : Sms :=
      (.cons 
      (.par 2 3 (.call 38 (.cons (.loc 0) (.cons (.lst (.cons (.int 2) (.cons (.int 2) (.cons (.int 3) (.cons (.int 10) (.cons (.int 16) .nil)))))) .nil))) (.call 38 (.cons (.loc 0) (.cons (.lst (.cons (.str [45]) (.cons (.str [45]) (.cons (.str [43]) (.cons (.str [32]) .nil))))) .nil)))) (.cons 
      (.ift (.all (.cons (.v (.isn true (.idx (.loc 1) (.int 1)))) (.cons (.v (.isn true (.idx (.loc 1) (.int 2)))) (.cons (.v (.cmp .eq (.call 37 (.cons (.loc 0) (.cons (.int 5) .nil))) (.int 0))) .nil)))) (.cons 
      (.ret (.tup (.cons (.str [112, 111, 119, 101, 114, 115]) (.cons (.bi .min (.cons (.lst (.cons (.loc 2) (.cons (.int 10) .nil))) .nil)) (.cons (.loc 3) .nil))))) .nil) .nil) (.cons 
      (.asg 4 (.call 38 (.cons (.loc 0) (.cons (.lst (.cons (.int 0) (.cons (.int 0) (.cons (.int 0) (.cons (.int 2) (.cons (.int 3) .nil)))))) .nil)))) (.cons 
      (.ret (.tup (.cons (.str [102, 105, 103, 117, 114, 101, 115]) (.cons (.loc 2) (.cons (.loc 3) (.cons (.call 38 (.cons (.loc 0) (.cons (.lst (.cons (.int 1) (.cons (.int 1) (.cons (.int 2) (.cons (.int 3) .nil))))) .nil))) (.cons (.loc 4) (.cons (.ife (.v (.cmp .gt (.loc 4) (.int 0))) (.call 38 (.cons (.loc 0) (.cons (.lst (.cons (.str [44]) (.cons (.str [45]) (.cons (.str [32]) .nil)))) .nil))) (.str [])) (.cons (.call 38 (.cons (.loc 0) (.cons (.lst (.cons (.str []) (.cons (.str []) (.cons (.str [120]) (.cons (.str [48]) .nil))))) .nil))) .nil))))))))) .nil))))
def f__law_figures : FI := ⟨"_law_figures", some "_law_figures", none, top 47, ["draw", "sort", "base", "how", "group"], ["draw", "sort"], ⟨2, 5, b__law_figures⟩⟩
/-- _law_inner -/
def b__law_inner : Sms :=
      (.cons 
      (.ift (.v (.cmp .eq (.idx (.loc 1) (.int 0)) (.str [105, 110, 116]))) (.cons 
      (.ret (.call 41 (.cons (.loc 0) (.cons (.loc 1) .nil)))) .nil) .nil) (.cons 
      (.ift (.v (.cmp .eq (.idx (.loc 1) (.int 0)) (.str [119, 111, 114, 100]))) (.cons 
      (.asg 3 (.call 37 (.cons (.loc 0) (.cons (.int 4) .nil)))) (.cons 
      (.ift (.v (.cmp .eq (.loc 3) (.int 0))) (.cons 
      (.ret (.tup (.cons (.str [115, 112, 101, 108, 108, 101, 100]) (.cons (.bi .tuple (.cons (.lc [8] (.tup (.cons (.loc 8) (.cons (.call 38 (.cons (.loc 0) (.cons (.lst (.cons (.str [97]) (.cons (.str [97, 98]) (.cons (.str [48, 48]) (.cons (.str [44]) .nil))))) .nil))) .nil))) (.nm 8) (.val (.idx (.loc 1) (.int 1))) (.cons (.v (.cmp .eq (.call 37 (.cons (.loc 0) (.cons (.int 2) .nil))) (.int 0))) .nil)) .nil)) .nil)))) .nil) .nil) (.cons 
      (.ret (.ife (.v (.cmp .eq (.loc 3) (.int 1))) (.tup (.cons (.str [113, 117, 111, 116, 101, 100]) (.cons (.str [39]) (.cons (.call 38 (.cons (.loc 0) (.cons (.lst (.cons (.str [97]) (.cons (.str [33]) .nil))) .nil))) .nil)))) (.tup (.cons (.str [112, 108, 97, 105, 110]) .nil)))) .nil))) .nil) (.cons 
      (.ift (.v (.cmp .eq (.idx (.loc 1) (.int 0)) (.str [111, 110, 101]))) (.cons 
      (.ret (.tup (.cons (.str [110, 97, 109, 101, 115]) (.cons (.bi .tuple (.cons (.lc [5] (.call 40 (.cons (.loc 0) (.cons (.int 2) .nil))) (.nm 5) (.rg1 (.idx (.loc 1) (.int 1))) .nil) .nil)) .nil)))) .nil) .nil) (.cons 
      (.ift (.v (.cmp .eq (.idx (.loc 1) (.int 0)) (.str [109, 97, 121, 98, 101]))) (.cons 
      (.ret (.tup (.cons (.str [109, 97, 121, 98, 101]) (.cons (.call 40 (.cons (.loc 0) (.cons (.int 2) .nil))) (.cons (.call 43 (.cons (.loc 0) (.cons (.idx (.loc 1) (.int 1)) (.cons (.loc 2) .nil)))) .nil))))) .nil) .nil) (.cons 
      (.ift (.v (.cmp .eq (.idx (.loc 1) (.int 0)) (.str [114, 111, 119]))) (.cons 
      (.asg 4 (.lst .nil)) (.cons 
      (.for (.tp (.cons (.nm 5) (.cons (.nm 6) .nil))) (.enu (.idx (.loc 1) (.int 1))) (.cons 
      (.asg 7 (.ife (.v (.cmp .eq (.call 37 (.cons (.loc 0) (.cons (.int 3) .nil))) (.int 0))) (.call 40 (.cons (.loc 0) (.cons (.int 2) .nil))) (.str []))) (.cons 
      (.asg 4 (.op .add (.op .add (.loc 4) (.ife (.v (.cmp .ne (.loc 7) (.str []))) (.lst (.cons (.loc 7) .nil)) (.lst .nil))) (.lst (.cons (.tup (.cons (.loc 5) (.cons (.call 43 (.cons (.loc 0) (.cons (.loc 6) (.cons (.loc 2) .nil)))) .nil))) .nil)))) .nil))) (.cons 
      (.ret (.tup (.cons (.str [114, 111, 119]) (.cons (.bi .tuple (.cons (.loc 4) .nil)) .nil)))) .nil))) .nil) (.cons 
      (.ift (.v (.cmp .eq (.idx (.loc 1) (.int 0)) (.str [109, 97, 110, 121]))) (.cons 
      (.ret (.tup (.cons (.str [109, 97, 110, 121]) (.cons (.call 40 (.cons (.loc 0) (.cons (.int 1) .nil))) (.cons (.call 38 (.cons (.loc 0) (.cons (.lst (.cons (.str []) (.cons (.str []) (.cons (.str [40]) .nil)))) .nil))) (.cons (.call 40 (.cons (.loc 0) (.cons (.int 1) .nil))) (.cons (.call 38 (.cons (.loc 0) (.cons (.lst (.cons (.str []) (.cons (.str []) (.cons (.str [41]) .nil)))) .nil))) (.cons (.call 43 (.cons (.loc 0) (.cons (.idx (.loc 1) (.int 1)) (.cons (.loc 2) .nil)))) .nil)))))))) .nil) .nil) (.cons 
      (.ret (.tup (.cons (.str [99, 97, 115, 101]) (.cons (.bi .tuple (.cons (.lc [6] (.call 43 (.cons (.loc 0) (.cons (.loc 6) (.cons (.loc 2) .nil)))) (.nm 6) (.val (.idx (.loc 1) (.int 1))) .nil) .nil)) .nil)))) .nil)))))))
def f__law_inner : FI := ⟨"_law_inner", some "_law_inner", none, top 48, ["draw", "sort", "deep", "kind", "parts", "number", "part", "text", "sign"], ["draw", "sort", "deep"], ⟨3, 9, b__law_inner⟩⟩
/-- _law_form -/
def b__law_form : Sms :=
      (.cons 
      (.asg 3 (.call 37 (.cons (.loc 0) (.cons (.int 12) .nil)))) (.cons 
      (.ift (.all (.cons (.v (.cmp .gt (.loc 2) (.int 0))) (.cons (.v (.cmp .lt (.loc 3) (.int 3))) .nil))) (.cons 
      (.ret (.tup (.cons (.str [112, 97, 100]) (.cons (.call 37 (.cons (.loc 0) (.cons (.int 4) .nil))) (.cons (.call 38 (.cons (.loc 0) (.cons (.lst (.cons (.str [48]) (.cons (.str [32]) (.cons (.str [97]) .nil)))) .nil))) (.cons (.call 38 (.cons (.loc 0) (.cons (.lst (.cons (.str [60]) (.cons (.str [62]) (.cons (.str [94]) .nil)))) .nil))) (.cons (.call 43 (.cons (.loc 0) (.cons (.loc 1) (.cons (.op .sub (.loc 2) (.int 1)) .nil)))) .nil))))))) .nil) .nil) (.cons 
      (.ift (.all (.cons (.v (.cmp .gt (.loc 2) (.int 0))) (.cons (.v (.cmp .eq (.loc 3) (.int 3))) .nil))) (.cons 
      (.ret (.tup (.cons (.str [99, 117, 116]) (.cons (.call 37 (.cons (.loc 0) (.cons (.int 4) .nil))) (.cons (.call 43 (.cons (.loc 0) (.cons (.loc 1) (.cons (.op .sub (.loc 2) (.int 1)) .nil)))) .nil))))) .nil) .nil) (.cons 
      (.ift (.all (.cons (.v (.cmp .gt (.loc 2) (.int 0))) (.cons (.v (.cmp .eq (.loc 3) (.int 5))) (.cons (.v (.cmp .eq (.call 37 (.cons (.loc 0) (.cons (.int 2) .nil))) (.int 0))) .nil)))) (.cons 
      (.asg 4 (.call 38 (.cons (.loc 0) (.cons (.lst (.cons (.int 2) (.cons (.int 3) (.cons (.int 5) (.cons (.int 7) .nil))))) .nil)))) (.cons 
      (.ret (.tup (.cons (.str [99, 104, 101, 99, 107, 101, 100]) (.cons (.loc 4) (.cons (.op .add (.int 1) (.call 37 (.cons (.loc 0) (.cons (.op .sub (.loc 4) (.int 1)) .nil)))) (.cons (.call 43 (.cons (.loc 0) (.cons (.loc 1) (.cons (.op .sub (.loc 2) (.int 1)) .nil)))) .nil)))))) .nil)) .nil) (.cons 
      (.ret (.ife (.all (.cons (.v (.cmp .eq (.loc 3) (.int 4))) (.cons (.v (.cmp .eq (.call 37 (.cons (.loc 0) (.cons (.int 4) .nil))) (.int 0))) .nil))) (.tup (.cons (.str [115, 107, 105, 112]) .nil)) (.call 42 (.cons (.loc 0) (.cons (.loc 1) (.cons (.loc 2) .nil)))))) .nil)))))
def f__law_form : FI := ⟨"_law_form", some "_law_form", none, top 49, ["draw", "sort", "deep", "kind", "modulus"], ["draw", "sort", "deep"], ⟨3, 5, b__law_form⟩⟩
/-- law -/
def b_law : Sms :=
      (.cons 
      (.ift (.all (.cons (.v (.cmp .lt (.bi .len (.cons (.loc 0) .nil)) (.int 3))) (.cons (.nt (.v (.call 11 .nil))) .nil))) (.cons 
      (.ret (.bl false)) .nil) .nil) (.cons 
      (.cell 1 (.cons (.sli (.loc 0) .no (.so (.int 63))) (.cons (.int 0) (.cons (.int 0) .nil)))) (.cons 
      (.asg 2 (.call 39 (.cons (.loc 1) (.cons (.int 2) .nil)))) (.cons 
      (.asg 3 (.call 43 (.cons (.loc 1) (.cons (.loc 2) (.cons (.int 1) .nil))))) (.cons 
      (.exp (.call 6 (.cons (.loc 2) (.cons (.loc 3) .nil)))) (.cons 
      (.ift (.any (.cons (.nt (.v (.call 31 (.cons (.loc 2) (.cons (.loc 3) .nil))))) (.cons (.v (.cmp .ne (.call 7 (.cons (.loc 2) .nil)) (.call 8 (.cons (.loc 2) .nil)))) (.cons (.nt (.v (.call 31 (.cons (.loc 2) (.cons (.call 7 (.cons (.loc 2) .nil)) .nil))))) .nil)))) (.cons 
      (.ret (.bl false)) .nil) .nil) (.cons 
      (.for (.tp (.cons (.nm 4) (.cons (.nm 5) .nil))) (.val (.call 10 (.cons (.loc 1) .nil))) (.cons 
      (.try (.cons 
      (.exp (.call 6 (.cons (.loc 4) (.cons (.loc 5) .nil)))) (.cons 
      (.ret (.bl false)) .nil)) 0 none (.cons 
      (.ift (.v (.call 31 (.cons (.loc 4) (.cons (.loc 5) .nil)))) (.cons 
      (.ret (.bl false)) .nil) .nil) .nil)) .nil)) (.cons 
      (.ast (.tp (.cons (.nm 6) (.cons (.nm 7) .nil))) (.tup (.cons (.tup (.cons (.str [102, 105, 103, 117, 114, 101, 115]) (.cons (.int 10) (.cons (.str [45]) (.cons (.int 1) (.cons (.int 0) (.cons (.str []) (.cons (.str []) .nil)))))))) (.cons (.tup (.cons (.str [102, 105, 103, 117, 114, 101, 115]) (.cons (.int 10) (.cons (.str [45]) (.cons (.int 12) (.cons (.int 4) (.cons (.str [95]) (.cons (.str [48, 120, 48, 98]) .nil)))))))) .nil)))) (.cons 
      (.for (.nm 8) (.rg1 (.int 6)) (.cons 
      (.asg 6 (.tup (.cons (.str [99, 117, 116]) (.cons (.int 8) (.cons (.loc 6) .nil))))) .nil)) (.cons 
      (.ift (.any (.cons (.nt (.v (.call 31 (.cons (.tup (.cons (.str [105, 110, 116]) (.cons .non (.cons .non .nil)))) (.cons (.loc 6) .nil))))) (.cons (.v (.call 31 (.cons (.tup (.cons (.str [105, 110, 116]) (.cons .non (.cons .non .nil)))) (.cons (.tup (.cons (.str [112, 97, 100]) (.cons (.int 0) (.cons (.str [32]) (.cons (.str [94]) (.cons (.loc 6) .nil)))))) .nil)))) .nil))) (.cons 
      (.ret (.bl false)) .nil) .nil) (.cons 
      (.asg 9 (.tup (.cons (.str [114, 111, 119]) (.cons (.op .mul (.tup (.cons (.tup (.cons (.str [105, 110, 116]) (.cons (.int 0) (.cons (.int 9) .nil)))) .nil)) (.int 6)) .nil)))) (.cons 
      (.asg 10 (.bi .tuple (.cons (.lc [12] (.tup (.cons (.loc 12) (.cons (.tup (.cons (.str [99, 117, 116]) (.cons (.int 1) (.cons (.tup (.cons (.str [99, 117, 116]) (.cons (.int 1) (.cons (.tup (.cons (.str [99, 117, 116]) (.cons (.int 1) (.cons (.tup (.cons (.str [99, 117, 116]) (.cons (.int 1) (.cons (.loc 7) .nil)))) .nil)))) .nil)))) .nil)))) .nil))) (.nm 12) (.rg1 (.int 6)) .nil) .nil))) (.cons 
      (.asg 11 (.bi .tuple (.cons (.lc [12, 3] (.tup (.cons (.loc 12) (.cons (.tup (.cons (.str [99, 117, 116]) (.cons (.int 1) (.cons (.loc 3) .nil)))) .nil))) (.tp (.cons (.nm 12) (.cons (.nm 3) .nil))) (.val (.loc 10)) .nil) .nil))) (.cons 
      (.ret (.and (.call 31 (.cons (.loc 9) (.cons (.tup (.cons (.str [114, 111, 119]) (.cons (.op .add (.sli (.loc 10) .no (.so (.int 5))) (.sli (.loc 11) (.so (.int 5)) .no)) .nil))) .nil))) (.nt (.call 31 (.cons (.loc 9) (.cons (.tup (.cons (.str [114, 111, 119]) (.cons (.op .add (.sli (.loc 10) .no (.so (.int 4))) (.sli (.loc 11) (.so (.int 4)) .no)) .nil))) .nil)))))) .nil))))))))))))))
def f_law : FI := ⟨"law", some "law", none, top 54, ["script", "draw", "sort", "form", "kind", "thing", "deep", "figures", "turn", "wide", "some", "more", "number"], ["script"], ⟨1, 13, b_law⟩⟩
def fis : List FI := [f_is_whole, f_is_from, f_is_text, f_is_sign, f_is_row, f_are_rising, f_check_format, f_plain_format, f__law_plain, f__law_figures_wrong, f__law_wrong, f__law_refuses_known, f_is_whole, f_is_whole, f_is_whole, f_is_whole, f_is_whole, f_is_whole, f_is_whole, f_is_whole, f_is_whole, f_is_figures, f_is_powers, f_is_spelled, f_is_quoted, f_is_around, f_is_row_told, f_is_many_told, f_is_told, f_within, f_count_of, f_is_format, f_is_whole, f_is_whole, f__law_cell_at, f__law_draw, f__law_number, f__law_next, f__law_pick, f__law_sort, f__law_text, f__law_figures, f__law_inner, f__law_form, f_is_whole, f_is_whole, f_is_whole, f_is_whole, f_is_whole, f_is_whole, f_is_whole, f_is_whole, f_law]
/-- the tables -/
def tx : Tx := ⟨gn, [], [], [("BadFormat", [false])], [["thing"]], [], [0], [0, 1, 2, 3, 4, 5, 12, 13, 14, 15, 16, 17, 18, 19, 20, 21, 22, 23, 24, 25, 26, 27, 28, 29, 30, 31, 32, 33, 44, 45, 46, 47, 48, 49, 50, 51]⟩
def sup0 : Exs := (.cons (.str [110, 111, 116, 32, 97, 32, 102, 111, 114, 109, 97, 116, 32, 111, 102, 32, 116, 104, 105, 115, 32, 115, 111, 114, 116]) .nil)
theorem chk_all : fis.all (FI.chk tx fis) = true := by decide +kernel
theorem chkH_all : chkHs tx fis = true := by decide +kernel
theorem sc_all : ∀ I ∈ fis, FnScope I.N I.ps (defScope I.st) := by
  intro I h
  simp only [fis, List.mem_cons, List.not_mem_nil, or_false] at h
  rcases h with rfl | rfl | rfl | rfl | rfl | rfl | rfl | rfl | rfl | rfl | rfl | rfl | rfl | rfl | rfl | rfl | rfl | rfl | rfl | rfl | rfl | rfl | rfl | rfl | rfl | rfl | rfl | rfl | rfl | rfl | rfl | rfl | rfl | rfl | rfl | rfl | rfl | rfl | rfl | rfl | rfl | rfl | rfl | rfl | rfl | rfl | rfl | rfl | rfl | rfl | rfl | rfl | rfl
  all_goals exact ⟨rfl, rfl, rfl, by decide +kernel, rfl, by decide +kernel, by decide +kernel⟩
end RA

/-! Steps of the interpreter, one lemma for each construct: the results as equations. -/
namespace RA.St
open PySem

section
variable {G : List PV} {cf : Nat → List PV → List PV → CR} {s s1 s2 s3 : List Sl} {m m1 m2 m3 : List PV}
theorem e_non : ev G cf .non s m = .ok .non s m := rfl
theorem e_bl {b : Bool} : ev G cf (.bl b) s m = .ok (.bl b) s m := rfl
theorem e_int {i : Int} : ev G cf (.int i) s m = .ok (.int i) s m := rfl
theorem e_str {x : List Nat} : ev G cf (.str x) s m = .ok (.str x) s m := rfl
theorem e_loc {i : Nat} {p : PV} (h : s[i]? = some (.va p)) : ev G cf (.loc i) s m = .ok p s m := by show getS s i m = _; unfold getS; rw [h]
theorem e_loo {i : Nat} {p : PV} (h : s[i]? = some (.ow p)) : ev G cf (.loc i) s m = .ok p (s.set i (.va p)) m := by show getS s i m = _; unfold getS; rw [h]
theorem e_glo {g : Nat} {p : PV} (h : G[g]? = some p) : ev G cf (.glo g) s m = .ok p s m := by show lift G[g]? s m = _; rw [h]; rfl
theorem e_tup {es : Exs} {l : List PV} (h : evs G cf es s m = .ok l s1 m1) : ev G cf (.tup es) s m = .ok (.tup l) s1 m1 := by show (evs G cf es s m).bnd _ = _; rw [h]; rfl
theorem e_lst {es : Exs} {l : List PV} (h : evs G cf es s m = .ok l s1 m1) : ev G cf (.lst es) s m = .ok (.lst l) s1 m1 := by show (evs G cf es s m).bnd _ = _; rw [h]; rfl
theorem e_op {o : O2} {a b : Ex} {x y z : PV} (ha : ev G cf a s m = .ok x s1 m1) (hb : ev G cf b s1 m1 = .ok y s2 m2) (hz : op2 o x y = some z) : ev G cf (.op o a b) s m = .ok z s2 m2 := by
  show (ev G cf a s m).bnd _ = _; rw [ha]; show (ev G cf b s1 m1).bnd _ = _; rw [hb]; show lift (op2 o x y) s2 m2 = _; rw [hz]; rfl
theorem e_neg {a : Ex} {i : Int} (ha : ev G cf a s m = .ok (.int i) s1 m1) : ev G cf (.neg a) s m = .ok (.int (-i)) s1 m1 := by show (ev G cf a s m).bnd _ = _; rw [ha]; rfl
theorem e_and {a b : Ex} {y : PV} (ha : ev G cf a s m = .ok (.bl true) s1 m1) (hb : ev G cf b s1 m1 = .ok y s2 m2) : ev G cf (.and a b) s m = .ok y s2 m2 := by show (ev G cf a s m).bnd _ = _; rw [ha]; exact hb
theorem e_anf {a b : Ex} (ha : ev G cf a s m = .ok (.bl false) s1 m1) : ev G cf (.and a b) s m = .ok (.bl false) s1 m1 := by show (ev G cf a s m).bnd _ = _; rw [ha]; rfl
theorem e_or {a b : Ex} {y : PV} (ha : ev G cf a s m = .ok (.bl false) s1 m1) (hb : ev G cf b s1 m1 = .ok y s2 m2) : ev G cf (.or a b) s m = .ok y s2 m2 := by show (ev G cf a s m).bnd _ = _; rw [ha]; exact hb
theorem e_ort {a b : Ex} (ha : ev G cf a s m = .ok (.bl true) s1 m1) : ev G cf (.or a b) s m = .ok (.bl true) s1 m1 := by show (ev G cf a s m).bnd _ = _; rw [ha]; rfl
/-- both, where nothing is changed -/
theorem e_and2 {a b : Ex} {x y : Bool} (ha : ev G cf a s m = .ok (.bl x) s m) (hb : x = true → ev G cf b s m = .ok (.bl y) s m) : ev G cf (.and a b) s m = .ok (.bl (x && y)) s m := by
  cases x
  · exact e_anf ha
  · exact e_and ha (by simpa using hb rfl)
theorem e_or2 {a b : Ex} {x y : Bool} (ha : ev G cf a s m = .ok (.bl x) s m) (hb : x = false → ev G cf b s m = .ok (.bl y) s m) : ev G cf (.or a b) s m = .ok (.bl (x || y)) s m := by
  cases x
  · exact e_or ha (by simpa using hb rfl)
  · exact e_ort ha
theorem e_nt {a : Ex} {x : Bool} (ha : ev G cf a s m = .ok (.bl x) s1 m1) : ev G cf (.nt a) s m = .ok (.bl !x) s1 m1 := by show (ev G cf a s m).bnd _ = _; rw [ha]; rfl
theorem e_cmp {o : C2} {a b : Ex} {x y : PV} {z : Bool} (ha : ev G cf a s m = .ok x s1 m1) (hb : ev G cf b s1 m1 = .ok y s2 m2) (hz : cmp o x y = some z) : ev G cf (.cmp o a b) s m = .ok (.bl z) s2 m2 := by
  show (ev G cf a s m).bnd _ = _; rw [ha]; show (ev G cf b s1 m1).bnd _ = _; rw [hb]; show lift ((cmp o x y).map PV.bl) s2 m2 = _; rw [hz]; rfl
theorem e_chn {o o' : C2} {a b c : Ex} {x y z : PV} {p q : Bool} (ha : ev G cf a s m = .ok x s m) (hb : ev G cf b s m = .ok y s m) (hp : cmp o x y = some p) (hc : ev G cf c s m = .ok z s m) (hq : cmp o' y z = some q) : ev G cf (.chn o o' a b c) s m = .ok (.bl (p && q)) s m := by
  show (ev G cf a s m).bnd _ = _; rw [ha]; show (ev G cf b s m).bnd _ = _; rw [hb]; show (lift (cmp o x y) s m).bnd _ = _; rw [hp]
  show (if p then (ev G cf c s m).bnd (fun z s m => lift ((cmp o' y z).map PV.bl) s m) else .ok (PV.bl false) s m) = _
  cases p
  · rfl
  · rw [if_pos rfl, hc]; show lift ((cmp o' y z).map PV.bl) s m = _; rw [hq]; rfl
def isN : PV → Bool
  | .non => true
  | _ => false
theorem e_isn {n : Bool} {a : Ex} {x : PV} (ha : ev G cf a s m = .ok x s1 m1) : ev G cf (.isn n a) s m = .ok (.bl (isN x != n)) s1 m1 := by show (ev G cf a s m).bnd _ = _; rw [ha]; rfl
theorem e_isi {t : Ty} {a : Ex} {x : PV} (ha : ev G cf a s m = .ok x s1 m1) (hd : isD x = true) : ev G cf (.isi t a) s m = .ok (.bl (isTy t x)) s1 m1 := by
  show (ev G cf a s m).bnd _ = _; rw [ha]; show (if isD x then Res.ok (PV.bl (isTy t x)) s1 m1 else .stk) = _; rw [if_pos hd]
theorem e_ift {t : Tt} {a b : Ex} {y : PV} (ht : evt G cf t s m = .ok true s1 m1) (hb : ev G cf a s1 m1 = .ok y s2 m2) : ev G cf (.ife t a b) s m = .ok y s2 m2 := by show (evt G cf t s m).bnd _ = _; rw [ht]; exact hb
theorem e_iff {t : Tt} {a b : Ex} {y : PV} (ht : evt G cf t s m = .ok false s1 m1) (hb : ev G cf b s1 m1 = .ok y s2 m2) : ev G cf (.ife t a b) s m = .ok y s2 m2 := by show (evt G cf t s m).bnd _ = _; rw [ht]; exact hb
def notRef : PV → Bool
  | .ref _ => false
  | _ => true
theorem e_idx {a b : Ex} {x y z : PV} (ha : ev G cf a s m = .ok x s1 m1) (hb : ev G cf b s1 m1 = .ok y s2 m2) (hn : notRef x = true) (hz : idxP x y = some z) : ev G cf (.idx a b) s m = .ok z s2 m2 := by
  show (ev G cf a s m).bnd _ = _; rw [ha]; show (ev G cf b s1 m1).bnd _ = _; rw [hb]
  show lift (match x with | .ref n => (m2[n]?).bind fun c => idxP c y | _ => idxP x y) s2 m2 = _
  cases x <;> first | (rw [hz]; rfl) | (simp [notRef] at hn)
theorem e_idc {a b : Ex} {n : Nat} {y c z : PV} (ha : ev G cf a s m = .ok (.ref n) s1 m1) (hb : ev G cf b s1 m1 = .ok y s2 m2) (hc : m2[n]? = some c) (hz : idxP c y = some z) : ev G cf (.idx a b) s m = .ok z s2 m2 := by
  show (ev G cf a s m).bnd _ = _; rw [ha]; show (ev G cf b s1 m1).bnd _ = _; rw [hb]
  show lift ((m2[n]?).bind fun c => idxP c y) s2 m2 = _
  rw [hc]; show lift (idxP c y) s2 m2 = _; rw [hz]; rfl
theorem e_sli {a : Ex} {lo hi : Oe} {x z : PV} {l h : Option Int} (ha : ev G cf a s m = .ok x s1 m1) (hl : evo G cf lo s1 m1 = .ok l s2 m2) (hh : evo G cf hi s2 m2 = .ok h s3 m3) (hz : sliP x l h = some z) : ev G cf (.sli a lo hi) s m = .ok z s3 m3 := by
  show (ev G cf a s m).bnd _ = _; rw [ha]; show (evo G cf lo s1 m1).bnd _ = _; rw [hl]; show (evo G cf hi s2 m2).bnd _ = _; rw [hh]; show lift (sliP x l h) s3 m3 = _; rw [hz]; rfl
theorem o_no : evo G cf .no s m = .ok none s m := rfl
theorem o_so {a : Ex} {i : Int} (ha : ev G cf a s m = .ok (.int i) s1 m1) : evo G cf (.so a) s m = .ok (some i) s1 m1 := by show (ev G cf a s m).bnd _ = _; rw [ha]; rfl
theorem e_call {f : Nat} {es : Exs} {l : List PV} {p : PV} (ha : evs G cf es s m = .ok l s1 m1) (hc : cf f l m1 = .ok p m2) : ev G cf (.call f es) s m = .ok p s1 m2 := by
  show (evs G cf es s m).bnd _ = _; rw [ha]; show (match cf f l m1 with | .stk => Res.stk | .ok p m => .ok p s1 m | .exc e m => .exc e s1 m) = _; rw [hc]
theorem e_bi {b : Bi} {es : Exs} {l : List PV} {z : PV} (ha : evs G cf es s m = .ok l s1 m1) (hz : bi b l = some z) : ev G cf (.bi b es) s m = .ok z s1 m1 := by
  show (evs G cf es s m).bnd _ = _; rw [ha]; show lift (bi b l) s1 m1 = _; rw [hz]; rfl
theorem e_mt {k : Mt} {a : Ex} {es : Exs} {x z : PV} {l : List PV} (ha : ev G cf a s m = .ok x s1 m1) (hr : recv k x = true) (hl : evs G cf es s1 m1 = .ok l s2 m2) (hz : mt k x l = some z) : ev G cf (.mt k a es) s m = .ok z s2 m2 := by
  show (ev G cf a s m).bnd _ = _; rw [ha]
  show (if recv k x then (evs G cf es s1 m1).bnd (fun l s m => lift (mt k x l) s m) else .stk) = _
  rw [if_pos hr, hl]; show lift (mt k x l) s2 m2 = _; rw [hz]; rfl
theorem e_lc {own : List Nat} {elt : Ex} {tg : Tg} {it : It} {ifs : Tts} {l ys : List PV} (hi : evi G cf it s m = .ok l s1 m1) (hz : Nat.ble l.length SZ = true)
    (hl : lcL (fun x s1 m => (lift (asg tg x s1) s1 m).bnd fun s2 _ m => (evall G cf ifs s2 m).bnd fun c s3 m => if c then (ev G cf elt s3 m).bnd fun y s4 m => .ok (some y) (wipe s4 own) m else .ok none (wipe s3 own) m) l (wipe s1 own) m1 = .ok ys s2 m2) : ev G cf (.lc own elt tg it ifs) s m = .ok (.lst ys) (rest s1 s2 own) m2 := by
  show (evi G cf it s m).bnd _ = _; rw [hi]
  show (if Nat.ble l.length SZ then ((lcL (fun x s1 m => (lift (asg tg x s1) s1 m).bnd fun s2 _ m => (evall G cf ifs s2 m).bnd fun c s3 m => if c then (ev G cf elt s3 m).bnd fun y s4 m => .ok (some y) (wipe s4 own) m else .ok none (wipe s3 own) m) l (wipe s1 own) m1).nox).bnd (fun ys s' m => .ok (PV.lst ys) (rest s1 s' own) m) else .stk) = _
  rw [if_pos hz, hl]; rfl
theorem e_lrg {it : It} {l : List PV} (hi : evi G cf it s m = .ok l s1 m1) : ev G cf (.lrg it) s m = .ok (.lst l) s1 m1 := by show (evi G cf it s m).bnd _ = _; rw [hi]; rfl
theorem e_dcd {es : Exs} {l : List PV} {z : PV} (ha : evs G cf es s m = .ok l s1 m1) (hz : (prs l).bind mkD = some z) : ev G cf (.dcd es) s m = .ok z s1 m1 := by
  show (evs G cf es s m).bnd _ = _; rw [ha]; show lift ((prs l).bind mkD) s1 m1 = _; rw [hz]; rfl
theorem e_dix {a b : Ex} {ks vs : List PV} {t : List Nat} {z : PV} (ha : ev G cf a s m = .ok (.dic ks vs) s1 m1) (hb : ev G cf b s1 m1 = .ok (.str t) s2 m2) (hz : getD ks vs t = some (some z)) : ev G cf (.dix a b) s m = .ok z s2 m2 := by
  show (ev G cf a s m).bnd _ = _; rw [ha]; show (ev G cf b s1 m1).bnd _ = _; rw [hb]; show lift ((getD ks vs t).bind fun o => o) s2 m2 = _; rw [hz]; rfl
theorem e_dof {a : Ex} {l : List PV} {z : PV} (ha : ev G cf a s m = .ok (.tup l) s1 m1) (hz : (pPairs l).bind mkD = some z) : ev G cf (.dof a) s m = .ok z s1 m1 := by
  show (ev G cf a s m).bnd _ = _; rw [ha]; show lift ((pPairs l).bind mkD) s1 m1 = _; rw [hz]; rfl
theorem e_dgt {d k x : Ex} {ks vs : List PV} {t : List Nat} {w : PV} {o : Option PV} (hd : ev G cf d s m = .ok (.dic ks vs) s1 m1) (hk : ev G cf k s1 m1 = .ok (.str t) s2 m2) (hx : ev G cf x s2 m2 = .ok w s3 m3) (hz : getD ks vs t = some o) : ev G cf (.dgt d k x) s m = .ok (o.getD w) s3 m3 := by
  show (ev G cf d s m).bnd _ = _; rw [hd]; show (ev G cf k s1 m1).bnd _ = _; rw [hk]; show (ev G cf x s2 m2).bnd _ = _; rw [hx]; show lift ((getD ks vs t).map fun o => o.getD w) s3 m3 = _; rw [hz]; rfl
theorem e_rev {a : Ex} {t : List Nat} (ha : ev G cf a s m = .ok (.str t) s1 m1) : ev G cf (.rev a) s m = .ok (.str t.reverse) s1 m1 := by show (ev G cf a s m).bnd _ = _; rw [ha]; rfl
theorem l_nil : evs G cf .nil s m = .ok [] s m := rfl
theorem l_cons {e : Ex} {es : Exs} {x : PV} {l : List PV} (ha : ev G cf e s m = .ok x s1 m1) (hl : evs G cf es s1 m1 = .ok l s2 m2) : evs G cf (.cons e es) s m = .ok (x :: l) s2 m2 := by
  show (ev G cf e s m).bnd _ = _; rw [ha]; show (evs G cf es s1 m1).bnd _ = _; rw [hl]; rfl
theorem i_val' {e : Ex} {x : PV} {l : List PV} (ha : ev G cf e s m = .ok x s1 m1) (hl : items x = some l) : evi G cf (.val e) s m = .ok l s1 m1 := by
  show (ev G cf e s m).bnd _ = _; rw [ha]; show lift (items x) s1 m1 = _; rw [hl]; rfl
theorem i_rg1' {e : Ex} {j : Int} {l : List PV} (ha : ev G cf e s m = .ok (.int j) s1 m1) (hl : rng 0 j = some l) : evi G cf (.rg1 e) s m = .ok l s1 m1 := by
  show (ev G cf e s m).bnd _ = _; rw [ha]; show lift (rng 0 j) s1 m1 = _; rw [hl]; rfl
theorem i_rg2' {a b : Ex} {i j : Int} {l : List PV} (ha : ev G cf a s m = .ok (.int i) s1 m1) (hb : ev G cf b s1 m1 = .ok (.int j) s2 m2) (hl : rng i j = some l) : evi G cf (.rg2 a b) s m = .ok l s2 m2 := by
  show (ev G cf a s m).bnd _ = _; rw [ha]; show (ev G cf b s1 m1).bnd _ = _; rw [hb]; show lift (rng i j) s2 m2 = _; rw [hl]; rfl
theorem i_enu' {e : Ex} {x : PV} {l : List PV} (ha : ev G cf e s m = .ok x s1 m1) (hl : items x = some l) : evi G cf (.enu e) s m = .ok (enum 0 l) s1 m1 := by
  show (ev G cf e s m).bnd _ = _; rw [ha]; show lift ((items x).map (enum 0)) s1 m1 = _; rw [hl]; rfl
theorem i_zip' {a b : Ex} {x y : PV} {l r : List PV} (ha : ev G cf a s m = .ok x s1 m1) (hb : ev G cf b s1 m1 = .ok y s2 m2) (hl : items x = some l) (hr : items y = some r) : evi G cf (.zip a b) s m = .ok (zipP l r) s2 m2 := by
  show (ev G cf a s m).bnd _ = _; rw [ha]; show (ev G cf b s1 m1).bnd _ = _; rw [hb]; show lift ((items x).bind fun l => (items y).map fun r => zipP l r) s2 m2 = _; rw [hl, hr]; rfl
theorem t_v' {e : Ex} {x : Bool} (ha : ev G cf e s m = .ok (.bl x) s1 m1) : evt G cf (.v e) s m = .ok x s1 m1 := by show (ev G cf e s m).bnd _ = _; rw [ha]; rfl
theorem t_nt' {t : Tt} {x : Bool} (ha : evt G cf t s m = .ok x s1 m1) : evt G cf (.nt t) s m = .ok (!x) s1 m1 := by show (evt G cf t s m).bnd _ = _; rw [ha]; rfl
theorem t_allnil : evt G cf (.all .nil) s m = .ok true s m := rfl
theorem t_all' {t : Tt} {ts : Tts} {x y : Bool} (ha : evt G cf t s m = .ok x s m) (hb : x = true → evt G cf (.all ts) s m = .ok y s m) : evt G cf (.all (.cons t ts)) s m = .ok (x && y) s m := by
  show (evt G cf t s m).bnd _ = _; rw [ha]; show (if x then evall G cf ts s m else .ok false s m) = _
  cases x
  · rfl
  · rw [if_pos rfl]; exact hb rfl
theorem t_anynil : evt G cf (.any .nil) s m = .ok false s m := rfl
theorem t_any' {t : Tt} {ts : Tts} {x y : Bool} (ha : evt G cf t s m = .ok x s m) (hb : x = false → evt G cf (.any ts) s m = .ok y s m) : evt G cf (.any (.cons t ts)) s m = .ok (x || y) s m := by
  show (evt G cf t s m).bnd _ = _; rw [ha]; show (if x then .ok true s m else evany G cf ts s m) = _
  cases x
  · exact hb rfl
  · rfl

/-! ### statements -/
theorem x_asg {i : Nat} {e : Ex} {x : PV} (ha : ev G cf e s m = .ok x s1 m1) : xs G cf (.asg i e) s m = .ok .nx (s1.set i (.va x)) m1 := by show (ev G cf e s m).bnd _ = _; rw [ha]; rfl
theorem x_cell {i : Nat} {es : Exs} {l : List PV} (ha : evs G cf es s m = .ok l s1 m1) : xs G cf (.cell i es) s m = .ok .nx (s1.set i (.va (.ref m1.length))) (m1 ++ [.lst l]) := by show (evs G cf es s m).bnd _ = _; rw [ha]; rfl
theorem x_own {i : Nat} {es : Exs} {l : List PV} (ha : evs G cf es s m = .ok l s1 m1) : xs G cf (.own i es) s m = .ok .nx (s1.set i (.ow (.lst l))) m1 := by show (evs G cf es s m).bnd _ = _; rw [ha]; rfl
theorem x_ast {tg : Tg} {e : Ex} {x : PV} {s' : List Sl} (ha : ev G cf e s m = .ok x s1 m1) (hg : asg tg x s1 = some s') : xs G cf (.ast tg e) s m = .ok .nx s' m1 := by
  show (ev G cf e s m).bnd _ = _; rw [ha]; show (lift (asg tg x s1) s1 m1).bnd _ = _; rw [hg]; rfl
theorem x_par {i j : Nat} {a b : Ex} {x y : PV} (ha : ev G cf a s m = .ok x s1 m1) (hb : ev G cf b s1 m1 = .ok y s2 m2) : xs G cf (.par i j a b) s m = .ok .nx ((s2.set i (.va x)).set j (.va y)) m2 := by
  show (ev G cf a s m).bnd _ = _; rw [ha]; show (ev G cf b s1 m1).bnd _ = _; rw [hb]; rfl
theorem x_par3 {i j k : Nat} {a b c : Ex} {x y z : PV} (ha : ev G cf a s m = .ok x s1 m1) (hb : ev G cf b s1 m1 = .ok y s2 m2) (hc : ev G cf c s2 m2 = .ok z s3 m3) : xs G cf (.par3 i j k a b c) s m = .ok .nx (((s3.set i (.va x)).set j (.va y)).set k (.va z)) m3 := by
  show (ev G cf a s m).bnd _ = _; rw [ha]; show (ev G cf b s1 m1).bnd _ = _; rw [hb]; show (ev G cf c s2 m2).bnd _ = _; rw [hc]; rfl
theorem x_stc {a k v : Ex} {n j : Nat} {i : Int} {z : PV} {l : List PV} (hv : ev G cf v s m = .ok z s1 m1) (ha : ev G cf a s1 m1 = .ok (.ref n) s2 m2) (hk : ev G cf k s2 m2 = .ok (.int i) s3 m3) (hl : m3[n]? = some (.lst l)) (hj : pIx l.length i = some j) : xs G cf (.stc a k v) s m = .ok .nx s3 (m3.set n (.lst (l.set j z))) := by
  show (ev G cf v s m).bnd _ = _; rw [hv]; show (ev G cf a s1 m1).bnd _ = _; rw [ha]; show (ev G cf k s2 m2).bnd _ = _; rw [hk]
  show (match m3[n]? with | some (.lst l) => (match pIx l.length i with | some j => Res.ok Fl.nx s3 (m3.set n (.lst (l.set j z))) | none => .stk) | _ => .stk) = _
  rw [hl]; show (match pIx l.length i with | some j => Res.ok Fl.nx s3 (m3.set n (.lst (l.set j z))) | none => .stk) = _; rw [hj]
theorem x_ift {t : Tt} {a b : Sms} {f : Fl} (ht : evt G cf t s m = .ok true s1 m1) (ha : xss G cf a s1 m1 = .ok f s2 m2) : xs G cf (.ift t a b) s m = .ok f s2 m2 := by show (evt G cf t s m).bnd _ = _; rw [ht]; exact ha
theorem x_iff {t : Tt} {a b : Sms} {f : Fl} (ht : evt G cf t s m = .ok false s1 m1) (ha : xss G cf b s1 m1 = .ok f s2 m2) : xs G cf (.ift t a b) s m = .ok f s2 m2 := by show (evt G cf t s m).bnd _ = _; rw [ht]; exact ha
theorem x_ret {e : Ex} {x : PV} (ha : ev G cf e s m = .ok x s1 m1) : xs G cf (.ret e) s m = .ok (.rt x) s1 m1 := by show (ev G cf e s m).bnd _ = _; rw [ha]; rfl
theorem x_for {tg : Tg} {it : It} {b : Sms} {l : List PV} {f : Fl} (hi : evi G cf it s m = .ok l s1 m1) (hl : forL (fun x s m => (lift (asg tg x s) s m).bnd fun s' _ m => xss G cf b s' m) l s1 m1 = .ok f s2 m2) : xs G cf (.for tg it b) s m = .ok f s2 m2 := by
  show (evi G cf it s m).bnd _ = _; rw [hi]; exact hl
theorem x_mat {e : Ex} {cs : Mcs} {z : List Nat} {f : Fl} (ha : ev G cf e s m = .ok (.str z) s1 m1) (hc : xm G cf cs z s1 m1 = .ok f s2 m2) : xs G cf (.mat e cs) s m = .ok f s2 m2 := by show (ev G cf e s m).bnd _ = _; rw [ha]; exact hc
theorem m_yes {ks : List (List Nat)} {b : Sms} {r : Mcs} {z : List Nat} {f : Fl} (h : ks.contains z = true) (hb : xss G cf b s m = .ok f s1 m1) : xm G cf (.cons ks b r) z s m = .ok f s1 m1 := by show (if ks.contains z then xss G cf b s m else xm G cf r z s m) = _; rw [if_pos h]; exact hb
theorem m_no {ks : List (List Nat)} {b : Sms} {r : Mcs} {z : List Nat} {f : Fl} (h : ks.contains z = false) (hb : xm G cf r z s m = .ok f s1 m1) : xm G cf (.cons ks b r) z s m = .ok f s1 m1 := by show (if ks.contains z then xss G cf b s m else xm G cf r z s m) = _; rw [if_neg (by rw [h]; exact Bool.false_ne_true)]; exact hb
theorem m_nil {z : List Nat} : xm G cf .nil z s m = .ok .nx s m := rfl
theorem b_nil : xss G cf .nil s m = .ok .nx s m := rfl
theorem b_nx {c : Sm} {r : Sms} {f : Fl} (h : xs G cf c s m = .ok .nx s1 m1) (hr : xss G cf r s1 m1 = .ok f s2 m2) : xss G cf (.cons c r) s m = .ok f s2 m2 := by show (xs G cf c s m).bnd _ = _; rw [h]; exact hr
theorem b_rt {c : Sm} {r : Sms} {p : PV} (h : xs G cf c s m = .ok (.rt p) s1 m1) : xss G cf (.cons c r) s m = .ok (.rt p) s1 m1 := by show (xs G cf c s m).bnd _ = _; rw [h]; rfl
end
section
variable {G : List PV} {F : List Fn}
theorem callN_at {n f : Nat} {fn : Fn} {as m : List PV} (h : F[f]? = some fn) (hl : as.length = fn.np) : callN G F (n + 1) f as m = (match xss G (callN G F n) fn.body (as.map .va ++ List.replicate (fn.ns - fn.np) .un) m with
    | .ok (.rt p) _ m => .ok p m
    | .ok .nx _ m => .ok .non m
    | .exc e _ m => .exc e m
    | _ => .stk) := by
  show (match F[f]? with | none => CR.stk | some fn => _) = _
  rw [h]
  show (if (as.length == fn.np) = true then _ else _) = _
  rw [if_pos (by simpa using hl)]
  all_goals rfl
theorem c_rt {n f : Nat} {fn : Fn} {as m m1 : List PV} {p : PV} {s1 : List Sl} (h : F[f]? = some fn) (hl : as.length = fn.np) (hb : xss G (callN G F n) fn.body (as.map .va ++ List.replicate (fn.ns - fn.np) .un) m = .ok (.rt p) s1 m1) : callN G F (n + 1) f as m = .ok p m1 := by
  rw [callN_at h hl, hb]
end
end RA.St

/-! Comprehensions whose turns change no cell, and those that draw. -/
namespace RA.St
open PySem

section
variable {G : List PV} {cf : Nat → List PV → List PV → CR} {s s1 s2 : List Sl} {m m1 m2 : List PV}
theorem lc_pure {g : PV → List Sl → List PV → Res (Option PV)} {f : PV → PV} : ∀ (l : List PV), (∀ x ∈ l, g x s m = .ok (some (f x)) s m) → lcL g l s m = .ok (l.map f) s m
  | [], _ => rfl
  | x :: l, h => by
    show (g x s m).bnd _ = _
    rw [h x (List.mem_cons_self ..)]
    show (lcL g l s m).bnd _ = _
    rw [lc_pure l fun y hy => h y (List.mem_cons_of_mem _ hy)]
    rfl
theorem lc_filt {g : PV → List Sl → List PV → Res (Option PV)} {c : PV → Bool} {f : PV → PV} : ∀ (l : List PV), (∀ x ∈ l, g x s m = .ok (if c x then some (f x) else none) s m) → lcL g l s m = .ok ((l.filter c).map f) s m
  | [], _ => rfl
  | x :: l, h => by
    show (g x s m).bnd _ = _
    rw [h x (List.mem_cons_self ..)]
    show (lcL g l s m).bnd _ = _
    rw [lc_filt l fun y hy => h y (List.mem_cons_of_mem _ hy)]
    rw [List.filter_cons]
    cases c x <;> rfl
/-- a comprehension without a condition: its turns change nothing -/
theorem e_lcp {own : List Nat} {elt : Ex} {tg : Tg} {it : It} {l : List PV} {f : PV → PV} (S : PV → List Sl) (hi : evi G cf it s m = .ok l s1 m) (hz : Nat.ble l.length SZ = true)
    (ha : ∀ x ∈ l, asg tg x (wipe s1 own) = some (S x)) (he : ∀ x ∈ l, ev G cf elt (S x) m = .ok (f x) (S x) m) (hw : ∀ x ∈ l, wipe (S x) own = wipe s1 own) :
    ev G cf (.lc own elt tg it .nil) s m = .ok (.lst (l.map f)) (rest s1 (wipe s1 own) own) m := by
  apply e_lc hi hz
  apply lc_pure
  intro x hx
  rw [ha x hx]
  show (ev G cf elt (S x) m).bnd _ = _
  rw [he x hx]
  show Res.ok (some (f x)) (wipe (S x) own) m = _
  rw [hw x hx]
/-- a comprehension with conditions: its turns change nothing -/
theorem e_lcf {own : List Nat} {elt : Ex} {tg : Tg} {it : It} {ifs : Tts} {l : List PV} {f : PV → PV} (c : PV → Bool) (S : PV → List Sl) (hi : evi G cf it s m = .ok l s1 m) (hz : Nat.ble l.length SZ = true)
    (ha : ∀ x ∈ l, asg tg x (wipe s1 own) = some (S x)) (hc : ∀ x ∈ l, evall G cf ifs (S x) m = .ok (c x) (S x) m) (he : ∀ x ∈ l, c x = true → ev G cf elt (S x) m = .ok (f x) (S x) m) (hw : ∀ x ∈ l, wipe (S x) own = wipe s1 own) :
    ev G cf (.lc own elt tg it ifs) s m = .ok (.lst ((l.filter c).map f)) (rest s1 (wipe s1 own) own) m := by
  apply e_lc hi hz
  apply lc_filt
  intro x hx
  rw [ha x hx]
  show (evall G cf ifs (S x) m).bnd _ = _
  rw [hc x hx]
  show (if c x then (ev G cf elt (S x) m).bnd fun y s4 m => Res.ok (some y) (wipe s4 own) m else .ok none (wipe (S x) own) m) = _
  cases hcx : c x
  · rw [if_neg Bool.false_ne_true, if_neg Bool.false_ne_true, hw x hx]
  · rw [if_pos rfl, if_pos rfl, he x hx hcx]
    show Res.ok (some (f x)) (wipe (S x) own) m = _
    rw [hw x hx]
/-- the turns of a drawing comprehension -/
theorem lc_draw {g : PV → List Sl → List PV → Res (Option PV)} {I : List PV → Prop} {P : PV → PV → Prop} : ∀ (l : List PV) (m : List PV), I m → (∀ x ∈ l, ∀ m, I m → ∃ y m', g x s m = .ok (some y) s m' ∧ I m' ∧ P x y) → ∃ ys m', lcL g l s m = .ok ys s m' ∧ I m' ∧ ys.length = l.length ∧ ∀ y ∈ ys, ∃ x ∈ l, P x y
  | [], m, hm, _ => ⟨[], m, rfl, hm, rfl, fun y hy => (List.not_mem_nil hy).elim⟩
  | x :: l, m, hm, h => by
    obtain ⟨y, m1, hy, hm1, hP⟩ := h x (List.mem_cons_self ..) m hm
    obtain ⟨ys, m2, hys, hm2, hl, hPs⟩ := lc_draw l m1 hm1 fun z hz => h z (List.mem_cons_of_mem _ hz)
    refine ⟨y :: ys, m2, ?_, hm2, by rw [List.length_cons, List.length_cons, hl], ?_⟩
    · show (g x s m).bnd _ = _
      rw [hy]
      show (lcL g l s m1).bnd _ = _
      rw [hys]
      rfl
    · intro z hz
      rcases List.mem_cons.1 hz with rfl | hz
      · exact ⟨x, List.mem_cons_self .., hP⟩
      · obtain ⟨w, hw, hp⟩ := hPs z hz
        exact ⟨w, List.mem_cons_of_mem _ hw, hp⟩
/-- a comprehension that draws -/
theorem e_lcd {own : List Nat} {elt : Ex} {tg : Tg} {it : It} {l : List PV} {I : List PV → Prop} {P : PV → PV → Prop} (S : PV → List Sl) (hi : evi G cf it s m = .ok l s1 m1) (hI : I m1) (hz : Nat.ble l.length SZ = true)
    (ha : ∀ x ∈ l, asg tg x (wipe s1 own) = some (S x)) (he : ∀ x ∈ l, ∀ m, I m → ∃ y m', ev G cf elt (S x) m = .ok y (S x) m' ∧ I m' ∧ P x y) (hw : ∀ x ∈ l, wipe (S x) own = wipe s1 own) :
    ∃ ys m', ev G cf (.lc own elt tg it .nil) s m = .ok (.lst ys) (rest s1 (wipe s1 own) own) m' ∧ I m' ∧ ys.length = l.length ∧ ∀ y ∈ ys, ∃ x ∈ l, P x y := by
  obtain ⟨ys, m2, h1, h2, h3, h4⟩ := lc_draw (s := wipe s1 own) (I := I) (P := P) (g := fun x s1 m => (lift (asg tg x s1) s1 m).bnd fun s2 _ m => (evall G cf .nil s2 m).bnd fun c s3 m => if c then (ev G cf elt s3 m).bnd fun y s4 m => .ok (some y) (wipe s4 own) m else .ok none (wipe s3 own) m) l m1 hI (by
    intro x hx m hm
    obtain ⟨y, m', h, hI', hP⟩ := he x hx m hm
    refine ⟨y, m', ?_, hI', hP⟩
    show (lift (asg tg x (wipe s1 own)) (wipe s1 own) m).bnd _ = _
    rw [ha x hx]
    show (ev G cf elt (S x) m).bnd _ = _
    rw [h]
    show Res.ok (some y) (wipe (S x) own) m' = _
    rw [hw x hx])
  exact ⟨ys, m2, e_lc hi hz h1, h2, h3, h4⟩
/-- loops with an invariant: each turn goes on -/
theorem w_go {t : List Sl → List PV → Res Bool} {b : List Sl → List PV → Res Fl} {n : Nat} {r : Res Fl} (ht : t s m = .ok true s1 m1) (hb : b s1 m1 = .ok .nx s2 m2) (hr : whlN t b n s2 m2 = r) : whlN t b (n + 1) s m = r := by
  show (t s m).bnd _ = _
  rw [ht]
  show (b s1 m1).bnd _ = _
  rw [hb]
  exact hr
theorem w_end {t : List Sl → List PV → Res Bool} {b : List Sl → List PV → Res Fl} {n : Nat} (ht : t s m = .ok false s1 m1) : whlN t b (n + 1) s m = .ok .nx s1 m1 := by
  show (t s m).bnd _ = _
  rw [ht]
  rfl
end
section
variable {G : List PV} {cf : Nat → List PV → List PV → CR} {s s1 s2 s3 : List Sl} {m m1 m2 m3 : List PV}
theorem t_nf {t : Tt} (ha : evt G cf t s m = .ok true s1 m1) : evt G cf (.nt t) s m = .ok false s1 m1 := t_nt' ha
theorem t_ny {t : Tt} (ha : evt G cf t s m = .ok false s1 m1) : evt G cf (.nt t) s m = .ok true s1 m1 := t_nt' ha
theorem t_allt {t : Tt} {ts : Tts} (ha : evt G cf t s m = .ok true s m) (hb : evt G cf (.all ts) s m = .ok true s m) : evt G cf (.all (.cons t ts)) s m = .ok true s m := t_all' (y := true) ha fun _ => hb
theorem t_allg {t : Tt} {ts : Tts} {y : Bool} (ha : evt G cf t s m = .ok true s m) (hb : evt G cf (.all ts) s m = .ok y s m) : evt G cf (.all (.cons t ts)) s m = .ok y s m := by have h := t_all' (y := y) ha fun _ => hb; rwa [Bool.true_and] at h
theorem t_allf {t : Tt} {ts : Tts} (ha : evt G cf t s m = .ok false s m) : evt G cf (.all (.cons t ts)) s m = .ok false s m := t_all' (y := false) ha fun h => by cases h
theorem t_anyf {t : Tt} {ts : Tts} {y : Bool} (ha : evt G cf t s m = .ok false s m) (hb : evt G cf (.any ts) s m = .ok y s m) : evt G cf (.any (.cons t ts)) s m = .ok y s m := by have h := t_any' (y := y) ha fun _ => hb; rwa [Bool.false_or] at h
theorem t_anyt {t : Tt} {ts : Tts} (ha : evt G cf t s m = .ok true s m) : evt G cf (.any (.cons t ts)) s m = .ok true s m := t_any' (y := true) ha fun h => by cases h
theorem e_nf {a : Ex} (ha : ev G cf a s m = .ok (.bl true) s1 m1) : ev G cf (.nt a) s m = .ok (.bl false) s1 m1 := e_nt ha
theorem e_ny {a : Ex} (ha : ev G cf a s m = .ok (.bl false) s1 m1) : ev G cf (.nt a) s m = .ok (.bl true) s1 m1 := e_nt ha
theorem e_cht {o o' : C2} {a b c : Ex} {x y z : PV} (ha : ev G cf a s m = .ok x s m) (hb : ev G cf b s m = .ok y s m) (hp : cmp o x y = some true) (hc : ev G cf c s m = .ok z s m) (hq : cmp o' y z = some true) : ev G cf (.chn o o' a b c) s m = .ok (.bl true) s m := e_chn ha hb hp hc hq
theorem e_isy {t : Ty} {a : Ex} {x : PV} (ha : ev G cf a s m = .ok x s1 m1) (hd : isD x = true) (hy : isTy t x = true) : ev G cf (.isi t a) s m = .ok (.bl true) s1 m1 := by rw [← hy]; exact e_isi ha hd
theorem e_isf {t : Ty} {a : Ex} {x : PV} (ha : ev G cf a s m = .ok x s1 m1) (hd : isD x = true) (hy : isTy t x = false) : ev G cf (.isi t a) s m = .ok (.bl false) s1 m1 := by rw [← hy]; exact e_isi ha hd
theorem e_iny {a : Ex} (ha : ev G cf a s m = .ok .non s1 m1) : ev G cf (.isn false a) s m = .ok (.bl true) s1 m1 := e_isn ha
theorem e_inf {a : Ex} {x : PV} (ha : ev G cf a s m = .ok x s1 m1) (h : isN x = false) : ev G cf (.isn false a) s m = .ok (.bl false) s1 m1 := by have := e_isn (n := false) ha; rw [h] at this; exact this
theorem e_nny {a : Ex} {x : PV} (ha : ev G cf a s m = .ok x s1 m1) (h : isN x = false) : ev G cf (.isn true a) s m = .ok (.bl true) s1 m1 := by have := e_isn (n := true) ha; rw [h] at this; exact this
theorem e_nnf {a : Ex} (ha : ev G cf a s m = .ok .non s1 m1) : ev G cf (.isn true a) s m = .ok (.bl false) s1 m1 := e_isn ha
end
section
variable {i j : Int}
theorem le_t (h : i ≤ j) : cmp .le (.int i) (.int j) = some true := by show some (decide _) = _; rw [decide_eq_true h]
theorem le_f (h : j < i) : cmp .le (.int i) (.int j) = some false := by show some (decide _) = _; rw [decide_eq_false (by omega)]
theorem lt_t (h : i < j) : cmp .lt (.int i) (.int j) = some true := by show some (decide _) = _; rw [decide_eq_true h]
theorem lt_f (h : j ≤ i) : cmp .lt (.int i) (.int j) = some false := by show some (decide _) = _; rw [decide_eq_false (by omega)]
theorem gt_t (h : j < i) : cmp .gt (.int i) (.int j) = some true := by show some (decide _) = _; rw [decide_eq_true h]
theorem gt_f (h : i ≤ j) : cmp .gt (.int i) (.int j) = some false := by show some (decide _) = _; rw [decide_eq_false (by omega)]
theorem ge_t (h : j ≤ i) : cmp .ge (.int i) (.int j) = some true := by show some (decide _) = _; rw [decide_eq_true h]
theorem ge_f (h : i < j) : cmp .ge (.int i) (.int j) = some false := by show some (decide _) = _; rw [decide_eq_false (by omega)]
theorem eqC_int : eqC (.int i) (.int j) = some (i == j) := rfl
theorem eq_t (h : i = j) : cmp .eq (.int i) (.int j) = some true := by show some (i == j) = _; rw [beq_iff_eq.2 h]
theorem eq_f (h : i ≠ j) : cmp .eq (.int i) (.int j) = some false := by show some (i == j) = _; rw [beq_eq_false_iff_ne.2 h]
theorem eqs_t {x y : List Nat} (h : x = y) : cmp .eq (.str x) (.str y) = some true := by show some (x == y) = _; rw [beq_iff_eq.2 h]
theorem eqs_f {x y : List Nat} (h : x ≠ y) : cmp .eq (.str x) (.str y) = some false := by show some (x == y) = _; rw [beq_eq_false_iff_ne.2 h]
theorem nes_t {x y : List Nat} (h : x ≠ y) : cmp .ne (.str x) (.str y) = some true := by show (some (x == y)).map not = _; rw [beq_eq_false_iff_ne.2 h]; rfl
theorem nes_f {x y : List Nat} (h : x = y) : cmp .ne (.str x) (.str y) = some false := by show (some (x == y)).map not = _; rw [beq_iff_eq.2 h]; rfl
end
theorem pBls_map {α : Type} (l : List α) (f : α → Bool) : pBls (l.map fun x => PV.bl (f x)) = some (l.map f) := by
  induction l with
  | nil => rfl
  | cons x l ih => show (pBls (l.map fun x => PV.bl (f x))).map _ = _; rw [ih]; rfl
theorem bi_all {l : List PV} (h : ∀ x ∈ l, x = .bl true) : bi .all [.lst l] = some (.bl true) := by
  show (pBls l).map _ = _
  have : pBls l = some (l.map fun _ => true) := by
    induction l with
    | nil => rfl
    | cons x l ih => rw [h x (List.mem_cons_self ..)]; show (pBls l).map _ = _; rw [ih fun y hy => h y (List.mem_cons_of_mem _ hy)]; rfl
  rw [this]
  show some (PV.bl _) = _
  congr 2
  simp
end RA.St

/-! The draws of a law, by the interpreter: whatever the script, a number below the bound. -/
namespace RA.St
open PySem

theorem op_mod {i j : Int} (h : 0 < j) : op2 .mod (.int i) (.int j) = some (.int (i % j)) := by show (if 0 < j then some (PV.int (i % j)) else none) = _; rw [if_pos h]
theorem op_fdv {i j : Int} (h : 0 < j) (h2 : j.natAbs < BW) : op2 .fdv (.int i) (.int j) = some (.int (i / j)) := by show (if 0 < j ∧ j.natAbs < BW then some (PV.int (i / j)) else none) = _; rw [if_pos ⟨h, h2⟩]
theorem op_mulR {i j : Int} (h : small j = true) : op2 .mul (.int i) (.int j) = some (.int (i * j)) := by show (if small i || small j then some (PV.int (i * j)) else if i.natAbs < BW ∧ j.natAbs < BW then some (.int (i * j)) else none) = _; rw [h, Bool.or_true, if_pos rfl]
theorem op_mulL {i j : Int} (h : small i = true) : op2 .mul (.int i) (.int j) = some (.int (i * j)) := by show (if small i || small j then some (PV.int (i * j)) else if i.natAbs < BW ∧ j.natAbs < BW then some (.int (i * j)) else none) = _; rw [h, Bool.true_or, if_pos rfl]
theorem op_pow {i j : Int} (h : 0 ≤ j ∧ j ≤ 1000000 ∧ small i = true) : op2 .pow (.int i) (.int j) = some (.int (i ^ j.toNat)) := by show (if 0 ≤ j ∧ j ≤ 1000000 ∧ small i then some (PV.int (i ^ j.toNat)) else none) = _; rw [if_pos h]
theorem small_of {i : Int} (h : -1000000000000 ≤ i ∧ i ≤ 1000000000000) : small i = true := by unfold small; simp only [Bool.and_eq_true, decide_eq_true_eq]; have : B64 = 18446744073709551616 := rfl; omega
theorem pIx_at {n : Nat} {k : Int} (h0 : 0 ≤ k) (h1 : k < n) : pIx n k = some k.toNat := by unfold pIx; rw [if_pos h0, if_pos h1]

def bCell : Sms := (.cons (.ift (.v (.cmp .lt (.loc 1) (.bi .len (.cons (.loc 0) .nil)))) (.cons (.ret (.idx (.loc 0) (.loc 1))) .nil) .nil) (.cons (.ret (.int 0)) .nil))
def primesE : Exs := (.cons (.int 1000003) (.cons (.int 1000033) (.cons (.int 1000037) (.cons (.int 1000039) (.cons (.int 1000081) (.cons (.int 1000099) (.cons (.int 1000117) (.cons (.int 1000121) (.cons (.int 1000133) (.cons (.int 1000151) (.cons (.int 1000159) (.cons (.int 1000171) (.cons (.int 1000183) (.cons (.int 1000187) (.cons (.int 1000193) (.cons (.int 1000199) .nil))))))))))))))))
def primesV : List PV := [.int 1000003, .int 1000033, .int 1000037, .int 1000039, .int 1000081, .int 1000099, .int 1000117, .int 1000121, .int 1000133, .int 1000151, .int 1000159, .int 1000171, .int 1000183, .int 1000187, .int 1000193, .int 1000199]
def bDraw : Sms := (.cons (.asg 3 (.tup primesE)) (.cons
      (.ret (.op .mod (.op .mod (.bi .int (.cons (.op .add (.op .mul (.loc 0) (.int 48271)) (.op .mul (.loc 1) (.int 69621))) .nil)) (.idx (.loc 3) (.op .mod (.bi .int (.cons (.loc 1) .nil)) (.int 16)))) (.loc 2))) .nil))
def bLap : Sms := (.cons (.asg 3 (.op .mul (.loc 3) (.int 1009))) .nil)
def bNumT (d : Nat) : Sms := (.cons
      (.asg 5 (.op .fdv (.op .sub (.loc 0) (.op .pow (.int 10) (.int 18))) (.loc 3))) (.cons
      (.ift (.v (.cmp .gt (.loc 5) (.int 0))) (.cons (.ret (.op .mod (.op .mod (.bi .int (.cons (.loc 5) .nil)) (.int 1009)) (.loc 2))) .nil) .nil) (.cons
      (.asg 6 (.op .mod (.bi .int (.cons (.loc 0) .nil)) (.int 1000003))) (.cons
      (.ret (.op .mod (.call d (.cons (.op .mul (.op .add (.loc 6) (.op .mul (.int 977) (.loc 1))) (.op .add (.op .add (.loc 6) (.op .mul (.int 31) (.loc 1))) (.int 5))) (.cons (.op .add (.op .mod (.bi .int (.cons (.loc 1) .nil)) (.int 9)) (.int 1)) (.cons (.int 999983) .nil)))) (.loc 2))) .nil))))
def bNum (d : Nat) : Sms := (.cons (.asg 3 (.int 1)) (.cons (.for (.nm 4) (.rg1 (.op .mod (.bi .int (.cons (.loc 1) .nil)) (.int 24))) bLap) (bNumT d)))
def bNext (c nu : Nat) : Sms :=
      (.cons (.stc (.loc 0) (.int 2) (.op .add (.idx (.loc 0) (.int 2)) (.int 1))) (.cons
      (.asg 2 (.op .fdv (.idx (.loc 0) (.int 2)) (.int 12))) (.cons
      (.asg 3 (.op .add (.call c (.cons (.idx (.loc 0) (.int 0)) (.cons (.op .add (.idx (.loc 0) (.int 1)) (.loc 2)) .nil))) (.op .mul (.int 31) (.loc 2)))) (.cons
      (.ret (.call nu (.cons (.loc 3) (.cons (.op .add (.op .mod (.bi .int (.cons (.idx (.loc 0) (.int 2)) .nil)) (.int 12)) (.int 1)) (.cons (.loc 1) .nil))))) .nil))))
def bPick (nx : Nat) : Sms := (.cons (.ret (.idx (.loc 1) (.call nx (.cons (.loc 0) (.cons (.bi .len (.cons (.loc 1) .nil)) .nil))))) .nil)
structure DrawAt (F : List Fn) (c d nu nx pk : Nat) : Prop where
  hc : F[c]? = some ⟨2, 2, bCell⟩
  hd : F[d]? = some ⟨3, 4, bDraw⟩
  hn : F[nu]? = some ⟨3, 7, bNum d⟩
  hx : F[nx]? = some ⟨2, 4, bNext c nu⟩
  hp : F[pk]? = some ⟨2, 2, bPick nx⟩

section
variable {G : List PV} {F : List Fn} {c d nu nx pk : Nat}
theorem draw_cell (D : DrawAt F c d nu nx pk) (n : Nat) (ns : List Int) (k : Int) (hk : 0 ≤ k) (m : List PV) : ∃ r, callN G F (n + 1) c [.lst (ns.map .int), .int k] m = .ok (.int r) m := by
  by_cases h : k < (ns.length : Int)
  · have hc : cmp .lt (.int k) (.int ((ns.map PV.int).length : Int)) = some true := by
      show some (decide _) = _; rw [decide_eq_true (by simpa using h)]
    have hi : idxP (.lst (ns.map .int)) (.int k) = some (.int (ns[k.toNat]'(by omega))) := by
      show (pIx (ns.map PV.int).length k).bind _ = _
      rw [pIx_at hk (by simpa using h)]
      show (ns.map PV.int)[k.toNat]? = _
      rw [List.getElem?_map, List.getElem?_eq_getElem (by omega)]; rfl
    apply Exists.intro
    apply c_rt D.hc rfl
    apply b_rt
    apply x_ift
    repeat (first
    | exact e_int | exact e_non | exact e_bl | exact e_str | exact e_loc rfl | exact e_loo rfl | exact e_glo rfl | exact l_nil | exact o_no | exact b_nil | exact m_nil | exact t_allnil | exact t_anynil
    | assumption
    | apply e_op | apply e_neg | apply e_nt | apply e_cmp | apply e_isn | apply e_isi | apply e_tup | apply e_lst | apply l_cons
    | (apply e_idx) | apply e_sli | apply o_so | apply e_bi | apply e_mt | apply e_call | apply e_rev
    | apply t_v' | apply t_nt' | apply i_rg1' | apply i_rg2' | apply i_val' | apply i_enu' | apply i_zip'
    | (apply b_rt; apply x_ret) | (apply b_nx; apply x_asg) | (apply b_nx; apply x_par) | (apply b_nx; apply x_par3) | (apply b_nx; apply x_ast) | (apply b_nx; apply x_cell) | (apply b_nx; apply x_own) | (apply b_nx; apply x_stc)
    | apply op_mod | apply op_fdv | apply op_mulR | apply op_mulL | apply op_pow
    | (exact rfl) | (with_reducible decide) | omega)
  · have hc : cmp .lt (.int k) (.int ((ns.map PV.int).length : Int)) = some false := by
      show some (decide _) = _; rw [decide_eq_false (by simpa using h)]
    apply Exists.intro
    apply c_rt D.hc rfl
    apply b_nx
    apply x_iff
    repeat (first
    | exact e_int | exact e_non | exact e_bl | exact e_str | exact e_loc rfl | exact e_loo rfl | exact e_glo rfl | exact l_nil | exact o_no | exact b_nil | exact m_nil | exact t_allnil | exact t_anynil
    | assumption
    | apply e_op | apply e_neg | apply e_nt | apply e_cmp | apply e_isn | apply e_isi | apply e_tup | apply e_lst | apply l_cons
    | (apply e_idx) | apply e_sli | apply o_so | apply e_bi | apply e_mt | apply e_call | apply e_rev
    | apply t_v' | apply t_nt' | apply i_rg1' | apply i_rg2' | apply i_val' | apply i_enu' | apply i_zip'
    | (apply b_rt; apply x_ret) | (apply b_nx; apply x_asg) | (apply b_nx; apply x_par) | (apply b_nx; apply x_par3) | (apply b_nx; apply x_ast) | (apply b_nx; apply x_cell) | (apply b_nx; apply x_own) | (apply b_nx; apply x_stc)
    | apply op_mod | apply op_fdv | apply op_mulR | apply op_mulL | apply op_pow
    | (exact rfl) | (with_reducible decide) | omega)
theorem prime_at (k : Int) : ∃ p : Int, 0 < p ∧ idxP (.tup primesV) (.int (k % 16)) = some (.int p) := by
  have h0 := Int.emod_nonneg k (b := 16) (by decide)
  have h1 := Int.emod_lt_of_pos k (b := 16) (by decide)
  generalize k % 16 = j at h0 h1
  have hj : j = 0 ∨ j = 1 ∨ j = 2 ∨ j = 3 ∨ j = 4 ∨ j = 5 ∨ j = 6 ∨ j = 7 ∨ j = 8 ∨ j = 9 ∨ j = 10 ∨ j = 11 ∨ j = 12 ∨ j = 13 ∨ j = 14 ∨ j = 15 := by omega
  rcases hj with rfl | rfl | rfl | rfl | rfl | rfl | rfl | rfl | rfl | rfl | rfl | rfl | rfl | rfl | rfl | rfl <;> exact ⟨_, by decide, rfl⟩
theorem draw_draw (D : DrawAt F c d nu nx pk) (n : Nat) (a k b : Int) (hb : 0 < b) (m : List PV) : ∃ r, 0 ≤ r ∧ r < b ∧ callN G F (n + 1) d [.int a, .int k, .int b] m = .ok (.int r) m := by
  obtain ⟨p, hp, hi⟩ := prime_at k
  refine ⟨(a * 48271 + k * 69621) % p % b, Int.emod_nonneg _ (by omega), Int.emod_lt_of_pos _ hb, ?_⟩
  apply c_rt D.hd rfl
  have hpr : ∀ {s : List Sl}, ev G (callN G F n) (.tup primesE) s m = .ok (.tup primesV) s m := rfl
  apply b_nx (x_asg hpr)
  repeat (first
    | exact e_int | exact e_non | exact e_bl | exact e_str | exact e_loc rfl | exact e_loo rfl | exact e_glo rfl | exact l_nil | exact o_no | exact b_nil | exact m_nil | exact t_allnil | exact t_anynil
    | assumption
    | apply e_op | apply e_neg | apply e_nt | apply e_cmp | apply e_isn | apply e_isi | apply e_tup | apply e_lst | apply l_cons
    | (apply e_idx) | apply e_sli | apply o_so | apply e_bi | apply e_mt | apply e_call | apply e_rev
    | apply t_v' | apply t_nt' | apply i_rg1' | apply i_rg2' | apply i_val' | apply i_enu' | apply i_zip'
    | (apply b_rt; apply x_ret) | (apply b_nx; apply x_asg) | (apply b_nx; apply x_par) | (apply b_nx; apply x_par3) | (apply b_nx; apply x_ast) | (apply b_nx; apply x_cell) | (apply b_nx; apply x_own) | (apply b_nx; apply x_stc)
    | apply op_mod | apply op_fdv | apply op_mulR | apply op_mulL | apply op_pow
    | (exact rfl) | (with_reducible decide) | omega)
theorem fl_nil {g : PV → List Sl → List PV → Res Fl} {s : List Sl} {m : List PV} : forL g [] s m = .ok .nx s m := rfl
theorem fl_nx {g : PV → List Sl → List PV → Res Fl} {x : PV} {r : List PV} {s s1 s2 : List Sl} {m m1 m2 : List PV} {f : Fl} (h : g x s m = .ok .nx s1 m1) (hr : forL g r s1 m1 = .ok f s2 m2) : forL g (x :: r) s m = .ok f s2 m2 := by
  show (g x s m).bnd _ = _; rw [h]; exact hr
theorem pow_loop {cf : Nat → List PV → List PV → CR} {a k b : PV} {m : List PV} : ∀ (l : List Nat) (p : Int) (y : Sl), ∃ y', forL (fun x s m => (lift (asg (.nm 4) x s) s m).bnd fun s' _ m => xss G cf bLap s' m) (l.map fun (i : Nat) => PV.int (0 + (i : Int))) [.va a, .va k, .va b, .va (.int p), y, .un, .un] m
    = .ok .nx [.va a, .va k, .va b, .va (.int (p * 1009 ^ l.length)), y', .un, .un] m
  | [], p, y => ⟨y, by rw [List.length_nil, Int.pow_zero, Int.mul_one]; exact fl_nil⟩
  | i :: l, p, y => by
    have s1 : small 1009 = true := by decide
    obtain ⟨y', h⟩ := pow_loop (cf := cf) (a := a) (k := k) (b := b) (m := m) l (p * 1009) (.va (.int (0 + (i : Int))))
    refine ⟨y', fl_nx (s1 := [.va a, .va k, .va b, .va (.int (p * 1009)), .va (.int (0 + (i : Int))), .un, .un]) (m1 := m) ?_ ?_⟩
    · show xss G cf bLap [.va a, .va k, .va b, .va (.int p), .va (.int (0 + (i : Int))), .un, .un] m = _
      repeat (first
    | exact e_int | exact e_non | exact e_bl | exact e_str | exact e_loc rfl | exact e_loo rfl | exact e_glo rfl | exact l_nil | exact o_no | exact b_nil | exact m_nil | exact t_allnil | exact t_anynil
    | assumption
    | apply e_op | apply e_neg | apply e_nt | apply e_cmp | apply e_isn | apply e_isi | apply e_tup | apply e_lst | apply l_cons
    | (apply e_idx) | apply e_sli | apply o_so | apply e_bi | apply e_mt | apply e_call | apply e_rev
    | apply t_v' | apply t_nt' | apply i_rg1' | apply i_rg2' | apply i_val' | apply i_enu' | apply i_zip'
    | (apply b_rt; apply x_ret) | (apply b_nx; apply x_asg) | (apply b_nx; apply x_par) | (apply b_nx; apply x_par3) | (apply b_nx; apply x_ast) | (apply b_nx; apply x_cell) | (apply b_nx; apply x_own) | (apply b_nx; apply x_stc)
    | apply op_mod | apply op_fdv | apply op_mulR | apply op_mulL | apply op_pow
    | (exact rfl) | (with_reducible decide) | omega)
    · rw [List.length_cons, Int.pow_succ, Int.mul_comm (1009 ^ l.length) 1009, ← Int.mul_assoc]
      exact h
theorem draw_num (D : DrawAt F c d nu nx pk) (n : Nat) (a k b : Int) (hk : 1 ≤ k ∧ k ≤ 12) (hb : 0 < b) (m : List PV) : ∃ r, 0 ≤ r ∧ r < b ∧ callN G F (n + 2) nu [.int a, .int k, .int b] m = .ok (.int r) m := by
  have hk24 : k % 24 = k := Int.emod_eq_of_lt (by omega) (by omega)
  obtain ⟨y', hl⟩ := pow_loop (G := G) (cf := callN G F (n + 1)) (a := .int a) (k := .int k) (b := .int b) (m := m) (List.range k.toNat) 1 .un
  rw [List.length_range, Int.one_mul] at hl
  have hp0 : (0 : Int) < 1009 ^ k.toNat := Int.pow_pos (by decide)
  have hpw : ((1009 : Int) ^ k.toNat).natAbs < BW := by
    have h1 : ((1009 : Int) ^ k.toNat).natAbs = 1009 ^ k.toNat := by rw [Int.natAbs_pow]; rfl
    rw [h1]
    have h2 : 1009 ^ k.toNat ≤ 1009 ^ 12 := Nat.pow_le_pow_right (by decide) (by omega)
    exact Nat.lt_of_le_of_lt h2 (by decide +kernel)
  have hrng : RA.rng 0 k = some ((List.range k.toNat).map fun (i : Nat) => PV.int (0 + (i : Int))) := by
    unfold RA.rng
    rw [Int.sub_zero, if_pos (by show k.toNat ≤ 16777216 ∧ _; omega)]
  have hsm0 := Int.emod_nonneg a (b := 1000003) (by decide)
  have hsm1 := Int.emod_lt_of_pos a (b := 1000003) (by decide)
  have hsm : small (a % 1000003 + 977 * k) = true := small_of (by omega)
  have hsk : small k = true := small_of (by omega)
  have hsm2 : small (a % 1000003 + 31 * k + 5) = true := small_of (by omega)
  have s977 : small 977 = true := by decide
  have s31 : small 31 = true := by decide
  have s10 : 0 ≤ (18 : Int) ∧ (18 : Int) ≤ 1000000 ∧ small 10 = true := by decide
  obtain ⟨r, r0, r1, hr⟩ := draw_draw (G := G) D n ((a % 1000003 + 977 * k) * (a % 1000003 + 31 * k + 5)) (k % 9 + 1) 999983 (by decide) m
  have hi : evi G (callN G F (n + 1)) (.rg1 (.op .mod (.bi .int (.cons (.loc 1) .nil)) (.int 24))) [.va (.int a), .va (.int k), .va (.int b), .va (.int 1), .un, .un, .un] m = .ok ((List.range k.toNat).map fun (i : Nat) => PV.int (0 + (i : Int))) [.va (.int a), .va (.int k), .va (.int b), .va (.int 1), .un, .un, .un] m := by
    apply i_rg1' (j := k)
    · have e : op2 .mod (.int k) (.int 24) = some (.int k) := by rw [op_mod (by decide), hk24]
      repeat (first
    | exact e_int | exact e_non | exact e_bl | exact e_str | exact e_loc rfl | exact e_loo rfl | exact e_glo rfl | exact l_nil | exact o_no | exact b_nil | exact m_nil | exact t_allnil | exact t_anynil
    | assumption
    | apply e_op | apply e_neg | apply e_nt | apply e_cmp | apply e_isn | apply e_isi | apply e_tup | apply e_lst | apply l_cons
    | (apply e_idx) | apply e_sli | apply o_so | apply e_bi | apply e_mt | apply e_call | apply e_rev
    | apply t_v' | apply t_nt' | apply i_rg1' | apply i_rg2' | apply i_val' | apply i_enu' | apply i_zip'
    | (apply b_rt; apply x_ret) | (apply b_nx; apply x_asg) | (apply b_nx; apply x_par) | (apply b_nx; apply x_par3) | (apply b_nx; apply x_ast) | (apply b_nx; apply x_cell) | (apply b_nx; apply x_own) | (apply b_nx; apply x_stc)
    | apply op_mod | apply op_fdv | apply op_mulR | apply op_mulL | apply op_pow
    | (exact rfl) | (with_reducible decide) | omega)
    · exact hrng
  have fin : ∃ r, 0 ≤ r ∧ r < b ∧ ∃ s', xss G (callN G F (n + 1)) (bNumT d) [.va (.int a), .va (.int k), .va (.int b), .va (.int (1009 ^ k.toNat)), y', .un, .un] m = .ok (.rt (.int r)) s' m := by
    by_cases hc : (0 : Int) < (a - 10 ^ 18) / 1009 ^ k.toNat
    · have hcc : cmp .gt (.int ((a - 10 ^ 18) / 1009 ^ k.toNat)) (.int 0) = some true := by show some (decide _) = _; rw [decide_eq_true hc]
      refine ⟨(a - 10 ^ 18) / 1009 ^ k.toNat % 1009 % b, Int.emod_nonneg _ (by omega), Int.emod_lt_of_pos _ hb, ?_⟩
      apply Exists.intro
      apply b_nx
      · apply x_asg
        repeat (first
    | exact e_int | exact e_non | exact e_bl | exact e_str | exact e_loc rfl | exact e_loo rfl | exact e_glo rfl | exact l_nil | exact o_no | exact b_nil | exact m_nil | exact t_allnil | exact t_anynil
    | assumption
    | apply e_op | apply e_neg | apply e_nt | apply e_cmp | apply e_isn | apply e_isi | apply e_tup | apply e_lst | apply l_cons
    | (apply e_idx) | apply e_sli | apply o_so | apply e_bi | apply e_mt | apply e_call | apply e_rev
    | apply t_v' | apply t_nt' | apply i_rg1' | apply i_rg2' | apply i_val' | apply i_enu' | apply i_zip'
    | (apply b_rt; apply x_ret) | (apply b_nx; apply x_asg) | (apply b_nx; apply x_par) | (apply b_nx; apply x_par3) | (apply b_nx; apply x_ast) | (apply b_nx; apply x_cell) | (apply b_nx; apply x_own) | (apply b_nx; apply x_stc)
    | apply op_mod | apply op_fdv | apply op_mulR | apply op_mulL | apply op_pow
    | (exact rfl) | (with_reducible decide) | omega)
      · apply b_rt
        apply x_ift
        repeat (first
    | exact e_int | exact e_non | exact e_bl | exact e_str | exact e_loc rfl | exact e_loo rfl | exact e_glo rfl | exact l_nil | exact o_no | exact b_nil | exact m_nil | exact t_allnil | exact t_anynil
    | assumption
    | apply e_op | apply e_neg | apply e_nt | apply e_cmp | apply e_isn | apply e_isi | apply e_tup | apply e_lst | apply l_cons
    | (apply e_idx) | apply e_sli | apply o_so | apply e_bi | apply e_mt | apply e_call | apply e_rev
    | apply t_v' | apply t_nt' | apply i_rg1' | apply i_rg2' | apply i_val' | apply i_enu' | apply i_zip'
    | (apply b_rt; apply x_ret) | (apply b_nx; apply x_asg) | (apply b_nx; apply x_par) | (apply b_nx; apply x_par3) | (apply b_nx; apply x_ast) | (apply b_nx; apply x_cell) | (apply b_nx; apply x_own) | (apply b_nx; apply x_stc)
    | apply op_mod | apply op_fdv | apply op_mulR | apply op_mulL | apply op_pow
    | (exact rfl) | (with_reducible decide) | omega)
    · have hcc : cmp .gt (.int ((a - 10 ^ 18) / 1009 ^ k.toNat)) (.int 0) = some false := by show some (decide _) = _; rw [decide_eq_false hc]
      refine ⟨r % b, Int.emod_nonneg _ (by omega), Int.emod_lt_of_pos _ hb, ?_⟩
      apply Exists.intro
      apply b_nx
      · apply x_asg
        repeat (first
    | exact e_int | exact e_non | exact e_bl | exact e_str | exact e_loc rfl | exact e_loo rfl | exact e_glo rfl | exact l_nil | exact o_no | exact b_nil | exact m_nil | exact t_allnil | exact t_anynil
    | assumption
    | apply e_op | apply e_neg | apply e_nt | apply e_cmp | apply e_isn | apply e_isi | apply e_tup | apply e_lst | apply l_cons
    | (apply e_idx) | apply e_sli | apply o_so | apply e_bi | apply e_mt | apply e_call | apply e_rev
    | apply t_v' | apply t_nt' | apply i_rg1' | apply i_rg2' | apply i_val' | apply i_enu' | apply i_zip'
    | (apply b_rt; apply x_ret) | (apply b_nx; apply x_asg) | (apply b_nx; apply x_par) | (apply b_nx; apply x_par3) | (apply b_nx; apply x_ast) | (apply b_nx; apply x_cell) | (apply b_nx; apply x_own) | (apply b_nx; apply x_stc)
    | apply op_mod | apply op_fdv | apply op_mulR | apply op_mulL | apply op_pow
    | (exact rfl) | (with_reducible decide) | omega)
      · apply b_nx
        · apply x_iff
          repeat (first
    | exact e_int | exact e_non | exact e_bl | exact e_str | exact e_loc rfl | exact e_loo rfl | exact e_glo rfl | exact l_nil | exact o_no | exact b_nil | exact m_nil | exact t_allnil | exact t_anynil
    | assumption
    | apply e_op | apply e_neg | apply e_nt | apply e_cmp | apply e_isn | apply e_isi | apply e_tup | apply e_lst | apply l_cons
    | (apply e_idx) | apply e_sli | apply o_so | apply e_bi | apply e_mt | apply e_call | apply e_rev
    | apply t_v' | apply t_nt' | apply i_rg1' | apply i_rg2' | apply i_val' | apply i_enu' | apply i_zip'
    | (apply b_rt; apply x_ret) | (apply b_nx; apply x_asg) | (apply b_nx; apply x_par) | (apply b_nx; apply x_par3) | (apply b_nx; apply x_ast) | (apply b_nx; apply x_cell) | (apply b_nx; apply x_own) | (apply b_nx; apply x_stc)
    | apply op_mod | apply op_fdv | apply op_mulR | apply op_mulL | apply op_pow
    | (exact rfl) | (with_reducible decide) | omega)
        · repeat (first
    | exact e_int | exact e_non | exact e_bl | exact e_str | exact e_loc rfl | exact e_loo rfl | exact e_glo rfl | exact l_nil | exact o_no | exact b_nil | exact m_nil | exact t_allnil | exact t_anynil
    | assumption
    | apply e_op | apply e_neg | apply e_nt | apply e_cmp | apply e_isn | apply e_isi | apply e_tup | apply e_lst | apply l_cons
    | (apply e_idx) | apply e_sli | apply o_so | apply e_bi | apply e_mt | apply e_call | apply e_rev
    | apply t_v' | apply t_nt' | apply i_rg1' | apply i_rg2' | apply i_val' | apply i_enu' | apply i_zip'
    | (apply b_rt; apply x_ret) | (apply b_nx; apply x_asg) | (apply b_nx; apply x_par) | (apply b_nx; apply x_par3) | (apply b_nx; apply x_ast) | (apply b_nx; apply x_cell) | (apply b_nx; apply x_own) | (apply b_nx; apply x_stc)
    | apply op_mod | apply op_fdv | apply op_mulR | apply op_mulL | apply op_pow
    | (exact rfl) | (with_reducible decide) | omega)
  obtain ⟨q, q0, q1, s', hq⟩ := fin
  refine ⟨q, q0, q1, ?_⟩
  apply c_rt D.hn rfl
  apply b_nx (x_asg e_int)
  apply b_nx (x_for hi hl)
  exact hq
theorem draw_next (D : DrawAt F c d nu nx pk) (n : Nat) (ns : List Int) (q : Nat) (b : Int) (hb : 0 < b) (m : List PV) (mu : Nat) (hm : m[mu]? = some (.lst [.lst (ns.map .int), .int 0, .int q])) :
    ∃ r, 0 ≤ r ∧ r < b ∧ callN G F (n + 3) nx [.ref mu, .int b] m = .ok (.int r) (m.set mu (.lst [.lst (ns.map .int), .int 0, .int ((q + 1 : Nat) : Int)])) := by
  have hlt : mu < m.length := by
    rcases Nat.lt_or_ge mu m.length with h | h
    · exact h
    · rw [List.getElem?_eq_none h] at hm; cases hm
  have hm' : (m.set mu (.lst [.lst (ns.map .int), .int 0, .int ((q : Int) + 1)]))[mu]? = some (.lst [.lst (ns.map .int), .int 0, .int ((q : Int) + 1)]) := by
    rw [List.getElem?_set_self hlt]
  have e1 : (((q + 1 : Nat) : Int)) = (q : Int) + 1 := by omega
  rw [e1]
  have hq0 : (0 : Int) ≤ ((q : Int) + 1) / 12 := Int.ediv_nonneg (by omega) (by decide)
  have h0 : (0 : Int) ≤ 0 + ((q : Int) + 1) / 12 := by omega
  obtain ⟨v, hv⟩ := draw_cell (G := G) D (n + 1) ns (0 + ((q : Int) + 1) / 12) h0 (m.set mu (.lst [.lst (ns.map .int), .int 0, .int ((q : Int) + 1)]))
  have hk0 := Int.emod_nonneg ((q : Int) + 1) (b := 12) (by decide)
  have hk1 := Int.emod_lt_of_pos ((q : Int) + 1) (b := 12) (by decide)
  obtain ⟨r, r0, r1, hr⟩ := draw_num (G := G) D n (v + 31 * (((q : Int) + 1) / 12)) (((q : Int) + 1) % 12 + 1) b (by omega) hb (m.set mu (.lst [.lst (ns.map .int), .int 0, .int ((q : Int) + 1)]))
  have g0 : idxP (.lst [.lst (ns.map .int), .int 0, .int ((q : Int) + 1)]) (.int 0) = some (.lst (ns.map .int)) := rfl
  have g1 : idxP (.lst [.lst (ns.map .int), .int 0, .int ((q : Int) + 1)]) (.int 1) = some (.int 0) := rfl
  have g2 : idxP (.lst [.lst (ns.map .int), .int 0, .int ((q : Int) + 1)]) (.int 2) = some (.int ((q : Int) + 1)) := rfl
  have g2' : idxP (.lst [.lst (ns.map .int), .int 0, .int (q : Int)]) (.int 2) = some (.int (q : Int)) := rfl
  have s31 : small 31 = true := by decide
  have b12 : (12 : Int).natAbs < BW := by decide +kernel
  refine ⟨r, r0, r1, ?_⟩
  apply c_rt D.hx rfl
  have st : ∀ {s1 : List Sl} (h : s1 = [.va (.ref mu), .va (.int b), .un, .un]), xs G (callN G F (n + 2)) (.stc (.loc 0) (.int 2) (.op .add (.idx (.loc 0) (.int 2)) (.int 1))) s1 m = .ok .nx s1 (m.set mu (.lst [.lst (ns.map .int), .int 0, .int ((q : Int) + 1)])) := by
    intro s1 h; subst h
    apply x_stc (l := [.lst (ns.map .int), .int 0, .int q]) (j := 2) (z := .int ((q : Int) + 1)) (n := mu) (i := 2)
    · apply e_op
      · apply e_idc (e_loc rfl) e_int hm g2'
      · exact e_int
      · rfl
    · exact e_loc rfl
    · exact e_int
    · exact hm
    · rfl
  apply b_nx (st rfl)
  apply b_nx
  · apply x_asg
    apply e_op
    · apply e_idc (e_loc rfl) e_int hm' g2
    · exact e_int
    · exact op_fdv (by decide) b12
  apply b_nx
  · apply x_asg
    apply e_op
    · apply e_call
      · apply l_cons
        · apply e_idc (e_loc rfl) e_int hm' g0
        · apply l_cons
          · apply e_op
            · apply e_idc (e_loc rfl) e_int hm' g1
            · exact e_loc rfl
            · rfl
          · exact l_nil
      · exact hv
    · apply e_op
      · exact e_int
      · exact e_loc rfl
      · exact op_mulL s31
    · rfl
  apply b_rt
  apply x_ret
  apply e_call
  · apply l_cons
    · exact e_loc rfl
    · apply l_cons
      · apply e_op
        · apply e_op
          · apply e_bi
            · apply l_cons
              · apply e_idc (e_loc rfl) e_int hm' g2
              · exact l_nil
            · rfl
          · exact e_int
          · exact op_mod (by decide)
        · exact e_int
        · rfl
      · apply l_cons
        · exact e_loc rfl
        · exact l_nil
  · exact hr
/-- the state of the draws: the script, and how many draws there were -/
def Dst (ns : List Int) (mu : Nat) (q : Nat) (m : List PV) : Prop := m[mu]? = some (.lst [.lst (ns.map .int), .int 0, .int q])
theorem draw_pick (D : DrawAt F c d nu nx pk) (n : Nat) (ns : List Int) (q : Nat) (l : List PV) (hb : 0 < l.length) (m : List PV) (mu : Nat) (hm : m[mu]? = some (.lst [.lst (ns.map .int), .int 0, .int q])) :
    ∃ p ∈ l, callN G F (n + 4) pk [.ref mu, .tup l] m = .ok p (m.set mu (.lst [.lst (ns.map .int), .int 0, .int ((q + 1 : Nat) : Int)])) := by
  obtain ⟨r, r0, r1, hr⟩ := draw_next (G := G) D n ns q (l.length : Int) (by omega) m mu hm
  have hlt : r.toNat < l.length := by omega
  refine ⟨l[r.toNat], List.getElem_mem hlt, ?_⟩
  have hi : idxP (.tup l) (.int r) = some l[r.toNat] := by
    show (pIx l.length r).bind _ = _
    rw [pIx_at r0 r1]
    show l[r.toNat]? = _
    rw [List.getElem?_eq_getElem hlt]
  have hln : bi .len [.tup l] = some (.int (l.length : Int)) := rfl
  apply c_rt D.hp rfl
  apply b_rt
  apply x_ret
  apply e_idx
  · exact e_loc rfl
  · apply e_call
    · apply l_cons
      · exact e_loc rfl
      · apply l_cons
        · apply e_bi
          · apply l_cons
            · exact e_loc rfl
            · exact l_nil
          · exact hln
        · exact l_nil
    · exact hr
  · rfl
  · exact hi
end
end RA.St

/-! Words. -/
namespace RA.St
open PySem

abbrev F3 : List Fn := fis.map FI.fn
section
variable {m : List PV}
theorem is_whole_t (n : Nat) (i : Int) : callN gv F3 (n + 1) 0 [.int i] m = .ok (.bl true) m := by
  apply c_rt (fn := f_is_whole.fn) rfl rfl
  apply b_rt
  apply x_ret
  apply e_and
  · apply e_isy (e_loc rfl) rfl rfl
  · apply e_ny
    apply e_isf (e_loc rfl) rfl rfl
theorem is_from_t (n : Nat) {i a b : Int} (h : a ≤ i ∧ i ≤ b) : callN gv F3 (n + 2) 1 [.int i, .int a, .int b] m = .ok (.bl true) m := by
  apply c_rt (fn := f_is_from.fn) rfl rfl
  apply b_rt
  apply x_ret
  apply e_and
  · apply e_call (l_cons (e_loc rfl) l_nil) (is_whole_t n i)
  · exact e_cht (e_loc rfl) (e_loc rfl) (le_t h.1) (e_loc rfl) (le_t h.2)
/-- the signs -/
def SGN : List Nat := match gv.getD 0 PV.non with | PV.str x => x | _ => []
theorem gv0 : gv[0]? = some (.str SGN) := rfl
def Txt (x : List Nat) (n : Nat) : Prop := x.length ≤ n ∧ n ≤ 1000 ∧ (x.all fun c => SGN.contains c) = true
instance (x : List Nat) (n : Nat) : Decidable (Txt x n) := inferInstanceAs (Decidable (_ ∧ _ ∧ _))
theorem is_text_t (n : Nat) {x : List Nat} {k : Nat} (h : Txt x k) : callN gv F3 (n + 1) 2 [.str x, .int k] m = .ok (.bl true) m := by
  apply c_rt (fn := f_is_text.fn) rfl rfl
  apply b_rt
  apply x_ret
  apply e_and
  · apply e_isy (e_loc rfl) rfl rfl
  apply e_and
  · apply e_cmp
    · exact e_bi (l_cons (e_loc rfl) l_nil) rfl
    · exact e_loc rfl
    · exact le_t (by have := h.1; omega)
  · apply e_bi
    · apply l_cons
      · apply e_lcp (f := fun _ => .bl true) (l := x.map fun c => .str [c]) (fun c => [.va (.str x), .va (.int k), .va c])
        · exact i_val' (e_loc rfl) rfl
        · rw [List.length_map]; have := h.1; have := h.2.1; exact Nat.ble_eq_true_of_le (by show _ ≤ (16777216 : Nat); omega)
        · intro c hc; rfl
        · intro c hc
          obtain ⟨d, hd, rfl⟩ := List.mem_map.1 hc
          refine e_cmp (e_loc rfl) (e_glo gv0) ?_
          show some (SGN.contains d) = _
          rw [List.all_eq_true.1 h.2.2 d hd]
        · intro c hc; rfl
      · exact l_nil
    · exact bi_all (by simp)
theorem is_sign_t (n : Nat) {x : List Nat} (h : Txt x 1) (h2 : x ≠ []) : callN gv F3 (n + 2) 3 [.str x] m = .ok (.bl true) m := by
  apply c_rt (fn := f_is_sign.fn) rfl rfl
  have h3 := is_text_t (m := m) n h
  apply b_rt
  apply x_ret
  apply e_and
  · exact e_call (l_cons (e_loc rfl) (l_cons e_int l_nil)) h3
  · exact e_cmp (e_loc rfl) e_str (nes_t h2)
theorem is_row_t (n : Nat) {l : List PV} {k : Int} (h : k = l.length) (hd : isD (.tup l) = true) : callN gv F3 (n + 1) 4 [.tup l, .int k] m = .ok (.bl true) m := by
  apply c_rt (fn := f_is_row.fn) rfl rfl
  apply b_rt
  apply x_ret
  apply e_and
  · exact e_isy (e_loc rfl) hd rfl
  · exact e_cmp (e_bi (l_cons (e_loc rfl) l_nil) rfl) (e_loc rfl) (eq_t h.symm)
/-! ### numbers as figures -/
def FGS : List Nat := [48, 49, 50, 51, 52, 53, 54, 55, 56, 57, 97, 98, 99, 100, 101, 102]
theorem gv1 : gv[1]? = some (.str FGS) := rfl
def dig (k : Nat) : Nat := FGS.getD k 0
theorem idx_dig {k : Nat} (h : k < 16) : idxP (.str FGS) (.int k) = some (.str [dig k]) := by
  show (pIx FGS.length k).bind _ = _
  rw [pIx_at (by omega) (by show (k : Int) < (16 : Nat); omega)]
  show (FGS[(k : Int).toNat]?).map _ = _
  rw [Int.toNat_natCast]
  have hl : k < FGS.length := h
  rw [List.getElem?_eq_getElem hl]
  show some (PV.str [FGS[k]]) = some (PV.str [FGS.getD k 0])
  rw [List.getD_eq_getElem?_getD, List.getElem?_eq_getElem hl]
  rfl
theorem modN {k b : Nat} (h : 0 < b) : op2 .mod (.int k) (.int b) = some (.int (k % b : Nat)) := by rw [op_mod (by omega)]; rfl
theorem fdvN {k b : Nat} (h : 0 < b) (h2 : b ≤ 1000000) : op2 .fdv (.int k) (.int b) = some (.int (k / b : Nat)) := by
  rw [op_fdv (by omega) (Nat.lt_of_le_of_lt (by omega : (b : Int).natAbs ≤ 1000000) (by decide +kernel))]; rfl
theorem addS {x y : List Nat} (h : x.length + y.length ≤ 16777216) : op2 .add (.str x) (.str y) = some (.str (x ++ y)) := by show (if _ then _ else _) = _; rw [if_pos h]
/-- the figures of a number, none of 0 -/
def dg (b : Nat) : Nat → Nat → List Nat
  | 0, _ => []
  | f + 1, k => if k = 0 then [] else dg b f (k / b) ++ [dig (k % b)]
theorem dg_len (b : Nat) : ∀ f k, (dg b f k).length ≤ f
  | 0, _ => Nat.le_refl _
  | f + 1, k => by
    show (if k = 0 then [] else dg b f (k / b) ++ [dig (k % b)]).length ≤ _
    split
    · exact Nat.zero_le _
    · rw [List.length_append]; have := dg_len b f (k / b); simp only [List.length_singleton]; omega
theorem dg_zero (b f : Nat) : dg b f 0 = [] := by cases f <;> rfl
theorem half {b f k : Nat} (hb : 2 ≤ b) (h : k < 2 ^ (f + 1)) : k / b < 2 ^ f := by
  have h1 : k / b ≤ k / 2 := Nat.div_le_div_left hb (by omega)
  have h2 : k / 2 < 2 ^ f := by rw [Nat.pow_succ] at h; omega
  omega
theorem num_loop {cf : Nat → List PV → List PV → CR} {b : Nat} (hb : 2 ≤ b ∧ b ≤ 16) : ∀ (f k n : Nat) (r : List Nat), k < 2 ^ f → r.length + f ≤ 1000 →
    whlN (fun s m => evt gv cf (.v (.cmp .gt (.loc 0) (.int 0))) s m) (fun s m => xss gv cf (.cons (.asg 2 (.op .add (.idx (.glo 1) (.op .mod (.loc 0) (.loc 1))) (.loc 2))) (.cons (.asg 0 (.op .fdv (.loc 0) (.loc 1))) .nil)) s m) (n + f + 1) [.va (.int k), .va (.int b), .va (.str r)] m
      = .ok .nx [.va (.int 0), .va (.int b), .va (.str (dg b f k ++ r))] m
  | 0, k, n, r, hk, _ => by
    have : k = 0 := by rw [Nat.pow_zero] at hk; omega
    subst this
    apply w_end
    exact t_v' (e_cmp (e_loc rfl) e_int (gt_f (by omega)))
  | f + 1, k, n, r, hk, hr => by
    by_cases h0 : k = 0
    · subst h0
      rw [dg_zero]
      apply w_end
      exact t_v' (e_cmp (e_loc rfl) e_int (gt_f (by omega)))
    · have ih := num_loop (cf := cf) hb f (k / b) n ([dig (k % b)] ++ r) (half hb.1 hk) (by rw [List.length_append, List.length_singleton]; omega)
      have hd : dg b (f + 1) k = dg b f (k / b) ++ [dig (k % b)] := by show (if k = 0 then _ else _) = _; rw [if_neg h0]
      rw [hd, List.append_assoc]
      have hlt : k % b < 16 := by have := Nat.mod_lt k (by omega : b > 0); omega
      refine w_go (t_v' (e_cmp (e_loc rfl) e_int (gt_t (by omega)))) ?_ ih
      apply b_nx
      · apply x_asg
        apply e_op
        · apply e_idx (e_glo gv1) (e_op (e_loc rfl) (e_loc rfl) (modN (by omega))) rfl (idx_dig hlt)
        · exact e_loc rfl
        · exact addS (by rw [List.length_singleton]; omega)
      · apply b_nx
        · apply x_asg
          exact e_op (e_loc rfl) (e_loc rfl) (fdvN (by omega) (by omega))
        · exact b_nil
/-- the figures of a number from 0 on -/
def num (b k : Nat) : List Nat := dg b 64 (k / b) ++ [dig (k % b)]
theorem num_len (b k : Nat) : (num b k).length ≤ 65 := by unfold num; rw [List.length_append]; have := dg_len b 64 (k / b); simp only [List.length_singleton]; omega
theorem num_pos (b k : Nat) : 1 ≤ (num b k).length := by unfold num; rw [List.length_append]; simp only [List.length_singleton]; omega
theorem x_whl {cf : Nat → List PV → List PV → CR} {t : Tt} {b : Sms} {s s1 : List Sl} {m1 : List PV} {f : Fl} (h : whlN (fun s m => evt gv cf t s m) (fun s m => xss gv cf b s m) WF s m = .ok f s1 m1) : xs gv cf (.whl t b) s m = .ok f s1 m1 := h
theorem lnum_loop {cf : Nat → List PV → List PV → CR} {b : Nat} (hb : 2 ≤ b ∧ b ≤ 16) : ∀ (f k n : Nat) (r : List Nat), k < 2 ^ f → r.length + f ≤ 1000 →
    ∃ k', whlN (fun s m => evt gv cf (.v (.cmp .ge (.loc 0) (.loc 1))) s m) (fun s m => xss gv cf (.cons 
      (.asg 0 (.op .fdv (.loc 0) (.loc 1))) (.cons 
      (.asg 2 (.op .add (.idx (.str FGS) (.op .mod (.bi .int (.cons (.loc 0) .nil)) (.loc 1))) (.loc 2))) .nil)) s m) (n + f + 1) [.va (.int k), .va (.int b), .va (.str r)] m
      = .ok .nx [.va (.int k'), .va (.int b), .va (.str (dg b f (k / b) ++ r))] m
  | 0, k, n, r, hk, _ => by
    have : k = 0 := by rw [Nat.pow_zero] at hk; omega
    subst this
    exact ⟨0, w_end (t_v' (e_cmp (e_loc rfl) (e_loc rfl) (ge_f (by omega))))⟩
  | f + 1, k, n, r, hk, hr => by
    by_cases h0 : k < b
    · rw [Nat.div_eq_of_lt h0, dg_zero]
      exact ⟨k, w_end (t_v' (e_cmp (e_loc rfl) (e_loc rfl) (ge_f (by omega))))⟩
    · obtain ⟨k', ih⟩ := lnum_loop (cf := cf) hb f (k / b) n ([dig (k / b % b)] ++ r) (half hb.1 hk) (by rw [List.length_append, List.length_singleton]; omega)
      have hp : 0 < k / b := Nat.div_pos (by omega) (by omega)
      have hd : dg b (f + 1) (k / b) = dg b f (k / b / b) ++ [dig (k / b % b)] := by show (if k / b = 0 then _ else _) = _; rw [if_neg (by omega)]
      rw [hd, List.append_assoc]
      have hlt : k / b % b < 16 := by have := Nat.mod_lt (k / b) (by omega : b > 0); omega
      refine ⟨k', w_go (t_v' (e_cmp (e_loc rfl) (e_loc rfl) (ge_t (by omega)))) ?_ ih⟩
      apply b_nx
      · apply x_asg
        exact e_op (e_loc rfl) (e_loc rfl) (fdvN (by omega) (by omega))
      · apply b_nx
        · apply x_asg
          apply e_op
          · apply e_idx e_str (e_op (e_bi (l_cons (e_loc rfl) l_nil) rfl) (e_loc rfl) (modN (by omega))) rfl (idx_dig hlt)
          · exact e_loc rfl
          · exact addS (by rw [List.length_singleton]; omega)
        · exact b_nil
end
end RA.St

/-! Integers written by powers. -/
namespace RA.St
open PySem

section
variable {m : List PV}
/-- the sign of a number -/
def sgn (neg : Bool) (how : List Nat) : List Nat := if neg then [45] else if how = [45] then [] else how
/-- a number without its powers of a base, and how many there were -/
def pp (b : Nat) : Nat → Nat → Nat → Nat × Nat
  | 0, k, p => (k, p)
  | f + 1, k, p => if 0 < k ∧ k % b = 0 then pp b f (k / b) (p + 1) else (k, p)
theorem pp_lt (b : Nat) : ∀ f k p, (pp b f k p).1 ≤ k ∧ (pp b f k p).2 ≤ p + f
  | 0, k, p => ⟨Nat.le_refl _, Nat.le_refl _⟩
  | f + 1, k, p => by
    show (if 0 < k ∧ k % b = 0 then pp b f (k / b) (p + 1) else (k, p)).1 ≤ k ∧ (if 0 < k ∧ k % b = 0 then pp b f (k / b) (p + 1) else (k, p)).2 ≤ p + (f + 1)
    split
    · have := pp_lt b f (k / b) (p + 1); have h2 := Nat.div_le_self k b; omega
    · exact ⟨Nat.le_refl _, by omega⟩
theorem pp_loop {cf : Nat → List PV → List PV → CR} {b : Nat} (hb : 2 ≤ b ∧ b ≤ 16) : ∀ (f k p n : Nat), k < 2 ^ f →
    whlN (fun s m => evt gv cf (.all (.cons (.v (.cmp .gt (.loc 0) (.int 0))) (.cons (.v (.cmp .eq (.op .mod (.loc 0) (.loc 1)) (.int 0))) .nil))) s m) (fun s m => xss gv cf (.cons (.par 0 2 (.op .fdv (.loc 0) (.loc 1)) (.op .add (.loc 2) (.int 1))) .nil) s m) (n + f + 1) [.va (.int k), .va (.int b), .va (.int p)] m
      = .ok .nx [.va (.int (pp b f k p).1), .va (.int b), .va (.int (pp b f k p).2)] m
  | 0, k, p, n, hk => by
    have : k = 0 := by rw [Nat.pow_zero] at hk; omega
    subst this
    apply w_end
    exact t_allf (t_v' (e_cmp (e_loc rfl) e_int (gt_f (by omega))))
  | f + 1, k, p, n, hk => by
    have hd : pp b (f + 1) k p = if 0 < k ∧ k % b = 0 then pp b f (k / b) (p + 1) else (k, p) := rfl
    rw [hd]
    by_cases h0 : 0 < k
    · by_cases h1 : k % b = 0
      · rw [if_pos ⟨h0, h1⟩]
        have ih := pp_loop (cf := cf) hb f (k / b) (p + 1) n (half hb.1 hk)
        refine w_go (t_allt (t_v' (e_cmp (e_loc rfl) e_int (gt_t (by omega)))) (t_allt (t_v' (e_cmp (e_op (e_loc rfl) (e_loc rfl) (modN (by omega))) e_int (eq_t (by omega)))) t_allnil)) ?_ ih
        apply b_nx
        · exact x_par (e_op (e_loc rfl) (e_loc rfl) (fdvN (by omega) (by omega))) (e_op (e_loc rfl) e_int rfl)
        · exact b_nil
      · rw [if_neg (fun h => h1 h.2)]
        apply w_end
        exact t_allg (t_v' (e_cmp (e_loc rfl) e_int (gt_t (by omega)))) (t_allf (t_v' (e_cmp (e_op (e_loc rfl) (e_loc rfl) (modN (by omega))) e_int (eq_f (by omega)))))
    · rw [if_neg (fun h => h0 h.1)]
      apply w_end
      exact t_allf (t_v' (e_cmp (e_loc rfl) e_int (gt_f (by omega))))
/-- the law's own loop of powers -/
theorem lpp_loop {cf : Nat → List PV → List PV → CR} {b : Nat} (hb : 2 ≤ b ∧ b ≤ 16) {fo sg : PV} : ∀ (f k p n : Nat), k < 2 ^ f →
    whlN (fun s m => evt gv cf (.all (.cons (.v (.cmp .gt (.loc 1) (.int 0))) (.cons (.v (.cmp .eq (.op .mod (.bi .int (.cons (.loc 1) .nil)) (.loc 3)) (.int 0))) .nil))) s m) (fun s m => xss gv cf (.cons (.par 1 4 (.op .fdv (.loc 1) (.loc 3)) (.op .add (.loc 4) (.int 1))) .nil) s m) (n + f + 1) [.va fo, .va (.int k), .va sg, .va (.int b), .va (.int p), .un, .un, .un, .un] m
      = .ok .nx [.va fo, .va (.int (pp b f k p).1), .va sg, .va (.int b), .va (.int (pp b f k p).2), .un, .un, .un, .un] m
  | 0, k, p, n, hk => by
    have : k = 0 := by rw [Nat.pow_zero] at hk; omega
    subst this
    apply w_end
    exact t_allf (t_v' (e_cmp (e_loc rfl) e_int (gt_f (by omega))))
  | f + 1, k, p, n, hk => by
    have hd : pp b (f + 1) k p = if 0 < k ∧ k % b = 0 then pp b f (k / b) (p + 1) else (k, p) := rfl
    rw [hd]
    by_cases h0 : 0 < k
    · by_cases h1 : k % b = 0
      · rw [if_pos ⟨h0, h1⟩]
        have ih := lpp_loop (cf := cf) hb (fo := fo) (sg := sg) f (k / b) (p + 1) n (half hb.1 hk)
        refine w_go (t_allt (t_v' (e_cmp (e_loc rfl) e_int (gt_t (by omega)))) (t_allt (t_v' (e_cmp (e_op (e_bi (l_cons (e_loc rfl) l_nil) rfl) (e_loc rfl) (modN (by omega))) e_int (eq_t (by omega)))) t_allnil)) ?_ ih
        apply b_nx
        · exact x_par (e_op (e_loc rfl) (e_loc rfl) (fdvN (by omega) (by omega))) (e_op (e_loc rfl) e_int rfl)
        · exact b_nil
      · rw [if_neg (fun h => h1 h.2)]
        apply w_end
        exact t_allg (t_v' (e_cmp (e_loc rfl) e_int (gt_t (by omega)))) (t_allf (t_v' (e_cmp (e_op (e_bi (l_cons (e_loc rfl) l_nil) rfl) (e_loc rfl) (modN (by omega))) e_int (eq_f (by omega)))))
    · rw [if_neg (fun h => h0 h.1)]
      apply w_end
      exact t_allf (t_v' (e_cmp (e_loc rfl) e_int (gt_f (by omega))))
end
end RA.St

/-! Integers written by powers, by both. -/
namespace RA.St
open PySem

section
variable {m : List PV}
theorem abs_t (i : Int) : bi .abs [.int i] = some (.int (i.natAbs : Int)) := by
  show some (PV.int (if i < 0 then -i else i)) = _
  congr 2
  split <;> omega
theorem decN_len : ∀ f k, (decN f k).length ≤ f
  | 0, _ => Nat.le_refl _
  | f + 1, k => by
    show (if k < 10 then [48 + k] else decN f (k / 10) ++ [48 + k % 10]).length ≤ _
    split
    · simp
    · rw [List.length_append]; have := decN_len f (k / 10); simp only [List.length_singleton]; omega
theorem str_t {p : Nat} (h : p ≤ 1000) : bi .str [.int p] = some (.str (decN 200 p)) := by
  show (if 0 ≤ (p : Int) ∧ (p : Int).toNat < 10 ^ 200 then some (PV.str (decN 200 (p : Int).toNat)) else none) = _
  rw [if_pos ⟨by omega, by rw [Int.toNat_natCast]; exact Nat.lt_of_le_of_lt h (by decide +kernel)⟩]
  rfl
theorem lt0 (i : Int) : cmp .lt (.int i) (.int 0) = some (decide (i < 0)) := rfl
def ptx (p : Nat) : List Nat := if 0 < p then [101] ++ decN 200 p else []
theorem ptx_len (p : Nat) : (ptx p).length ≤ 201 := by
  unfold ptx; split
  · rw [List.length_append]; have := decN_len 200 p; simp only [List.length_singleton]; omega
  · exact Nat.zero_le _
/-- a number written by powers -/
def pwt (b : Nat) (how : List Nat) (i : Int) : List Nat := sgn (decide (i < 0)) how ++ num b (pp b 64 i.natAbs 0).1 ++ ptx (pp b 64 i.natAbs 0).2
theorem sgn_len {neg : Bool} {how : List Nat} (h : how.length ≤ 100) : (sgn neg how).length ≤ 100 := by
  unfold sgn; split
  · decide
  · split
    · exact Nat.zero_le _
    · exact h
theorem ptx_e {cf : Nat → List PV → List PV → CR} {k p : Nat} {s : List Sl} (h : s[k]? = some (.va (.int p))) (hp : p ≤ 1000) : ev gv cf (.ife (.v (.cmp .gt (.loc k) (.int 0))) (.op .add (.str [101]) (.bi .str (.cons (.loc k) .nil))) (.str [])) s m = .ok (.str (ptx p)) s m := by
  unfold ptx
  by_cases h0 : 0 < p
  · rw [if_pos h0]
    apply e_ift (t_v' (e_cmp (e_loc h) e_int (gt_t (by omega))))
    apply e_op e_str (e_bi (l_cons (e_loc h) l_nil) (str_t hp))
    exact addS (by rw [List.length_singleton]; have := decN_len 200 p; omega)
  · rw [if_neg h0]
    exact e_iff (t_v' (e_cmp (e_loc h) e_int (gt_f (by omega)))) e_str
/-- the law's sign -/
theorem lsgn_e {cf : Nat → List PV → List PV → CR} {s : List Sl} {fo : PV} {how : List Nat} {i : Int} (h0 : s[0]? = some (.va fo)) (h1 : s[1]? = some (.va (.int i))) (hn : notRef fo = true) (hf : idxP fo (.int 2) = some (.str how)) :
    ev gv cf (.ife (.v (.cmp .lt (.loc 1) (.int 0))) (.str [45]) (.ife (.v (.cmp .ne (.idx (.loc 0) (.int 2)) (.str [45]))) (.idx (.loc 0) (.int 2)) (.str []))) s m = .ok (.str (sgn (decide (i < 0)) how)) s m := by
  unfold sgn
  by_cases h : i < 0
  · rw [decide_eq_true h, if_pos rfl]
    exact e_ift (t_v' (e_cmp (e_loc h1) e_int (lt_t h))) e_str
  · rw [decide_eq_false h, if_neg (by decide)]
    apply e_iff (t_v' (e_cmp (e_loc h1) e_int (lt_f (by omega))))
    by_cases hh : how = [45]
    · rw [if_pos hh]
      exact e_iff (t_v' (e_cmp (e_idx (e_loc h0) e_int hn hf) e_str (nes_f hh))) e_str
    · rw [if_neg hh]
      exact e_ift (t_v' (e_cmp (e_idx (e_loc h0) e_int hn hf) e_str (nes_t hh))) (e_idx (e_loc h0) e_int hn hf)
abbrev wPow : List Nat := [112, 111, 119, 101, 114, 115]
end
end RA.St

/-! Figures with marks, by both. -/
namespace RA.St
open PySem

/-- from the front -/
def gF (g : Nat) (mk : List Nat) : Nat → List Nat → List Nat
  | _, [] => []
  | l, c :: r => if l = 0 then mk ++ ([c] ++ gF g mk (g - 1) r) else [c] ++ gF g mk (l - 1) r
/-- the plain answer -/
def gH (g : Nat) (mk : List Nat) : List Nat → List Nat
  | [] => []
  | c :: r => [c] ++ (if 0 < r.length ∧ r.length % g = 0 then mk else []) ++ gH g mk r
theorem gF_rest {g : Nat} (hg : 0 < g) (mk : List Nat) : ∀ r : List Nat, gF g mk (r.length % g) r = (if 0 < r.length ∧ r.length % g = 0 then mk else []) ++ gH g mk r
  | [] => by rw [if_neg (by simp)]; rfl
  | d :: r => by
    have ih := gF_rest hg mk r
    have hm : (r.length + 1) % g = if r.length % g + 1 = g then 0 else r.length % g + 1 := by
      have h1 := Nat.mod_lt r.length hg
      rw [Nat.add_mod]
      by_cases h2 : g = 1
      · subst h2; simp [Nat.mod_one]
      · rw [Nat.mod_eq_of_lt (by omega : 1 < g)]
        split
        · rename_i h; rw [h, Nat.mod_self]
        · exact Nat.mod_eq_of_lt (by omega)
    rw [List.length_cons, hm]
    show (if (if r.length % g + 1 = g then 0 else r.length % g + 1) = 0 then mk ++ ([d] ++ gF g mk (g - 1) r) else [d] ++ gF g mk ((if r.length % g + 1 = g then 0 else r.length % g + 1) - 1) r) = _ ++ ([d] ++ _ ++ gH g mk r)
    by_cases h : r.length % g + 1 = g
    · rw [if_pos h, if_pos rfl, if_pos ⟨by omega, rfl⟩]
      have : g - 1 = r.length % g := by omega
      rw [this, ih]
      simp only [List.append_assoc]
    · rw [if_neg h, if_neg (by omega), if_neg (by omega), Nat.add_sub_cancel, ih]
      simp only [List.append_assoc, List.nil_append]
theorem gF_all {g : Nat} (hg : 0 < g) (mk : List Nat) (c : Nat) (r : List Nat) : gF g mk (r.length % g + 1) (c :: r) = gH g mk (c :: r) := by
  show (if r.length % g + 1 = 0 then _ else [c] ++ gF g mk (r.length % g + 1 - 1) r) = [c] ++ _ ++ gH g mk r
  rw [if_neg (by omega), Nat.add_sub_cancel, gF_rest hg, List.append_assoc]
theorem gF_len (g : Nat) (mk : List Nat) : ∀ (r : List Nat) (l : Nat), (gF g mk l r).length ≤ r.length * (mk.length + 1)
  | [], _ => Nat.zero_le _
  | c :: r, l => by
    show (if l = 0 then mk ++ ([c] ++ gF g mk (g - 1) r) else [c] ++ gF g mk (l - 1) r).length ≤ _
    rw [List.length_cons, Nat.succ_mul]
    split
    · have := gF_len g mk r (g - 1); simp only [List.length_append, List.length_singleton]; omega
    · have := gF_len g mk r (l - 1); simp only [List.length_append, List.length_singleton]; omega
/-- from behind -/
def gL (g : Nat) (mk : List Nat) : Nat → List Nat → List Nat → List Nat
  | _, [], t => t
  | k, c :: r, t => gL g mk (k + 1) r ([c] ++ (if 0 < k ∧ k % g = 0 then mk else []) ++ t)
theorem gL_all (g : Nat) (mk : List Nat) : ∀ (q t : List Nat), gL g mk t.length q (gH g mk t) = gH g mk (q.reverse ++ t)
  | [], t => rfl
  | c :: q, t => by
    rw [List.reverse_cons, List.append_assoc]
    exact gL_all g mk q (c :: t)
section
variable {m : List PV}
def bGrp : Sms := (.cons 
      (.ift (.v (.cmp .eq (.loc 3) (.int 0))) (.cons 
      (.par 4 3 (.op .add (.loc 4) (.loc 2)) (.loc 1)) .nil) .nil) (.cons 
      (.par 4 3 (.op .add (.loc 4) (.loc 5)) (.op .sub (.loc 3) (.int 1))) .nil))
theorem subN {i : Nat} (h : 0 < i) : op2 .sub (.int i) (.int 1) = some (.int ((i - 1 : Nat) : Int)) := by
  show some (PV.int ((i : Int) - 1)) = _
  congr 2; omega
theorem grp_loop {cf : Nat → List PV → List PV → CR} {fg : PV} {g : Nat} (hg : 0 < g) {mk : List Nat} : ∀ (r : List Nat) (l : Nat) (t : List Nat) (y : Sl), t.length + r.length * (mk.length + 1) ≤ 1000000 →
    ∃ l' y', forL (fun x s m => (lift (asg (.nm 5) x s) s m).bnd fun s' _ m => xss gv cf bGrp s' m) (r.map fun c => .str [c]) [.va fg, .va (.int g), .va (.str mk), .va (.int (l : Nat)), .va (.str t), y] m
      = .ok .nx [.va fg, .va (.int g), .va (.str mk), .va (.int (l' : Nat)), .va (.str (t ++ gF g mk l r)), y'] m
  | [], l, t, y, _ => ⟨l, y, by show Res.ok _ _ _ = Res.ok _ _ _; rw [show gF g mk l [] = [] by cases l <;> rfl, List.append_nil]⟩
  | c :: r, l, t, y, hb => by
    rw [List.length_cons, Nat.succ_mul] at hb
    by_cases h0 : l = 0
    · subst h0
      have a1 : op2 .add (.str t) (.str mk) = some (.str (t ++ mk)) := addS (by omega)
      have a2 : op2 .add (.str (t ++ mk)) (.str [c]) = some (.str (t ++ mk ++ [c])) := addS (by simp only [List.length_append, List.length_singleton]; omega)
      obtain ⟨l', y', ih⟩ := grp_loop (cf := cf) (fg := fg) hg (mk := mk) r (g - 1) (t ++ mk ++ [c]) (.va (.str [c])) (by simp only [List.length_append, List.length_singleton]; omega)
      refine ⟨l', y', fl_nx (s1 := [.va fg, .va (.int g), .va (.str mk), .va (.int ((g - 1 : Nat) : Int)), .va (.str (t ++ mk ++ [c])), .va (.str [c])]) (m1 := m) ?_ ?_⟩
      · show xss gv cf bGrp [.va fg, .va (.int g), .va (.str mk), .va (.int (0 : Nat)), .va (.str t), .va (.str [c])] m = _
        apply b_nx
        · apply x_ift (t_v' (e_cmp (e_loc rfl) e_int (eq_t rfl)))
          exact b_nx (x_par (e_op (e_loc rfl) (e_loc rfl) a1) (e_loc rfl)) b_nil
        · exact b_nx (x_par (e_op (e_loc rfl) (e_loc rfl) a2) (e_op (e_loc rfl) e_int (subN hg))) b_nil
      · have : gF g mk 0 (c :: r) = mk ++ ([c] ++ gF g mk (g - 1) r) := rfl
        rw [this]
        simp only [List.append_assoc] at ih ⊢
        exact ih
    · have a1 : op2 .add (.str t) (.str [c]) = some (.str (t ++ [c])) := addS (by simp only [List.length_singleton]; omega)
      obtain ⟨l', y', ih⟩ := grp_loop (cf := cf) (fg := fg) hg (mk := mk) r (l - 1) (t ++ [c]) (.va (.str [c])) (by simp only [List.length_append, List.length_singleton]; omega)
      refine ⟨l', y', fl_nx (s1 := [.va fg, .va (.int g), .va (.str mk), .va (.int ((l - 1 : Nat) : Int)), .va (.str (t ++ [c])), .va (.str [c])]) (m1 := m) ?_ ?_⟩
      · show xss gv cf bGrp [.va fg, .va (.int g), .va (.str mk), .va (.int (l : Nat)), .va (.str t), .va (.str [c])] m = _
        apply b_nx
        · exact x_iff (t_v' (e_cmp (e_loc rfl) e_int (eq_f (by omega)))) b_nil
        · exact b_nx (x_par (e_op (e_loc rfl) (e_loc rfl) a1) (e_op (e_loc rfl) e_int (subN (by omega)))) b_nil
      · have : gF g mk l (c :: r) = [c] ++ gF g mk (l - 1) r := by show (if l = 0 then _ else _) = _; rw [if_neg h0]
        rw [this]
        simp only [List.append_assoc] at ih ⊢
        exact ih
end
end RA.St

/-! Integers written as figures, by both. -/
namespace RA.St
open PySem
section
variable {m : List PV}
def grp (g : Nat) (mk x : List Nat) : List Nat := if g = 0 then x else gH g mk x
/-- the noughts ahead -/
def nou (j : Int) : List Nat := (List.replicate j.toNat [48]).flatten
theorem nou_len (j : Int) : (nou j).length = j.toNat := by unfold nou; simp
theorem mulS {j : Int} (h : j ≤ 1000 ∧ -1000 ≤ j) : op2 .mul (.str [48]) (.int j) = some (.str (nou j)) := by
  show (if _ then _ else _) = _
  rw [if_pos]; rfl
  refine ⟨?_, by omega, by omega⟩
  show 1 * j.toNat ≤ 16777216; omega
theorem max0 (j : Int) : bi .max [.lst [.int 0, .int j]] = some (.int (if 0 < j then j else 0)) := rfl
theorem nou_max (j : Int) : nou (if 0 < j then j else 0) = nou j := by
  unfold nou; split
  · rfl
  · have : j.toNat = 0 := by omega
    rw [this]; rfl
/-- a number by a format of figures -/
def fgt (b : Nat) (how : List Nat) (least g : Nat) (mk ah : List Nat) (i : Int) : List Nat :=
  sgn (decide (i < 0)) how ++ ah ++ grp g mk (nou ((least : Int) - (num b i.natAbs).length) ++ num b i.natAbs)
theorem grp_len (g : Nat) (mk : List Nat) : ∀ x : List Nat, (gH g mk x).length ≤ x.length * (mk.length + 1)
  | [] => Nat.zero_le _
  | c :: r => by
    have := grp_len g mk r
    show ([c] ++ (if 0 < r.length ∧ r.length % g = 0 then mk else []) ++ gH g mk r).length ≤ _
    rw [List.length_cons, Nat.succ_mul, List.length_append, List.length_append, List.length_singleton]
    split
    · omega
    · simp only [List.length_nil]; omega
theorem grp_len' (g : Nat) (mk x : List Nat) : (grp g mk x).length ≤ x.length * (mk.length + 1) := by
  unfold grp; split
  · rw [Nat.mul_succ]; omega
  · exact grp_len g mk x
end
end RA.St

/-! Integers written as figures, by the law. -/
namespace RA.St
open PySem
section
variable {m : List PV}
def bMark : Sms := (.cons 
      (.asg 6 (.op .add (.op .add (.loc 8) (.ife (.all (.cons (.v (.cmp .gt (.loc 7) (.int 0))) (.cons (.v (.cmp .eq (.op .mod (.bi .int (.cons (.loc 7) .nil)) (.idx (.loc 0) (.int 4))) (.int 0))) .nil))) (.idx (.loc 0) (.int 5)) (.str []))) (.loc 6))) .nil)
def mkK (g : Nat) (mk : List Nat) (k : Nat) : List Nat := if 0 < k ∧ k % g = 0 then mk else []
theorem mkK_e {cf : Nat → List PV → List PV → CR} {s : List Sl} {fo : PV} {g k : Nat} {mk : List Nat} (hg : 0 < g) (h0 : s[0]? = some (.va fo)) (h7 : s[7]? = some (.va (.int k))) (hn : notRef fo = true) (h4 : idxP fo (.int 4) = some (.int g)) (h5 : idxP fo (.int 5) = some (.str mk)) :
    ev gv cf (.ife (.all (.cons (.v (.cmp .gt (.loc 7) (.int 0))) (.cons (.v (.cmp .eq (.op .mod (.bi .int (.cons (.loc 7) .nil)) (.idx (.loc 0) (.int 4))) (.int 0))) .nil))) (.idx (.loc 0) (.int 5)) (.str [])) s m = .ok (.str (mkK g mk k)) s m := by
  have hm := modN (k := k) hg
  unfold mkK
  by_cases a : 0 < k
  · have t1 : evt gv cf (.v (.cmp .gt (.loc 7) (.int 0))) s m = .ok true s m := t_v' (e_cmp (e_loc h7) e_int (gt_t (by omega)))
    by_cases b : k % g = 0
    · rw [if_pos ⟨a, b⟩]
      exact e_ift (t_allt t1 (t_allt (t_v' (e_cmp (e_op (e_bi (l_cons (e_loc h7) l_nil) rfl) (e_idx (e_loc h0) e_int hn h4) hm) e_int (eq_t (by omega)))) t_allnil)) (e_idx (e_loc h0) e_int hn h5)
    · rw [if_neg fun h => b h.2]
      exact e_iff (t_allg t1 (t_allf (t_v' (e_cmp (e_op (e_bi (l_cons (e_loc h7) l_nil) rfl) (e_idx (e_loc h0) e_int hn h4) hm) e_int (eq_f (by omega)))))) e_str
  · rw [if_neg fun h => a h.1]
    exact e_iff (t_allf (t_v' (e_cmp (e_loc h7) e_int (gt_f (by omega))))) e_str
theorem mark_loop {cf : Nat → List PV → List PV → CR} {fo a1 sg bb fg : PV} {g : Nat} {mk : List Nat} (hg : 0 < g) (hn : notRef fo = true) (h4 : idxP fo (.int 4) = some (.int g)) (h5 : idxP fo (.int 5) = some (.str mk)) : ∀ (q : List Nat) (k : Nat) (t : List Nat) (y z : Sl), t.length + q.length * (mk.length + 1) ≤ 1000000 →
    ∃ y' z', forL (fun x s m => (lift (asg (.tp (.cons (.nm 7) (.cons (.nm 8) .nil))) x s) s m).bnd fun s' _ m => xss gv cf bMark s' m) (enum k (q.map fun c => .str [c])) [.va fo, .va a1, .va sg, .va bb, .un, .va fg, .va (.str t), y, z] m
      = .ok .nx [.va fo, .va a1, .va sg, .va bb, .un, .va fg, .va (.str (gL g mk k q t)), y', z'] m
  | [], k, t, y, z, _ => ⟨y, z, rfl⟩
  | c :: q, k, t, y, z, hb => by
    rw [List.length_cons, Nat.succ_mul] at hb
    have lk : (mkK g mk k).length ≤ mk.length := by unfold mkK; split <;> simp
    have b1 : op2 .add (.str [c]) (.str (mkK g mk k)) = some (.str ([c] ++ mkK g mk k)) := addS (by rw [List.length_singleton]; omega)
    have b2 : op2 .add (.str ([c] ++ mkK g mk k)) (.str t) = some (.str ([c] ++ mkK g mk k ++ t)) := addS (by rw [List.length_append, List.length_singleton]; omega)
    obtain ⟨y', z', ih⟩ := mark_loop (cf := cf) (fo := fo) (a1 := a1) (sg := sg) (bb := bb) (fg := fg) hg hn h4 h5 q (k + 1) ([c] ++ mkK g mk k ++ t) (.va (.int k)) (.va (.str [c])) (by simp only [List.length_append, List.length_singleton]; omega)
    refine ⟨y', z', fl_nx (s1 := [.va fo, .va a1, .va sg, .va bb, .un, .va fg, .va (.str ([c] ++ mkK g mk k ++ t)), .va (.int k), .va (.str [c])]) (m1 := m) ?_ ih⟩
    show xss gv cf bMark [.va fo, .va a1, .va sg, .va bb, .un, .va fg, .va (.str t), .va (.int k), .va (.str [c])] m = _
    exact b_nx (x_asg (e_op (e_op (e_loc rfl) (mkK_e hg rfl rfl hn h4 h5) b1) (e_loc rfl) b2)) b_nil
abbrev wFig : List Nat := [102, 105, 103, 117, 114, 101, 115]
end
end RA.St

/-! What a sign is worth, by both. -/
namespace RA.St
open PySem
section
variable {m : List PV}
def wth (c : Nat) : Nat := if FGS.contains c then (FGS.findIdx? (· == c)).getD 0 else (SGN.findIdx? (· == c)).getD 0
theorem idx_f {c : Nat} (h : FGS.contains c = true) : mt .index (.str FGS) [.str [c]] = some (.int (wth c)) := by
  have h2 : ∀ c ∈ FGS, FGS.findIdx? (· == c) = some ((FGS.findIdx? (· == c)).getD 0) := by decide +kernel
  have h3 := h2 c (by simpa using h)
  show (FGS.findIdx? (· == c)).map (fun (j : Nat) => PV.int j) = _
  unfold wth
  rw [if_pos h]
  generalize FGS.findIdx? (· == c) = o at h3 ⊢
  rw [h3]; rfl
theorem idx_s {c : Nat} (h : FGS.contains c = false) (hs : SGN.contains c = true) : mt .index (.str SGN) [.str [c]] = some (.int (wth c)) := by
  have h2 : ∀ c ∈ SGN, SGN.findIdx? (· == c) = some ((SGN.findIdx? (· == c)).getD 0) := by decide +kernel
  have h3 := h2 c (by simpa using hs)
  show (SGN.findIdx? (· == c)).map (fun (j : Nat) => PV.int j) = _
  unfold wth
  rw [if_neg (by rw [h]; exact Bool.false_ne_true)]
  generalize SGN.findIdx? (· == c) = o at h3 ⊢
  rw [h3]; rfl
theorem in_f (c : Nat) : cmp .inn (.str [c]) (.str FGS) = some (FGS.contains c) := rfl
end
end RA.St

/-! The check sign, by both. -/
namespace RA.St
open PySem
section
variable {m : List PV}
/-- the sum of the signs' numbers, each times one more power of a factor -/
def sumW (f : Nat) : List Nat → Nat → Nat → Nat × Nat
  | [], a, w => (a, w)
  | c :: r, a, w => sumW f r (a + w * wth c) (w * f)
def sumM (d f : Nat) : List Nat → Nat → Nat → Nat × Nat
  | [], a, w => (a, w)
  | c :: r, a, w => sumM d f r ((a + w * wth c) % d) (w * f % d)
theorem sum_mod (d f : Nat) : ∀ (r : List Nat) (a w a' w' : Nat), a % d = a' % d → w % d = w' % d → (sumM d f r a w).1 % d = (sumW f r a' w').1 % d
  | [], a, w, a', w', h, _ => h
  | c :: r, a, w, a', w', h1, h2 => by
    show (sumM d f r ((a + w * wth c) % d) (w * f % d)).1 % d = (sumW f r (a' + w' * wth c) (w' * f)).1 % d
    apply sum_mod d f r
    · rw [Nat.mod_mod, Nat.add_mod, Nat.mul_mod, h1, h2, ← Nat.mul_mod, ← Nat.add_mod]
    · rw [Nat.mod_mod, Nat.mul_mod, h2, ← Nat.mul_mod]
theorem sumM_lt {d f : Nat} (hd : 0 < d) : ∀ (r : List Nat) (a w : Nat), a < d → (sumM d f r a w).1 < d
  | [], a, w, h => h
  | c :: r, a, w, h => sumM_lt hd r _ _ (Nat.mod_lt _ hd)
theorem mulN {w x : Nat} (h : w ≤ 1000000) : op2 .mul (.int w) (.int x) = some (.int ((w * x : Nat) : Int)) := by rw [op_mulL (small_of (by omega)), Int.natCast_mul]
theorem mulN' {w x : Nat} (h : x ≤ 1000000) : op2 .mul (.int w) (.int x) = some (.int ((w * x : Nat) : Int)) := by rw [op_mulR (small_of (by omega)), Int.natCast_mul]
theorem addN {w x : Nat} : op2 .add (.int w) (.int x) = some (.int ((w + x : Nat) : Int)) := rfl
def bChk : Sms := (.cons 
      (.par 3 4 (.op .mod (.op .add (.loc 3) (.op .mul (.loc 4) (.call 10 (.cons (.loc 5) .nil)))) (.loc 1)) (.op .mod (.op .mul (.loc 4) (.loc 2)) (.loc 1))) .nil)
end
end RA.St

/-! The fills of a pad. -/
namespace RA.St
open PySem
section
variable {m : List PV}
def lackN (width many : Nat) : Nat := width - many
def ahd (side : List Nat) (lack : Nat) : Nat := if side = [60] then 0 else if side = [62] then lack else lack / 2
def rep (x : List Nat) (k : Nat) : List Nat := (List.replicate k x).flatten
theorem mulR {x : List Nat} {k : Nat} (h : k ≤ 1000) (hx : x.length ≤ 1000) : op2 .mul (.str x) (.int k) = some (.str (rep x k)) := by
  show (if _ then _ else _) = _
  have : x.length * k ≤ 1000 * 1000 := Nat.mul_le_mul hx h
  rw [if_pos]; rfl
  refine ⟨?_, by omega, by omega⟩
  show x.length * (k : Int).toNat ≤ 16777216
  rw [Int.toNat_natCast]; omega
theorem max_lack {w k : Nat} : bi .max [.lst [.int 0, .int ((w : Int) - k)]] = some (.int ((lackN w k : Nat) : Int)) := by
  rw [max0]
  congr 2
  unfold lackN
  split <;> omega
theorem subNN {a b : Nat} (h : b ≤ a) : op2 .sub (.int a) (.int b) = some (.int ((a - b : Nat) : Int)) := by
  show some (PV.int ((a : Int) - b)) = _
  congr 2; omega
theorem ahd_le (side : List Nat) (k : Nat) : ahd side k ≤ k := by unfold ahd; split; omega; split; omega; exact Nat.div_le_self ..
theorem side_dic {k : Nat} {side : List Nat} (h : side = [60] ∨ side = [62] ∨ side = [94]) : (getD [.str [60], .str [62], .str [94]] [.int (0 : Int), .int (k : Int), .int ((k / 2 : Nat) : Int)] side) = some (some (.int ((ahd side k : Nat) : Int))) := by
  rcases h with rfl | rfl | rfl <;> rfl
end
end RA.St

/-! Words, written by both. -/
namespace RA.St
open PySem
section
variable {m : List PV}
theorem joinS_nil : ∀ xs : List (List Nat), joinS [] xs = xs.flatten
  | [] => rfl
  | [x] => by show x = _; simp
  | x :: y :: r => by show x ++ ([] ++ joinS [] (y :: r)) = _; rw [joinS_nil (y :: r)]; simp
theorem pStrs_map {α : Type} (f : α → List Nat) : ∀ l : List α, pStrs (l.map fun x => PV.str (f x)) = some (l.map f)
  | [] => rfl
  | x :: l => by show (pStrs (l.map fun x => PV.str (f x))).map _ = _; rw [pStrs_map f l]; rfl
theorem sum_le {α : Type} (f : α → Nat) (k : Nat) : ∀ l : List α, (∀ x ∈ l, f x ≤ k) → (l.map f).sum ≤ l.length * k
  | [], _ => Nat.zero_le _
  | x :: l, h => by
    have h1 := h x (List.mem_cons_self ..)
    have h2 := sum_le f k l fun y hy => h y (List.mem_cons_of_mem _ hy)
    rw [List.map_cons, List.sum_cons, List.length_cons, Nat.succ_mul]; omega
theorem join_t {α : Type} {f : α → List Nat} {l : List α} {k : Nat} (h : ∀ x ∈ l, (f x).length ≤ k) (hk : l.length * k ≤ 1000000) : mt .join (.str []) [.lst (l.map fun x => .str (f x))] = some (.str (l.map f).flatten) := by
  show (pStrs _).bind _ = _
  rw [pStrs_map]
  show (if ((l.map f).map List.length).sum + (l.map f).length * 0 ≤ SZ then some (PV.str (joinS [] (l.map f))) else none) = _
  rw [if_pos, joinS_nil]
  have := sum_le (fun x => (f x).length) k l h
  rw [List.map_map, Nat.mul_zero]
  show (l.map fun x => (f x).length).sum + 0 ≤ 16777216
  omega
/-- a dict that tells signs -/
def WT (ks vs : List PV) (tx : Nat → List Nat) (x : List Nat) : Prop := ∀ c ∈ x, ∃ o, getD ks vs [c] = some o ∧ o.getD (.str [c]) = .str (tx c)
/-- the joined texts of a word's signs, by a dict -/
theorem tell_e {cf : Nat → List PV → List PV → CR} {s : List Sl} {d v w : Nat} {ks vs : List PV} {tx : Nat → List Nat} {x : List Nat} {k : Nat} (hdv : d ≠ v) (hlt : v < s.length) (hd : s[d]? = some (.va (.dic ks vs))) (hx : s[w]? = some (.va (.str x))) (hT : WT ks vs tx x) (hk : ∀ c ∈ x, (tx c).length ≤ k) (hb : x.length * k ≤ 1000000) (hl : x.length ≤ 1000000) (hr : rest s (s.set v .un) [v] = s) :
    ev gv cf (.mt .join (.str []) (.cons (.lc [v] (.dgt (.loc d) (.loc v) (.loc v)) (.nm v) (.val (.loc w)) .nil) .nil)) s m = .ok (.str (x.map tx).flatten) s m := by
  have h1 : ev gv cf (.lc [v] (.dgt (.loc d) (.loc v) (.loc v)) (.nm v) (.val (.loc w)) .nil) s m = .ok (.lst ((x.map fun c => PV.str [c]).map fun p => match p with | .str [c] => .str (tx c) | _ => .non)) (rest s (wipe s [v]) [v]) m := by
    apply e_lcp (s1 := s) (l := x.map fun c => .str [c]) (fun c => (s.set v .un).set v (.va c))
    · exact i_val' (e_loc hx) rfl
    · rw [List.length_map]; exact Nat.ble_eq_true_of_le (by show _ ≤ (16777216 : Nat); omega)
    · intro c hc; rfl
    · intro c hc
      obtain ⟨c, hm, rfl⟩ := List.mem_map.1 hc
      obtain ⟨o, h1, h2⟩ := hT c hm
      have e1 : ((s.set v .un).set v (.va (.str [c])))[d]? = some (.va (.dic ks vs)) := by rw [List.set_set, List.getElem?_set_ne (Ne.symm hdv), hd]
      have e2 : ((s.set v .un).set v (.va (.str [c])))[v]? = some (.va (.str [c])) := by rw [List.set_set, List.getElem?_set_self hlt]
      have h3 := e_dgt (G := gv) (cf := cf) (m := m) (e_loc e1) (e_loc e2) (e_loc e2) h1
      rw [h2] at h3
      exact h3
    · intro c hc
      show ((s.set v .un).set v (.va c)).set v .un = s.set v .un
      rw [List.set_set, List.set_set]
  have h2 : rest s (wipe s [v]) [v] = s := hr
  rw [h2, List.map_map] at h1
  have h3 : x.map ((fun p => match p with | PV.str [c] => PV.str (tx c) | _ => .non) ∘ fun c => PV.str [c]) = x.map fun c => .str (tx c) := rfl
  rw [h3] at h1
  exact e_mt e_str rfl (l_cons h1 l_nil) (join_t hk hb)
end
end RA.St

/-! Words, written by both: plain, spelled, quoted. -/
namespace RA.St
open PySem
section
variable {m : List PV}
abbrev wPla : List Nat := [112, 108, 97, 105, 110]
abbrev wSpe : List Nat := [115, 112, 101, 108, 108, 101, 100]
abbrev wQuo : List Nat := [113, 117, 111, 116, 101, 100]
theorem flat_one (x : List Nat) : (x.map fun c => [c]).flatten = x := by induction x with
  | nil => rfl
  | cons c r ih => rw [List.map_cons, List.flatten_cons, ih]; rfl
theorem wt_nil (x : List Nat) : WT [] [] (fun c => [c]) x := fun c _ => ⟨none, rfl, rfl⟩
end
end RA.St

/-! Words, written by the law: plain, spelled. -/
namespace RA.St
open PySem
section
variable {m : List PV}
end
end RA.St

/-! Quoted words: the program's dict. -/
namespace RA.St
open PySem
section
variable {m : List PV}
def txq (q e c : Nat) : List Nat := if c = q ∨ c = e then [e, c] else [c]
theorem wt_quo {q e : Nat} (x : List Nat) : WT [.str [q], .str [e]] [.str [e, q], .str [e, e]] (txq q e) x := by
  intro c _
  unfold txq
  by_cases h1 : c = q
  · subst h1
    refine ⟨some (.str [e, c]), ?_, ?_⟩
    · show (if ([c] == [c]) = true then some (some (PV.str [e, c])) else _) = _
      rw [if_pos (by simp)]
    · rw [if_pos (Or.inl rfl)]; rfl
  · by_cases h2 : c = e
    · subst h2
      refine ⟨some (.str [c, c]), ?_, ?_⟩
      · show (if ([q] == [c]) = true then _ else if ([c] == [c]) = true then some (some (PV.str [c, c])) else _) = _
        rw [if_neg (by simpa using fun h => h1 h.symm), if_pos (by simp)]
      · rw [if_pos (Or.inr rfl)]; rfl
    · refine ⟨none, ?_, ?_⟩
      · show (if ([q] == [c]) = true then _ else if ([e] == [c]) = true then _ else some none) = _
        rw [if_neg (by simpa using fun h => h1 h.symm), if_neg (by simpa using fun h => h2 h.symm)]
      · rw [if_neg (fun h => h.elim h1 h2)]; rfl
end
end RA.St

/-! Quoted words, by the program. -/
namespace RA.St
open PySem
section
variable {m : List PV}
theorem txq_len (q e c : Nat) : (txq q e c).length ≤ 2 := by unfold txq; split <;> simp
def qtx (q e : Nat) (x : List Nat) : List Nat := [q] ++ (x.map (txq q e)).flatten ++ [q]
end
end RA.St

/-! Quoted words, by the law. -/
namespace RA.St
open PySem
section
variable {m : List PV}
theorem inQ (q e c : Nat) : cmp .inn (.str [c]) (.tup [.str [q], .str [e]]) = some (([q] == [c]) || (([e] == [c]) || false)) := rfl
theorem quo_e {cf : Nat → List PV → List PV → CR} {s : List Sl} {q e c : Nat} (h0 : s[0]? = some (.va (.tup [.str wQuo, .str [q], .str [e]]))) (h3 : s[3]? = some (.va (.str [c]))) :
    ev gv cf (.ife (.v (.cmp .inn (.loc 3) (.sli (.loc 0) (.so (.int 1)) .no))) (.op .add (.idx (.loc 0) (.int 2)) (.loc 3)) (.loc 3)) s m = .ok (.str (txq q e c)) s m := by
  have hi := inQ q e c
  have a1 : op2 .add (.str [e]) (.str [c]) = some (.str [e, c]) := rfl
  unfold txq
  by_cases h : c = q ∨ c = e
  · have hb : (([q] == [c]) || (([e] == [c]) || false)) = true := by
      rcases h with h | h <;> subst h <;> simp
    rw [hb] at hi
    rw [if_pos h]
    exact e_ift (t_v' (e_cmp (e_loc h3) (e_sli (e_loc h0) (o_so e_int) o_no rfl) hi)) (e_op (e_idx (e_loc h0) e_int rfl rfl) (e_loc h3) a1)
  · have hb : (([q] == [c]) || (([e] == [c]) || false)) = false := by
      have h1 : q ≠ c := fun x => h (Or.inl x.symm)
      have h2 : e ≠ c := fun x => h (Or.inr x.symm)
      simp [h1, h2]
    rw [hb] at hi
    rw [if_neg h]
    exact e_iff (t_v' (e_cmp (e_loc h3) (e_sli (e_loc h0) (o_so e_int) o_no rfl) hi)) (e_loc h3)
end
end RA.St

/-! Quoted words, by the law: the text. -/
namespace RA.St
open PySem
section
variable {m : List PV}
/-- joined texts of the signs of a word -/
theorem tellg_e {cf : Nat → List PV → List PV → CR} {s : List Sl} {v w : Nat} {elt : Ex} {tx : Nat → List Nat} {x : List Nat} {k : Nat} (hx : s[w]? = some (.va (.str x))) (hT : ∀ c ∈ x, ev gv cf elt (s.set v (.va (.str [c]))) m = .ok (.str (tx c)) (s.set v (.va (.str [c]))) m) (hk : ∀ c ∈ x, (tx c).length ≤ k) (hb : x.length * k ≤ 1000000) (hl : x.length ≤ 1000000) (hr : rest s (s.set v .un) [v] = s) :
    ev gv cf (.mt .join (.str []) (.cons (.lc [v] elt (.nm v) (.val (.loc w)) .nil) .nil)) s m = .ok (.str (x.map tx).flatten) s m := by
  have h1 : ev gv cf (.lc [v] elt (.nm v) (.val (.loc w)) .nil) s m = .ok (.lst ((x.map fun c => PV.str [c]).map fun p => match p with | .str [c] => .str (tx c) | _ => .non)) (rest s (wipe s [v]) [v]) m := by
    apply e_lcp (s1 := s) (l := x.map fun c => .str [c]) (fun c => (s.set v .un).set v (.va c))
    · exact i_val' (e_loc hx) rfl
    · rw [List.length_map]; exact Nat.ble_eq_true_of_le (by show _ ≤ (16777216 : Nat); omega)
    · intro c hc; rfl
    · intro c hc
      obtain ⟨c, hm, rfl⟩ := List.mem_map.1 hc
      rw [List.set_set]
      exact hT c hm
    · intro c hc
      show ((s.set v .un).set v (.va c)).set v .un = s.set v .un
      rw [List.set_set, List.set_set]
  have h2 : rest s (wipe s [v]) [v] = s := hr
  rw [h2, List.map_map] at h1
  have h3 : x.map ((fun p => match p with | PV.str [c] => PV.str (tx c) | _ => .non) ∘ fun c => PV.str [c]) = x.map fun c => .str (tx c) := rfl
  rw [h3] at h1
  exact e_mt e_str rfl (l_cons h1 l_nil) (join_t hk hb)
end
end RA.St

/-! The law's loop of check signs. -/
namespace RA.St
open PySem
section
variable {m : List PV}
def bLck : Sms := (.cons 
      (.par 5 6 (.op .add (.loc 5) (.op .mul (.loc 6) (.call 50 (.cons (.loc 7) .nil)))) (.op .mul (.loc 6) (.idx (.loc 1) (.int 2)))) .nil)
theorem wth_le (c : Nat) (h : SGN.contains c = true) : wth c ≤ 1000 := by
  have h2 : ∀ c ∈ SGN, wth c ≤ 1000 := by decide +kernel
  exact h2 c (by simpa using h)
end
end RA.St

/-! Sorts, values and formats, as they are drawn. -/
namespace RA.St
open PySem
abbrev wInt : List Nat := [105, 110, 116]
abbrev wWor : List Nat := [119, 111, 114, 100]
abbrev wOne : List Nat := [111, 110, 101]
abbrev wMay : List Nat := [109, 97, 121, 98, 101]
abbrev wRow : List Nat := [114, 111, 119]
abbrev wMan : List Nat := [109, 97, 110, 121]
abbrev wCas : List Nat := [99, 97, 115, 101]
abbrev wPad : List Nat := [112, 97, 100]
abbrev wCut : List Nat := [99, 117, 116]
abbrev wChe : List Nat := [99, 104, 101, 99, 107, 101, 100]
abbrev wSki : List Nat := [115, 107, 105, 112]
abbrev wNam : List Nat := [110, 97, 109, 101, 115]
abbrev wSom : List Nat := [115, 111, 109, 101]
inductive S where
  | int (lo hi : Option Int)
  | wor (le : List Nat) (least : Nat) (most : Option Nat)
  | one (k : Nat)
  | may (s : S)
  | row (l : List S)
  | man (s : S) (least : Nat) (most : Option Nat)
  | cas (l : List S)
def oi : Option Int → PV
  | none => .non
  | some i => .int i
def on : Option Nat → PV
  | none => .non
  | some i => .int i
mutual
def sv : S → PV
  | .int lo hi => .tup [.str wInt, oi lo, oi hi]
  | .wor le a b => .tup [.str wWor, .str le, .int a, on b]
  | .one k => .tup [.str wOne, .int k]
  | .may s => .tup [.str wMay, sv s]
  | .row l => .tup [.str wRow, .tup (svs l)]
  | .man s a b => .tup [.str wMan, sv s, .int a, on b]
  | .cas l => .tup [.str wCas, .tup (svs l)]
def svs : List S → List PV
  | [] => []
  | s :: l => sv s :: svs l
end
theorem svs_len : ∀ l, (svs l).length = l.length
  | [] => rfl
  | s :: l => by show (svs l).length + 1 = _; rw [svs_len l]; rfl
theorem svs_at : ∀ (l : List S) (j : Nat) (s : S), l[j]? = some s → (svs l)[j]? = some (sv s)
  | [], j, s, h => by cases h
  | x :: l, 0, s, h => by cases h; rfl
  | x :: l, j + 1, s, h => svs_at l j s h
theorem svs_map : ∀ l, svs l = l.map sv
  | [] => rfl
  | s :: l => by show sv s :: svs l = _; rw [svs_map l]; rfl
def HowP (how : List Nat) : Prop := how = [45] ∨ how = [43] ∨ how = [32]
def MarkP (b g : Nat) (mk : List Nat) : Prop := (g = 0 ∧ mk = []) ∨ ((g = 2 ∨ g = 3 ∨ g = 4) ∧ ∃ c, mk = [c] ∧ SGN.contains c = true ∧ (FGS.take b).contains c = false)
/-- pairs of a format that spells -/
def spPV (ps : List (Nat × List Nat)) : List PV := ps.map fun p => .tup [.str [p.1], .str p.2]
def rising : List Nat → Bool
  | [] => true
  | x :: r => (match r with | [] => true | y :: _ => decide (x < y)) && rising r
def SpP (ps : List (Nat × List Nat)) : Prop := ps.length ≤ 2 ∧ rising (ps.map (·.1)) = true ∧ ∀ p ∈ ps, SGN.contains p.1 = true ∧ Txt p.2 4 ∧ p.2 ≠ []
/-- values of a sort -/
inductive ValP : S → PV → Prop where
  | int (lo hi : Option Int) (i : Int) (h : i.natAbs < 2 ^ 64) (hl : ∀ a, lo = some a → a ≤ i) (hh : ∀ b, hi = some b → i ≤ b) : ValP (.int lo hi) (.int i)
  | wor (le : List Nat) (a : Nat) (b : Option Nat) (x : List Nat) (hx : ∀ c ∈ x, le.contains c = true) (hs : ∀ c ∈ x, SGN.contains c = true) (ha : a ≤ x.length) (h3 : x.length ≤ 3) (hb : ∀ k, b = some k → x.length ≤ k) : ValP (.wor le a b) (.str x)
  | one (k j : Nat) (h : j < k) : ValP (.one k) (.int j)
  | non (s : S) : ValP (.may s) .non
  | som (s : S) (v : PV) (h : ValP s v) : ValP (.may s) (.tup [.str wSom, v])
  | row (l : List S) (vs : List PV) (hl : vs.length = l.length) (h : ∀ (j : Nat) (s : S) (v : PV), l[j]? = some s → vs[j]? = some v → ValP s v) : ValP (.row l) (.tup vs)
  | man (s : S) (a : Nat) (b : Option Nat) (vs : List PV) (h : ∀ v ∈ vs, ValP s v) (ha : a ≤ vs.length) (h3 : vs.length ≤ 3) (hb : ∀ k, b = some k → vs.length ≤ k) : ValP (.man s a b) (.tup vs)
  | cas (l : List S) (j : Nat) (s : S) (v : PV) (hj : l[j]? = some s) (h : ValP s v) : ValP (.cas l) (.tup [.int j, v])
/-- parts of a row -/
inductive RowPs (P : S → PV → Prop) : Nat → List S → List PV → Prop where
  | done (j : Nat) : RowPs P j [] []
  | txt (j : Nat) (l : List S) (t : List Nat) (ps : List PV) (ht : Txt t 8) (hn : t ≠ []) (h : RowPs P j l ps) : RowPs P j l (.str t :: ps)
  | part (j : Nat) (s : S) (l : List S) (f : PV) (ps : List PV) (hf : P s f) (h : RowPs P (j + 1) l ps) : RowPs P j (s :: l) (.tup [.int j, f] :: ps)
/-- a format whose parts are so -/
inductive FormQ (P : S → PV → Prop) : S → PV → Prop where
  | fig (lo hi : Option Int) (b least g : Nat) (how mk ah : List Nat) (hb : 2 ≤ b ∧ b ≤ 16) (hl : 1 ≤ least ∧ least ≤ 12) (hh : HowP how) (hk : MarkP b g mk) (ha : Txt ah 4) : FormQ P (.int lo hi) (.tup [.str wFig, .int b, .str how, .int least, .int g, .str mk, .str ah])
  | pow (lo hi : Int) (b : Nat) (how : List Nat) (hb : 2 ≤ b ∧ b ≤ 10) (hh : HowP how) : FormQ P (.int (some lo) (some hi)) (.tup [.str wPow, .int b, .str how])
  | pla (le : List Nat) (a : Nat) (b : Option Nat) : FormQ P (.wor le a b) (.tup [.str wPla])
  | spe (le : List Nat) (a : Nat) (b : Option Nat) (ps : List (Nat × List Nat)) (hp : SpP ps) : FormQ P (.wor le a b) (.tup [.str wSpe, .tup (spPV ps)])
  | quo (le : List Nat) (a : Nat) (b : Option Nat) (q e : Nat) (hq : SGN.contains q = true) (he : SGN.contains e = true) (hn : q ≠ e) : FormQ P (.wor le a b) (.tup [.str wQuo, .str [q], .str [e]])
  | nam (k : Nat) (ts : List (List Nat)) (hk : ts.length = k) (hk2 : k ≤ 12) (ht : ∀ t ∈ ts, Txt t 8) : FormQ P (.one k) (.tup [.str wNam, .tup (ts.map .str)])
  | ski (s : S) : FormQ P s (.tup [.str wSki])
  | may (s : S) (t : List Nat) (f : PV) (ht : Txt t 8) (hf : P s f) : FormQ P (.may s) (.tup [.str wMay, .str t, f])
  | row (l : List S) (ps : List PV) (hl : l.length ≤ 2) (hp : ps.length ≤ 4) (h : RowPs P 0 l ps) : FormQ P (.row l) (.tup [.str wRow, .tup ps])
  | man (s : S) (a : Nat) (b : Option Nat) (t1 t2 t3 t4 : List Nat) (f : PV) (h1 : Txt t1 4) (h2 : Txt t2 4) (h3 : Txt t3 4) (h4 : Txt t4 4) (hf : P s f) : FormQ P (.man s a b) (.tup [.str wMan, .str t1, .str t2, .str t3, .str t4, f])
  | cas (l : List S) (fs : List PV) (hl : fs.length = l.length) (h1 : 1 ≤ l.length ∧ l.length ≤ 2) (hf : ∀ (j : Nat) (s : S) (f : PV), l[j]? = some s → fs[j]? = some f → P s f) : FormQ P (.cas l) (.tup [.str wCas, .tup fs])
  | pad (s : S) (w : Nat) (c : Nat) (side : List Nat) (f : PV) (hw : w ≤ 8) (hc : SGN.contains c = true) (hs : side = [60] ∨ side = [62] ∨ side = [94]) (hf : P s f) : FormQ P s (.tup [.str wPad, .int w, .str [c], .str side, f])
  | cut (s : S) (w : Nat) (f : PV) (hw : w ≤ 8) (hf : P s f) : FormQ P s (.tup [.str wCut, .int w, f])
  | che (s : S) (d k : Nat) (f : PV) (hd : 2 ≤ d ∧ d ≤ 16) (hk : 1 ≤ k ∧ k + 1 ≤ d) (hf : P s f) : FormQ P s (.tup [.str wChe, .int d, .int k, f])
/-- a format of a sort, at most so high -/
def FormP : Nat → S → PV → Prop
  | 0, _, _ => False
  | h + 1, s, f => FormQ (FormP h) s f
/-! ### signs that may be written -/
def Ok (t : List Nat) : Prop := ∀ c ∈ t, SGN.contains c = true
theorem ok_nil : Ok [] := fun c hc => (List.not_mem_nil hc).elim
theorem ok_app {x y : List Nat} (hx : Ok x) (hy : Ok y) : Ok (x ++ y) := fun c hc => (List.mem_append.1 hc).elim (hx c) (hy c)
theorem ok_one {c : Nat} (h : SGN.contains c = true) : Ok [c] := fun d hd => by rw [List.mem_singleton.1 hd]; exact h
theorem ok_flat {xs : List (List Nat)} (h : ∀ x ∈ xs, Ok x) : Ok xs.flatten := fun c hc => by
  obtain ⟨x, hx, hm⟩ := List.mem_flatten.1 hc
  exact h x hx c hm
theorem ok_join {s : List Nat} (hs : Ok s) : ∀ xs : List (List Nat), (∀ x ∈ xs, Ok x) → Ok (joinS s xs)
  | [], _ => ok_nil
  | [x], h => h x (List.mem_cons_self ..)
  | x :: y :: r, h => ok_app (h x (List.mem_cons_self ..)) (ok_app hs (ok_join hs (y :: r) fun z hz => h z (List.mem_cons_of_mem _ hz)))
theorem ok_txt {x : List Nat} {k : Nat} (h : Txt x k) : Ok x := fun c hc => List.all_eq_true.1 h.2.2 c hc
theorem ok_rep {x : List Nat} {k : Nat} (h : Ok x) : Ok (rep x k) := ok_flat fun y hy => by rw [(List.mem_replicate.1 hy).2]; exact h
theorem ok_dig {k : Nat} (h : k < 16) : SGN.contains (dig k) = true := by
  have : ∀ k, k < 16 → SGN.contains (dig k) = true := by decide +kernel
  exact this k h
theorem ok_dg {b : Nat} (hb : 2 ≤ b ∧ b ≤ 16) : ∀ f k, Ok (dg b f k)
  | 0, _ => ok_nil
  | f + 1, k => by
    show Ok (if k = 0 then [] else dg b f (k / b) ++ [dig (k % b)])
    split
    · exact ok_nil
    · exact ok_app (ok_dg hb f _) (ok_one (ok_dig (by have := Nat.mod_lt k (by omega : b > 0); omega)))
theorem ok_num {b : Nat} (hb : 2 ≤ b ∧ b ≤ 16) (k : Nat) : Ok (num b k) := ok_app (ok_dg hb 64 _) (ok_one (ok_dig (by have := Nat.mod_lt k (by omega : b > 0); omega)))
theorem ok_fig {k : Nat} (h : k < 10) : SGN.contains (48 + k) = true := by
  have : ∀ k, k < 10 → SGN.contains (48 + k) = true := by decide +kernel
  exact this k h
theorem ok_dec : ∀ f n, Ok (decN f n)
  | 0, _ => ok_nil
  | f + 1, n => by
    show Ok (if n < 10 then [48 + n] else decN f (n / 10) ++ [48 + n % 10])
    split
    · exact ok_one (ok_fig (by assumption))
    · exact ok_app (ok_dec f _) (ok_one (ok_fig (Nat.mod_lt _ (by decide))))
theorem ok_how {how : List Nat} (h : HowP how) : Ok how := by
  rcases h with rfl | rfl | rfl <;> exact ok_one (by decide +kernel)
theorem ok_sgn {neg : Bool} {how : List Nat} (h : HowP how) : Ok (sgn neg how) := by
  unfold sgn
  split
  · exact ok_one (by decide +kernel)
  · split
    · exact ok_nil
    · exact ok_how h
theorem ok_gH {g : Nat} {mk : List Nat} (hm : Ok mk) : ∀ x : List Nat, Ok x → Ok (gH g mk x)
  | [], _ => ok_nil
  | c :: r, h => by
    show Ok ([c] ++ (if 0 < r.length ∧ r.length % g = 0 then mk else []) ++ gH g mk r)
    refine ok_app (ok_app (ok_one (h c (List.mem_cons_self ..))) ?_) (ok_gH hm r fun d hd => h d (List.mem_cons_of_mem _ hd))
    split
    · exact hm
    · exact ok_nil
theorem ok_mark {b g : Nat} {mk : List Nat} (h : MarkP b g mk) : Ok mk ∧ mk.length ≤ 1 := by
  rcases h with ⟨_, rfl⟩ | ⟨_, c, rfl, hc, _⟩
  · exact ⟨ok_nil, Nat.zero_le _⟩
  · exact ⟨ok_one hc, Nat.le_refl _⟩
theorem how_len {how : List Nat} (h : HowP how) : how.length ≤ 1 := by rcases h with rfl | rfl | rfl <;> exact Nat.le_refl _
theorem ok_fgt {b least g : Nat} {how mk ah : List Nat} {i : Int} (hb : 2 ≤ b ∧ b ≤ 16) (hl : least ≤ 12) (hh : HowP how) (hk : MarkP b g mk) (ha : Txt ah 4) : Ok (fgt b how least g mk ah i) ∧ (fgt b how least g mk ah i).length ≤ 400 := by
  have hx : Ok (nou ((least : Int) - (num b i.natAbs).length) ++ num b i.natAbs) := ok_app (ok_rep (x := [48]) (ok_one (by decide +kernel))) (ok_num hb _)
  have hm := ok_mark hk
  unfold fgt
  constructor
  · refine ok_app (ok_app (ok_sgn hh) (ok_txt ha)) ?_
    unfold grp
    split
    · exact hx
    · exact ok_gH hm.1 _ hx
  · have l1 := sgn_len (neg := decide (i < 0)) (how := how) (by have := how_len hh; omega)
    have l2 := num_len b i.natAbs
    have l3 := nou_len ((least : Int) - (num b i.natAbs).length)
    have l4 := grp_len' g mk (nou ((least : Int) - (num b i.natAbs).length) ++ num b i.natAbs)
    have l5 := ha.1
    have l6 : (nou ((least : Int) - (num b i.natAbs).length) ++ num b i.natAbs).length ≤ 77 := by rw [List.length_append]; omega
    have l7 : (nou ((least : Int) - (num b i.natAbs).length) ++ num b i.natAbs).length * (mk.length + 1) ≤ 77 * 2 := Nat.mul_le_mul l6 (by omega)
    rw [List.length_append, List.length_append]
    omega
theorem ok_pwt {b : Nat} {how : List Nat} {i : Int} (hb : 2 ≤ b ∧ b ≤ 16) (hh : HowP how) : Ok (pwt b how i) ∧ (pwt b how i).length ≤ 400 := by
  unfold pwt
  constructor
  · refine ok_app (ok_app (ok_sgn hh) (ok_num hb _)) ?_
    unfold ptx
    split
    · exact ok_app (ok_one (by decide +kernel)) (ok_dec _ _)
    · exact ok_nil
  · have l1 := sgn_len (neg := decide (i < 0)) (how := how) (by have := how_len hh; omega)
    have l2 := num_len b (pp b 64 i.natAbs 0).1
    have l3 := ptx_len (pp b 64 i.natAbs 0).2
    rw [List.length_append, List.length_append]
    omega
theorem ok_qtx {q e : Nat} {x : List Nat} (hq : SGN.contains q = true) (he : SGN.contains e = true) (hx : Ok x) : Ok (qtx q e x) := by
  refine ok_app (ok_app (ok_one hq) (ok_flat fun y hy => ?_)) (ok_one hq)
  obtain ⟨c, hc, rfl⟩ := List.mem_map.1 hy
  unfold txq
  split
  · exact ok_app (x := [e]) (ok_one he) (ok_one (hx c hc))
  · exact ok_one (hx c hc)
end RA.St

/-! Both writings give one text: formats without parts. -/
namespace RA.St
open PySem
def KK (h : Nat) : Nat := 400 * 5 ^ h
theorem kk_pos (h : Nat) : 400 ≤ KK h := by unfold KK; have : 0 < 5 ^ h := Nat.pow_pos (by decide); omega
theorem kk_succ (h : Nat) : KK (h + 1) = 5 * KK h := by unfold KK; rw [Nat.pow_succ]; omega
theorem kk_le {h : Nat} (hh : h ≤ 4) : KK h ≤ 250000 := by
  have : 5 ^ h ≤ 5 ^ 4 := Nat.pow_le_pow_right (by decide) hh
  unfold KK; omega
/-- both write this text -/
def W2 (h : Nat) (s : S) (f v : PV) (t : List Nat) : Prop := t.length ≤ KK h ∧ Ok t ∧ ∀ (k : Nat) (m : List PV), 2 * h + 4 ≤ k → callN gv F3 k 18 [sv s, f, v] m = .ok (.str t) m ∧ callN gv F3 k 51 [sv s, f, v] m = .ok (.str t) m
end RA.St

/-! Both writings give one text: wrappers, maybe, case. -/
namespace RA.St
open PySem
theorem idx_at {l : List PV} {j : Nat} {x : PV} (h : l[j]? = some x) : idxP (.tup l) (.int j) = some x := by
  have hlt : j < l.length := by
    rcases Nat.lt_or_ge j l.length with h' | h'
    · exact h'
    · rw [List.getElem?_eq_none h'] at h; cases h
  show (pIx l.length j).bind _ = _
  rw [pIx_at (by omega) (by omega)]
  show l[(j : Int).toNat]? = _
  rw [Int.toNat_natCast, h]
theorem sv_ref (s : S) : notRef (sv s) = true := by cases s <;> rfl
theorem rep_len (c k : Nat) : (rep [c] k).length = k := by unfold rep; simp
theorem side_e {cf : Nat → List PV → List PV → CR} {s : List Sl} {m : List PV} {fo : PV} {side : List Nat} {k : Nat} (h1 : s[1]? = some (.va fo)) (h8 : s[8]? = some (.va (.int k))) (hn : notRef fo = true) (h3 : idxP fo (.int 3) = some (.str side)) :
    ev gv cf (.ife (.v (.cmp .eq (.idx (.loc 1) (.int 3)) (.str [60]))) (.int 0) (.ife (.v (.cmp .eq (.idx (.loc 1) (.int 3)) (.str [62]))) (.loc 8) (.op .fdv (.loc 8) (.int 2)))) s m = .ok (.int ((ahd side k : Nat) : Int)) s m := by
  unfold ahd
  by_cases a : side = [60]
  · rw [if_pos a]
    exact e_ift (t_v' (e_cmp (e_idx (e_loc h1) e_int hn h3) e_str (eqs_t a))) e_int
  · rw [if_neg a]
    by_cases b : side = [62]
    · rw [if_pos b]
      exact e_iff (t_v' (e_cmp (e_idx (e_loc h1) e_int hn h3) e_str (eqs_f a))) (e_ift (t_v' (e_cmp (e_idx (e_loc h1) e_int hn h3) e_str (eqs_t b))) (e_loc h8))
    · rw [if_neg b]
      exact e_iff (t_v' (e_cmp (e_idx (e_loc h1) e_int hn h3) e_str (eqs_f a))) (e_iff (t_v' (e_cmp (e_idx (e_loc h1) e_int hn h3) e_str (eqs_f b))) (e_op (e_loc h8) e_int (fdvN (b := 2) (by omega) (by omega))))
end RA.St

/-! Both writings give one text: rows, many, and all. -/
namespace RA.St
open PySem
theorem pick {α β : Type} [Inhabited β] {l : List α} {Q : α → β → Prop} (h : ∀ x ∈ l, ∃ t, Q x t) : ∃ f : α → β, ∀ x ∈ l, Q x (f x) := by
  classical
  refine ⟨fun x => if hx : ∃ t, Q x t then hx.choose else default, fun x hx => ?_⟩
  show Q x (if hx : ∃ t, Q x t then hx.choose else default)
  rw [dif_pos (h x hx)]
  exact (h x hx).choose_spec
theorem isDs_of : ∀ {l : List PV}, (∀ x ∈ l, isD x = true) → isDs l = true
  | [], _ => rfl
  | x :: l, h => by
    show (isD x && isDs l) = true
    rw [h x (List.mem_cons_self ..), isDs_of fun y hy => h y (List.mem_cons_of_mem _ hy)]; rfl
theorem val_isD {s : S} {v : PV} (h : ValP s v) : isD v = true := by
  induction h with
  | int => rfl
  | wor => rfl
  | one => rfl
  | non => rfl
  | som s v h ih => show (true && (isD v && true)) = true; rw [ih]; rfl
  | row l vs hl h ih =>
    show isDs vs = true
    apply isDs_of
    intro v hv
    obtain ⟨j, hj, rfl⟩ := List.getElem_of_mem hv
    exact ih j (l[j]'(by omega)) vs[j] (List.getElem?_eq_getElem (by omega)) (List.getElem?_eq_getElem hj)
  | man s a b vs h ha h3 hb ih => exact isDs_of ih
  | cas l j s v hj h ih => show (true && (isD v && true)) = true; rw [ih]; rfl
theorem rowPs_mem {P : S → PV → Prop} {j : Nat} {l : List S} {ps : List PV} (h : RowPs P j l ps) : ∀ x ∈ ps, (∃ t, x = .str t ∧ Txt t 8 ∧ t ≠ []) ∨ (∃ (i : Nat) (s : S) (f : PV), x = .tup [.int ((j + i : Nat) : Int), f] ∧ l[i]? = some s ∧ P s f) := by
  induction h with
  | done j => intro x hx; exact (List.not_mem_nil hx).elim
  | txt j l t ps ht hn h ih =>
    intro x hx
    rcases List.mem_cons.1 hx with rfl | hx
    · exact Or.inl ⟨t, rfl, ht, hn⟩
    · exact ih x hx
  | part j s l f ps hf h ih =>
    intro x hx
    rcases List.mem_cons.1 hx with rfl | hx
    · exact Or.inr ⟨0, s, f, rfl, rfl, hf⟩
    · rcases ih x hx with h' | ⟨i, s', f', rfl, h1, h2⟩
      · exact Or.inl h'
      · exact Or.inr ⟨i + 1, s', f', by rw [show j + 1 + i = j + (i + 1) by omega], h1, h2⟩
theorem isD2 {a b : PV} (ha : isD a = true) (hb : isD b = true) : isD (.tup [a, b]) = true := by
  show (isD a && (isD b && true)) = true
  rw [ha, hb]; rfl
theorem isDtup {l : List PV} (h : isDs l = true) : isD (.tup l) = true := h
theorem isDc {x : PV} {l : List PV} (h : isD x = true) (hl : isDs l = true) : isDs (x :: l) = true := by
  show (isD x && isDs l) = true
  rw [h, hl]; rfl
theorem row_isDs {P : S → PV → Prop} (hP : ∀ s f, P s f → isD f = true) {j : Nat} {l : List S} {ps : List PV} (h : RowPs P j l ps) : isDs ps = true := isDs_of fun x hx => by
  rcases rowPs_mem h x hx with ⟨t, rfl, _⟩ | ⟨i, s, f, rfl, _, hf⟩
  · rfl
  · exact isD2 rfl (hP s f hf)
theorem form_isD : ∀ h s f, FormP h s f → isD f = true
  | 0, _, _, hF => hF.elim
  | h + 1, s, f, hF => by
    have ih := form_isD h
    cases (show FormQ (FormP h) s f from hF) with
    | fig => rfl
    | pow => rfl
    | pla => rfl
    | spe le a b ps hp => exact isD2 rfl (isDtup (isDs_of fun x hx => by obtain ⟨p, _, rfl⟩ := List.mem_map.1 hx; rfl))
    | quo => rfl
    | nam k ts hk hk2 ht => exact isD2 rfl (isDtup (isDs_of fun x hx => by obtain ⟨p, _, rfl⟩ := List.mem_map.1 hx; rfl))
    | ski => rfl
    | may s t f ht hf => exact isDtup (isDc rfl (isDc rfl (isDc (ih _ _ hf) rfl)))
    | row l ps hl hp h => exact isD2 rfl (row_isDs ih h)
    | man s a b t1 t2 t3 t4 f h1 h2 h3 h4 hf => exact isDtup (isDc rfl (isDc rfl (isDc rfl (isDc rfl (isDc rfl (isDc (ih _ _ hf) rfl))))))
    | cas l fs hl h1 hf =>
      refine isD2 rfl (isDtup (isDs_of fun x hx => ?_))
      obtain ⟨j, hj, rfl⟩ := List.getElem_of_mem hx
      exact ih (l[j]'(by omega)) _ (hf j (l[j]'(by omega)) fs[j] (List.getElem?_eq_getElem (by omega)) (List.getElem?_eq_getElem hj))
    | pad s w c side f hw hc hs hf => exact isDtup (isDc rfl (isDc rfl (isDc rfl (isDc rfl (isDc (ih _ _ hf) rfl)))))
    | cut s w f hw hf => exact isDtup (isDc rfl (isDc rfl (isDc (ih _ _ hf) rfl)))
    | che s d k f hd hk hf => exact isDtup (isDc rfl (isDc rfl (isDc rfl (isDc (ih _ _ hf) rfl))))
def E10 : Ex := (.ife (.v (.isi .str (.loc 10))) (.loc 10) (.call 51 (.cons (.idx (.idx (.loc 0) (.int 1)) (.idx (.loc 10) (.int 0))) (.cons (.idx (.loc 10) (.int 1)) (.cons (.idx (.loc 2) (.idx (.loc 10) (.int 0))) .nil)))))
def QP (h : Nat) (l : List S) (vs : List PV) (x : PV) (t : List Nat) : Prop := t.length ≤ KK h ∧ Ok t ∧ (∀ (k : Nat) (m : List PV), 2 * h + 5 ≤ k → callN gv F3 k 19 [sv (.row l), x, .tup vs] m = .ok (.str t) m) ∧ ∀ (k : Nat) (m : List PV) (s : List Sl), 2 * h + 4 ≤ k → s[0]? = some (.va (sv (.row l))) → s[2]? = some (.va (.tup vs)) → s[10]? = some (.va x) → ev gv (callN gv F3 k) E10 s m = .ok (.str t) s m
theorem joinS_len {s : List Nat} {k : Nat} : ∀ xs : List (List Nat), (∀ x ∈ xs, x.length ≤ k) → (joinS s xs).length ≤ xs.length * (k + s.length)
  | [], _ => Nat.zero_le _
  | [x], h => by
    have := h x (List.mem_cons_self ..)
    show x.length ≤ 1 * _
    omega
  | x :: y :: r, h => by
    have h1 := h x (List.mem_cons_self ..)
    have h2 := joinS_len (s := s) (y :: r) fun z hz => h z (List.mem_cons_of_mem _ hz)
    show (x ++ (s ++ joinS s (y :: r))).length ≤ _
    rw [List.length_append, List.length_append, List.length_cons, Nat.succ_mul]
    omega
theorem joinG_t {α : Type} {f : α → List Nat} {l : List α} {k : Nat} {s : List Nat} (h : ∀ x ∈ l, (f x).length ≤ k) (hk : l.length * k ≤ 1000000) (hs : l.length * s.length ≤ 1000000) : mt .join (.str s) [.lst (l.map fun x => .str (f x))] = some (.str (joinS s (l.map f))) := by
  show (pStrs _).bind _ = _
  rw [pStrs_map]
  show (if ((l.map f).map List.length).sum + (l.map f).length * s.length ≤ SZ then some (PV.str (joinS s (l.map f))) else none) = _
  rw [if_pos]
  have := sum_le (fun x => (f x).length) k l h
  rw [List.map_map, List.length_map]
  show (l.map fun x => (f x).length).sum + l.length * s.length ≤ 16777216
  omega
theorem emp_eq {vs : List PV} (h : isDs vs = true) : eqC (.tup vs) (.tup []) = some vs.isEmpty := by
  unfold eqC
  have e1 : isD (.tup vs) = true := h
  have e2 : Nat.ble (min (dep (.tup vs)) (dep (.tup []))) 64 = true := Nat.ble_eq_true_of_le (by show min _ (0 + 1) ≤ 64; omega)
  rw [if_pos (by rw [e1, e2]; rfl)]
  cases vs <;> rfl
/-! ### spelled words -/
def spx (ps : List (Nat × List Nat)) (c : Nat) : List Nat := match ps.find? (fun p => p.1 == c) with | some p => p.2 | none => [c]
theorem sp_get (c : Nat) : ∀ ps : List (Nat × List Nat), getD (ps.map fun p => .str [p.1]) (ps.map fun p => .str p.2) [c] = some ((ps.find? (fun p => p.1 == c)).map fun p => .str p.2)
  | [] => rfl
  | p :: ps => by
    show (if ([p.1] == [c]) = true then some (some (PV.str p.2)) else getD (ps.map fun p => .str [p.1]) (ps.map fun p => .str p.2) [c]) = _
    rw [List.find?_cons]
    by_cases h : p.1 = c
    · rw [if_pos (by simp [h]), beq_iff_eq.2 h]; rfl
    · rw [if_neg (by simpa using h), beq_eq_false_iff_ne.2 h]
      exact sp_get c ps
theorem sp_pairs : ∀ ps : List (Nat × List Nat), pPairs (spPV ps) = some (ps.map fun p => (.str [p.1], .str p.2))
  | [] => rfl
  | p :: ps => by show (pPairs (spPV ps)).map _ = _; rw [sp_pairs ps]; rfl
theorem sp_dic {ps : List (Nat × List Nat)} (h : SpP ps) : (pPairs (spPV ps)).bind mkD = some (.dic (ps.map fun p => .str [p.1]) (ps.map fun p => .str p.2)) := by
  rw [sp_pairs]
  match ps, h with
  | [], _ => rfl
  | [p], _ => rfl
  | [p, q], h =>
    have hlt : p.1 < q.1 := by
      have := h.2.1
      have h2 : (decide (p.1 < q.1) && (true && true)) = true := this
      simpa using h2
    show (if mkG [(.str [p.1], .str p.2), (.str [q.1], .str q.2)] [] && Nat.ble 2 15 then some (PV.dic [.str [p.1], .str [q.1]] [.str p.2, .str q.2]) else none) = _
    rw [if_pos]; rfl
    show ((!false && (!(([p.1] == [q.1]) || false) && true)) && true) = true
    have : ([p.1] == [q.1]) = false := by simpa using Nat.ne_of_lt hlt
    rw [this]; rfl
  | _ :: _ :: _ :: r, h => exact absurd h.1 (by simp only [List.length_cons]; omega)
theorem sp_wt (ps : List (Nat × List Nat)) (x : List Nat) : WT (ps.map fun p => .str [p.1]) (ps.map fun p => .str p.2) (spx ps) x := by
  intro c _
  refine ⟨_, sp_get c ps, ?_⟩
  unfold spx
  cases ps.find? (fun p => p.1 == c) <;> rfl
theorem sp_len {ps : List (Nat × List Nat)} (h : SpP ps) {c : Nat} (hc : SGN.contains c = true) : (spx ps c).length ≤ 4 ∧ Ok (spx ps c) := by
  unfold spx
  cases hf : ps.find? (fun p => p.1 == c) with
  | none => exact ⟨by show 1 ≤ 4; omega, ok_one hc⟩
  | some p =>
    have := (h.2.2 p (List.mem_of_find?_eq_some hf)).2.1
    exact ⟨this.1, ok_txt this⟩
end RA.St

/-! Formats are told: those without parts. -/
namespace RA.St
open PySem
section
variable {m : List PV}
theorem how_nin {how : List Nat} (h : HowP how) : cmp .nin (.str how) (.tup [.str [45], .str [43], .str [32]]) = some false := by rcases h with rfl | rfl | rfl <;> rfl
theorem how_in {how : List Nat} (h : HowP how) : cmp .inn (.str how) (.tup [.str [45], .str [43], .str [32]]) = some true := by rcases h with rfl | rfl | rfl <;> rfl
theorem cut_figs {b : Nat} (h : b ≤ 16) : RA.cut FGS none (some ((b : Nat) : Int)) = FGS.take b := by
  have : ∀ b, b < 17 → RA.cut FGS none (some ((b : Nat) : Int)) = FGS.take b := by decide +kernel
  exact this b (by omega)
theorem figs_nin {b c : Nat} (hb : b ≤ 16) (h : (FGS.take b).contains c = false) : cmp .nin (.str [c]) (.str (RA.cut FGS none (some ((b : Nat) : Int)))) = some true := by
  rw [cut_figs hb]
  show (some ((FGS.take b).contains c)).map not = _
  rw [h]; rfl
theorem isf_t (n : Nat) {i a b : Int} (h : a ≤ i ∧ i ≤ b) : callN gv F3 (n + 2) 1 [.int i, .int a, .int b] m = .ok (.bl true) m := is_from_t n h
theorem is_figures_t (n : Nat) {b least g : Nat} {how mk ah : List Nat} (hb : 2 ≤ b ∧ b ≤ 16) (hl : 1 ≤ least ∧ least ≤ 12) (hh : HowP how) (hk : MarkP b g mk) (ha : Txt ah 4) :
    callN gv F3 (n + 4) 21 [.tup [.str wFig, .int b, .str how, .int least, .int g, .str mk, .str ah]] m = .ok (.bl true) m := by
  have r1 := is_row_t (m := m) (n + 2) (l := [.str wFig, .int b, .str how, .int least, .int g, .str mk, .str ah]) (k := 7) rfl rfl
  have r2 := is_from_t (m := m) (n + 1) (i := (b : Int)) (a := 2) (b := 16) (by omega)
  have r3 := is_from_t (m := m) (n + 1) (i := (least : Int)) (a := 1) (b := 12) (by omega)
  have hg : g ≤ 4 := by rcases hk with ⟨h, _⟩ | ⟨h, _⟩ <;> omega
  have r4 := is_from_t (m := m) (n + 1) (i := (g : Int)) (a := 0) (b := 4) (by omega)
  have r5 := is_text_t (m := m) (n + 2) ha
  have hg2 : cmp .nin (.int g) (.tup [.int 0, .int 2, .int 3, .int 4]) = some false := by
    have : g = 0 ∨ g = 2 ∨ g = 3 ∨ g = 4 := by rcases hk with ⟨h, _⟩ | ⟨h, _⟩ <;> omega
    rcases this with rfl | rfl | rfl | rfl <;> rfl
  have hni := how_nin hh
  have fin : ∃ s', xss gv (callN gv F3 (n + 3)) (.cons (.ift (.v (.cmp .eq (.idx (.loc 0) (.int 4)) (.int 0))) (.cons (.ret (.cmp .eq (.idx (.loc 0) (.int 5)) (.str []))) .nil) .nil) (.cons (.ret (.and (.call 3 (.cons (.idx (.loc 0) (.int 5)) .nil)) (.cmp .nin (.idx (.loc 0) (.int 5)) (.sli (.glo 1) .no (.so (.idx (.loc 0) (.int 1))))))) .nil)) [.va (.tup [.str wFig, .int b, .str how, .int least, .int g, .str mk, .str ah])] m = .ok (.rt (.bl true)) s' m := by
    rcases hk with ⟨h1, h2⟩ | ⟨h1, c, h2, h3, h4⟩
    · subst h1 h2
      apply Exists.intro
      apply b_rt
      exact x_ift (t_v' (e_cmp (e_idx (e_loc rfl) e_int rfl rfl) e_int (eq_t rfl))) (b_rt (x_ret (e_cmp (e_idx (e_loc rfl) e_int rfl rfl) e_str (eqs_t rfl))))
    · subst h2
      have r6 := is_sign_t (m := m) (n + 1) (x := [c]) ⟨Nat.le_refl _, by decide, by simpa using h3⟩ (by simp)
      have r7 := figs_nin (b := b) (c := c) hb.2 h4
      apply Exists.intro
      apply b_nx (x_iff (t_v' (e_cmp (e_idx (e_loc rfl) e_int rfl rfl) e_int (eq_f (by omega)))) b_nil)
      apply b_rt
      exact x_ret (e_and (e_call (l_cons (e_idx (e_loc rfl) e_int rfl rfl) l_nil) r6) (e_cmp (e_idx (e_loc rfl) e_int rfl rfl) (e_sli (e_glo gv1) o_no (o_so (e_idx (e_loc rfl) e_int rfl rfl)) rfl) r7))
  obtain ⟨s', hf⟩ := fin
  apply c_rt (fn := f_is_figures.fn) rfl rfl
  apply b_nx (x_iff (t_anyf (t_nf (t_v' (e_call (l_cons (e_loc rfl) (l_cons e_int l_nil)) r1))) (t_anyf (t_nf (t_v' (e_call (l_cons (e_idx (e_loc rfl) e_int rfl rfl) (l_cons e_int (l_cons (e_glo rfl) l_nil))) r2))) (t_anyf (t_v' (e_cmp (e_idx (e_loc rfl) e_int rfl rfl) (e_glo rfl) hni)) t_anynil))) b_nil)
  apply b_nx (x_iff (t_anyf (t_nf (t_v' (e_call (l_cons (e_idx (e_loc rfl) e_int rfl rfl) (l_cons e_int (l_cons (e_glo rfl) l_nil))) r3))) (t_anyf (t_v' (e_cmp (e_idx (e_loc rfl) e_int rfl rfl) (e_tup (l_cons e_int (l_cons e_int (l_cons e_int (l_cons e_int l_nil))))) hg2)) (t_anyf (t_v' (e_isf (e_idx (e_loc rfl) e_int rfl rfl) rfl rfl)) t_anynil))) b_nil)
  apply b_nx (x_iff (t_anyf (t_nf (t_v' (e_call (l_cons (e_idx (e_loc rfl) e_int rfl rfl) (l_cons e_int (l_cons e_int l_nil))) r4))) (t_anyf (t_nf (t_v' (e_call (l_cons (e_idx (e_loc rfl) e_int rfl rfl) (l_cons (e_glo rfl) l_nil)) r5))) t_anynil)) b_nil)
  exact hf
theorem is_powers_t (n : Nat) {lo hi : Int} {b : Nat} {how : List Nat} (hb : 2 ≤ b ∧ b ≤ 10) (hh : HowP how) :
    callN gv F3 (n + 3) 22 [sv (.int (some lo) (some hi)), .tup [.str wPow, .int b, .str how]] m = .ok (.bl true) m := by
  have r1 := is_row_t (m := m) (n + 1) (l := [.str wPow, .int b, .str how]) (k := 3) rfl rfl
  have r2 := is_from_t (m := m) n (i := (b : Int)) (a := 2) (b := 10) (by omega)
  have hi := how_in hh
  apply c_rt (fn := f_is_powers.fn) rfl rfl
  apply b_nx (x_iff (t_anyf (t_nf (t_v' (e_call (l_cons (e_loc rfl) (l_cons e_int l_nil)) r1))) (t_anyf (t_v' (e_inf (e_idx (e_loc rfl) e_int rfl rfl) rfl)) (t_anyf (t_v' (e_inf (e_idx (e_loc rfl) e_int rfl rfl) rfl)) t_anynil))) b_nil)
  apply b_rt
  exact x_ret (e_and (e_call (l_cons (e_idx (e_loc rfl) e_int rfl rfl) (l_cons e_int (l_cons (e_glo rfl) l_nil))) r2) (e_cmp (e_idx (e_loc rfl) e_int rfl rfl) (e_glo rfl) hi))
theorem sign_txt {c : Nat} (h : SGN.contains c = true) : Txt [c] 1 := ⟨Nat.le_refl _, by decide, by simpa using h⟩
theorem is_quoted_t (n : Nat) {q e : Nat} (hq : SGN.contains q = true) (he : SGN.contains e = true) (hn : q ≠ e) : callN gv F3 (n + 3) 24 [.tup [.str wQuo, .str [q], .str [e]]] m = .ok (.bl true) m := by
  have r1 := is_row_t (m := m) (n + 1) (l := [.str wQuo, .str [q], .str [e]]) (k := 3) rfl rfl
  have r2 := is_sign_t (m := m) n (sign_txt hq) (by simp)
  have r3 := is_sign_t (m := m) n (sign_txt he) (by simp)
  apply c_rt (fn := f_is_quoted.fn) rfl rfl
  apply b_rt
  exact x_ret (e_and (e_call (l_cons (e_loc rfl) (l_cons e_int l_nil)) r1) (e_and (e_call (l_cons (e_idx (e_loc rfl) e_int rfl rfl) l_nil) r2) (e_and (e_call (l_cons (e_idx (e_loc rfl) e_int rfl rfl) l_nil) r3) (e_cmp (e_idx (e_loc rfl) e_int rfl rfl) (e_idx (e_loc rfl) e_int rfl rfl) (nes_t (by simpa using hn))))))
theorem all_true {l : List PV} : bi .all [.lst (l.map fun _ => .bl true)] = some (.bl true) := bi_all (by simp)
theorem lt_one {x y : Nat} (h : x < y) : cmp .lt (.str [x]) (.str [y]) = some true := by
  show some (decide ([x] < [y])) = _
  rw [decide_eq_true (List.cons_lt_cons_iff.2 (Or.inl h))]
theorem iz {n : Nat} {l : List PV} : evi gv (callN gv F3 n) (.zip (.loc 0) (.sli (.loc 0) (.so (.int 1)) .no)) [.va (.lst l), .un, .un] m = .ok (zipP l (RA.cut l (some 1) none)) [.va (.lst l), .un, .un] m :=
  i_zip' (x := .lst l) (y := .lst (RA.cut l (some 1) none)) (e_loc rfl) (e_sli (e_loc rfl) (o_so e_int) o_no rfl) rfl rfl
theorem are_rising_t (n : Nat) : ∀ xs : List Nat, xs.length ≤ 2 → rising xs = true → callN gv F3 (n + 1) 5 [.lst (xs.map fun c => .str [c])] m = .ok (.bl true) m
  | [], _, _ => by
    apply c_rt (fn := f_are_rising.fn) rfl rfl
    apply b_rt
    exact x_ret (e_bi (l_cons (e_lcp (s1 := [.va (.lst []), .un, .un]) (l := []) (f := fun _ => .bl true) (fun _ => []) (iz (l := [])) rfl (fun x hx => (List.not_mem_nil hx).elim) (fun x hx => (List.not_mem_nil hx).elim) (fun x hx => (List.not_mem_nil hx).elim)) l_nil) all_true)
  | [x], _, _ => by
    apply c_rt (fn := f_are_rising.fn) rfl rfl
    apply b_rt
    exact x_ret (e_bi (l_cons (e_lcp (s1 := [.va (.lst [.str [x]]), .un, .un]) (l := []) (f := fun _ => .bl true) (fun _ => []) (iz (l := [.str [x]])) rfl (fun x hx => (List.not_mem_nil hx).elim) (fun x hx => (List.not_mem_nil hx).elim) (fun x hx => (List.not_mem_nil hx).elim)) l_nil) all_true)
  | [x, y], _, h => by
    have hlt : x < y := by
      have h2 : (decide (x < y) && (true && true)) = true := h
      simpa using h2
    apply c_rt (fn := f_are_rising.fn) rfl rfl
    apply b_rt
    exact x_ret (e_bi (l_cons (e_lcp (s1 := [.va (.lst [.str [x], .str [y]]), .un, .un]) (l := [.tup [.str [x], .str [y]]]) (f := fun _ => .bl true) (fun _ => [.va (.lst [.str [x], .str [y]]), .va (.str [x]), .va (.str [y])]) (iz (l := [.str [x], .str [y]])) rfl (fun z hz => by rw [List.mem_singleton.1 hz]; rfl) (fun z hz => e_cmp (e_loc rfl) (e_loc rfl) (lt_one hlt)) (fun z hz => rfl)) l_nil) all_true)
  | _ :: _ :: _ :: r, h, _ => absurd h (by simp only [List.length_cons]; omega)
theorem is_spelled_t (n : Nat) {ps : List (Nat × List Nat)} (hp : SpP ps) : callN gv F3 (n + 3) 23 [.tup [.str wSpe, .tup (spPV ps)]] m = .ok (.bl true) m := by
  have hdp : isDs (spPV ps) = true := isDs_of fun x hx => by obtain ⟨p, _, rfl⟩ := List.mem_map.1 hx; rfl
  have hd : isD (.tup [.str wSpe, .tup (spPV ps)]) = true := isD2 rfl (isDtup hdp)
  have r1 := is_row_t (m := m) (n + 1) (l := [.str wSpe, .tup (spPV ps)]) (k := 2) rfl hd
  have hlen : (spPV ps).length = ps.length := List.length_map ..
  have hble : Nat.ble (spPV ps).length SZ = true := Nat.ble_eq_true_of_le (by show _ ≤ (16777216 : Nat); have := hp.1; omega)
  have e1 : ev gv (callN gv F3 (n + 2)) (.lc [3] (.call 4 (.cons (.loc 3) (.cons (.int 2) .nil))) (.nm 3) (.val (.idx (.loc 0) (.int 1))) .nil) [.va (.tup [.str wSpe, .tup (spPV ps)]), .un, .un, .un] m = .ok (.lst ((spPV ps).map fun _ => .bl true)) [.va (.tup [.str wSpe, .tup (spPV ps)]), .un, .un, .un] m :=
    e_lcp (s1 := [.va (.tup [.str wSpe, .tup (spPV ps)]), .un, .un, .un]) (l := spPV ps) (f := fun _ => .bl true) (fun x => [.va (.tup [.str wSpe, .tup (spPV ps)]), .un, .un, .va x]) (i_val' (e_idx (e_loc rfl) e_int rfl rfl) rfl) hble (fun x hx => rfl) (fun x hx => by
      obtain ⟨p, hpm, rfl⟩ := List.mem_map.1 hx
      exact e_call (l_cons (e_loc rfl) (l_cons e_int l_nil)) (is_row_t (m := m) (n + 1) (l := [.str [p.1], .str p.2]) (k := 2) rfl rfl)) (fun x hx => rfl)
  have e2 : ev gv (callN gv F3 (n + 2)) (.lc [1, 2] (.and (.call 3 (.cons (.loc 1) .nil)) (.and (.call 2 (.cons (.loc 2) (.cons (.glo 5) .nil))) (.cmp .ne (.loc 2) (.str [])))) (.tp (.cons (.nm 1) (.cons (.nm 2) .nil))) (.val (.idx (.loc 0) (.int 1))) .nil) [.va (.tup [.str wSpe, .tup (spPV ps)]), .un, .un, .un] m = .ok (.lst ((spPV ps).map fun _ => .bl true)) [.va (.tup [.str wSpe, .tup (spPV ps)]), .un, .un, .un] m :=
    e_lcp (s1 := [.va (.tup [.str wSpe, .tup (spPV ps)]), .un, .un, .un]) (l := spPV ps) (f := fun _ => .bl true) (fun x => [.va (.tup [.str wSpe, .tup (spPV ps)]), .va ((match x with | .tup [a, b] => a | _ => .non)), .va (match x with | .tup [a, b] => b | _ => .non), .un]) (i_val' (e_idx (e_loc rfl) e_int rfl rfl) rfl) hble (fun x hx => by obtain ⟨p, hpm, rfl⟩ := List.mem_map.1 hx; rfl) (fun x hx => by
      obtain ⟨p, hpm, rfl⟩ := List.mem_map.1 hx
      have hq := hp.2.2 p hpm
      exact e_and (e_call (l_cons (e_loc rfl) l_nil) (is_sign_t (m := m) n (sign_txt hq.1) (by simp))) (e_and (e_call (l_cons (e_loc rfl) (l_cons (e_glo rfl) l_nil)) (is_text_t (m := m) (n + 1) hq.2.1)) (e_cmp (e_loc rfl) e_str (nes_t hq.2.2)))) (fun x hx => rfl)
  have e3 : ev gv (callN gv F3 (n + 2)) (.lc [1, 2] (.loc 1) (.tp (.cons (.nm 1) (.cons (.nm 2) .nil))) (.val (.idx (.loc 0) (.int 1))) .nil) [.va (.tup [.str wSpe, .tup (spPV ps)]), .un, .un, .un] m = .ok (.lst ((ps.map (·.1)).map fun c => .str [c])) [.va (.tup [.str wSpe, .tup (spPV ps)]), .un, .un, .un] m := by
    have h := e_lcp (G := gv) (cf := callN gv F3 (n + 2)) (m := m) (elt := .loc 1) (own := [1, 2]) (tg := .tp (.cons (.nm 1) (.cons (.nm 2) .nil))) (it := .val (.idx (.loc 0) (.int 1))) (s := [.va (.tup [.str wSpe, .tup (spPV ps)]), .un, .un, .un]) (s1 := [.va (.tup [.str wSpe, .tup (spPV ps)]), .un, .un, .un]) (l := spPV ps) (f := fun x => (match x with | .tup [a, b] => a | _ => .non)) (fun x => [.va (.tup [.str wSpe, .tup (spPV ps)]), .va ((match x with | .tup [a, b] => a | _ => .non)), .va (match x with | .tup [a, b] => b | _ => .non), .un]) (i_val' (e_idx (e_loc rfl) e_int rfl rfl) rfl) hble (fun x hx => by obtain ⟨p, hpm, rfl⟩ := List.mem_map.1 hx; rfl) (fun x hx => e_loc rfl) (fun x hx => rfl)
    have e : (spPV ps).map (fun x => (match x with | .tup [a, b] => a | _ => PV.non)) = (ps.map (·.1)).map fun c => .str [c] := by
      unfold spPV
      rw [List.map_map, List.map_map]; rfl
    rw [e] at h
    exact h
  have r4 := are_rising_t (m := m) (n + 1) (ps.map (·.1)) (by rw [List.length_map]; exact hp.1) hp.2.1
  apply c_rt (fn := f_is_spelled.fn) rfl rfl
  apply b_nx (x_iff (t_anyf (t_nf (t_v' (e_call (l_cons (e_loc rfl) (l_cons e_int l_nil)) r1))) (t_anyf (t_nf (t_v' (e_isy (e_idx (e_loc rfl) e_int rfl rfl) (isDtup hdp) rfl))) (t_anyf (t_nf (t_v' (e_bi (l_cons e1 l_nil) all_true))) t_anynil))) b_nil)
  apply b_nx (x_iff (t_nf (t_v' (e_bi (l_cons e2 l_nil) all_true))) b_nil)
  apply b_rt
  exact x_ret (e_call (l_cons e3 l_nil) r4)
end
end RA.St

/-! Formats are told. -/
namespace RA.St
open PySem
theorem x_app {G : List PV} {cf : Nat → List PV → List PV → CR} {s s1 : List Sl} {m m1 : List PV} {i : Nat} {e : Ex} {x : PV} {l : List PV} (h : s[i]? = some (.ow (.lst l))) (ha : ev G cf e s m = .ok x s1 m1) (h1 : s1[i]? = some (.ow (.lst l))) (hlt : Nat.blt l.length SZ = true) :
    xs G cf (.app i e) s m = .ok .nx (s1.set i (.ow (.lst (l ++ [x])))) m1 := by
  show (match s[i]? with
    | some (.ow (.lst _)) => (ev G cf e s m).bnd fun x s m => (match s[i]? with
      | some (.ow (.lst l)) => if Nat.blt l.length SZ then Res.ok Fl.nx (s.set i (.ow (.lst (l ++ [x])))) m else .stk
      | _ => .stk)
    | _ => .stk) = _
  rw [h]
  show (ev G cf e s m).bnd _ = _
  rw [ha]
  show (match s1[i]? with
      | some (.ow (.lst l)) => if Nat.blt l.length SZ then Res.ok Fl.nx (s1.set i (.ow (.lst (l ++ [x])))) m1 else .stk
      | _ => .stk) = _
  rw [h1]
  show (if Nat.blt l.length SZ then Res.ok Fl.nx (s1.set i (.ow (.lst (l ++ [x])))) m1 else .stk) = _
  rw [if_pos hlt]
/-- a format is told, with so many within one another -/
def Told (h : Nat) (s : S) (f : PV) : Prop := ∀ (d k : Nat) (m : List PV), h ≤ d → 2 * h + 6 ≤ k → callN gv F3 k 28 [sv s, f, .int ((d : Nat) : Int)] m = .ok (.bl true) m
theorem subD {d : Nat} : op2 .sub (.int ((d + 1 : Nat) : Int)) (.int 1) = some (.int ((d : Nat) : Int)) := subN (Nat.succ_pos d)
def tlS : Sms → Sms
  | .cons _ r => r
  | .nil => .nil
def wrapW : PV := .tup [.str wPad, .str wCut, .str wChe, .str wSki]
theorem told_nil {r : List PV} {w : List Nat} (hd : isDs r = true) : cmp .eq (.tup (.str w :: r)) (.tup []) = some false := by
  show eqC _ _ = _
  rw [emp_eq (isDc rfl hd)]; rfl
theorem idx0 {w : List Nat} {r : List PV} : idxP (.tup (.str w :: r)) (.int 0) = some (.str w) := by
  show (pIx (r.length + 1) 0).bind _ = _
  rw [pIx_at (by decide) (by omega)]
  rfl
/-- a format that is no wrapper -/
theorem told_in {n : Nat} {w : List Nat} {r : List PV} {so : PV} {d : Nat} {m : List PV} {p : PV} {s1 : List Sl} (hd : isDs r = true) (hw : cmp .inn (.str w) wrapW = some false)
    (h : xss gv (callN gv F3 n) (tlS (tlS b_is_told)) [.va so, .va (.tup (.str w :: r)), .va (.int ((d + 1 : Nat) : Int)), .un, .un, .un] m = .ok (.rt p) s1 m) : callN gv F3 (n + 1) 28 [so, .tup (.str w :: r), .int ((d + 1 : Nat) : Int)] m = .ok p m := by
  have he := told_nil (w := w) hd
  apply c_rt (fn := f_is_told.fn) rfl rfl
  apply b_nx (x_iff (t_anyf (t_nf (t_v' (e_isy (e_loc rfl) (isDtup (isDc (x := .str w) rfl hd)) rfl))) (t_anyf (t_v' (e_cmp (e_loc rfl) (e_tup l_nil) he)) (t_anyf (t_nf (t_v' (e_isy (e_idx (e_loc rfl) e_int rfl idx0) rfl rfl))) (t_anyf (t_v' (e_cmp (e_loc rfl) e_int (eq_f (by omega)))) t_anynil)))) b_nil)
  apply b_nx (x_iff (t_v' (e_cmp (e_idx (e_loc rfl) e_int rfl idx0) (e_tup (l_cons e_str (l_cons e_str (l_cons e_str (l_cons e_str l_nil))))) hw)) b_nil)
  exact h
theorem told_ar {n : Nat} {w : List Nat} {r : List PV} {so : PV} {d : Nat} {m : List PV} {p : PV} (hd : isDs r = true) (hw : cmp .inn (.str w) wrapW = some true)
    (h : callN gv F3 n 25 [so, .tup (.str w :: r), .int ((d + 1 : Nat) : Int)] m = .ok p m) : callN gv F3 (n + 1) 28 [so, .tup (.str w :: r), .int ((d + 1 : Nat) : Int)] m = .ok p m := by
  have he := told_nil (w := w) hd
  apply c_rt (fn := f_is_told.fn) rfl rfl
  apply b_nx (x_iff (t_anyf (t_nf (t_v' (e_isy (e_loc rfl) (isDtup (isDc (x := .str w) rfl hd)) rfl))) (t_anyf (t_v' (e_cmp (e_loc rfl) (e_tup l_nil) he)) (t_anyf (t_nf (t_v' (e_isy (e_idx (e_loc rfl) e_int rfl idx0) rfl rfl))) (t_anyf (t_v' (e_cmp (e_loc rfl) e_int (eq_f (by omega)))) t_anynil)))) b_nil)
  apply b_rt
  exact x_ift (t_v' (e_cmp (e_idx (e_loc rfl) e_int rfl idx0) (e_tup (l_cons e_str (l_cons e_str (l_cons e_str (l_cons e_str l_nil))))) hw)) (b_rt (x_ret (e_call (l_cons (e_loc rfl) (l_cons (e_loc rfl) (l_cons (e_loc rfl) l_nil))) h)))
/-- it is enough to show it for so many, and one more call -/
theorem told_of {h : Nat} {s : S} {f : PV} (H : ∀ (d n : Nat) (m : List PV), h ≤ d → 2 * h + 7 ≤ n → callN gv F3 (n + 1) 28 [sv s, f, .int ((d + 1 : Nat) : Int)] m = .ok (.bl true) m) : Told (h + 1) s f := by
  intro d k m hd hk
  obtain ⟨d, rfl⟩ : ∃ d', d = d' + 1 := ⟨d - 1, by omega⟩
  obtain ⟨n, rfl⟩ : ∃ n, k = n + 1 := ⟨k - 1, by omega⟩
  exact H d n m (by omega) (by omega)
theorem t_fig {h : Nat} {lo hi : Option Int} {b least g : Nat} {how mk ah : List Nat} (hb : 2 ≤ b ∧ b ≤ 16) (hl : 1 ≤ least ∧ least ≤ 12) (hh : HowP how) (hk : MarkP b g mk) (ha : Txt ah 4) : Told (h + 1) (.int lo hi) (.tup [.str wFig, .int b, .str how, .int least, .int g, .str mk, .str ah]) := told_of fun d n m hd hn => by
  obtain ⟨n, rfl⟩ : ∃ n', n = n' + 4 := ⟨n - 4, by omega⟩
  have h1 := is_figures_t (m := m) n hb hl hh hk ha
  apply told_in rfl rfl
  apply b_rt
  exact x_mat (e_idx (e_loc rfl) e_int rfl rfl) (m_yes rfl (b_rt (x_ret (e_ort (e_and (e_cmp (e_idx (e_loc rfl) e_int rfl rfl) e_str (eqs_t rfl)) (e_call (l_cons (e_loc rfl) l_nil) h1))))))
theorem t_pow {h : Nat} {lo hi : Int} {b : Nat} {how : List Nat} (hb : 2 ≤ b ∧ b ≤ 10) (hh : HowP how) : Told (h + 1) (.int (some lo) (some hi)) (.tup [.str wPow, .int b, .str how]) := told_of fun d n m hd hn => by
  obtain ⟨n, rfl⟩ : ∃ n', n = n' + 3 := ⟨n - 3, by omega⟩
  have h1 := is_powers_t (m := m) n (lo := lo) (hi := hi) hb hh
  apply told_in rfl rfl
  apply b_rt
  exact x_mat (e_idx (e_loc rfl) e_int rfl rfl) (m_yes rfl (b_rt (x_ret (e_or (e_anf (e_cmp (e_idx (e_loc rfl) e_int rfl rfl) e_str (eqs_f (by decide)))) (e_and (e_cmp (e_idx (e_loc rfl) e_int rfl rfl) e_str (eqs_t rfl)) (e_call (l_cons (e_loc rfl) (l_cons (e_loc rfl) l_nil)) h1))))))
theorem t_pla {h : Nat} {le : List Nat} {a : Nat} {b : Option Nat} : Told (h + 1) (.wor le a b) (.tup [.str wPla]) := told_of fun d n m hd hn => by
  apply told_in rfl rfl
  apply b_rt
  exact x_mat (e_idx (e_loc rfl) e_int rfl rfl) (m_no rfl (m_yes rfl (b_rt (x_ift (t_v' (e_cmp (e_idx (e_loc rfl) e_int rfl rfl) e_str (eqs_t rfl))) (b_rt (x_ret (e_cmp (e_bi (l_cons (e_loc rfl) l_nil) rfl) e_int (eq_t rfl))))))))
theorem t_spe {h : Nat} {le : List Nat} {a : Nat} {b : Option Nat} {ps : List (Nat × List Nat)} (hp : SpP ps) : Told (h + 1) (.wor le a b) (.tup [.str wSpe, .tup (spPV ps)]) := told_of fun d n m hd hn => by
  obtain ⟨n, rfl⟩ : ∃ n', n = n' + 3 := ⟨n - 3, by omega⟩
  have h1 := is_spelled_t (m := m) n hp
  have hdp : isDs (spPV ps) = true := isDs_of fun x hx => by obtain ⟨p, _, rfl⟩ := List.mem_map.1 hx; rfl
  apply told_in (isDc (isDtup hdp) rfl) rfl
  apply b_rt
  exact x_mat (e_idx (e_loc rfl) e_int rfl rfl) (m_no rfl (m_yes rfl (b_nx (x_iff (t_v' (e_cmp (e_idx (e_loc rfl) e_int rfl rfl) e_str (eqs_f (by decide)))) b_nil) (b_rt (x_ret (e_ort (e_and (e_cmp (e_idx (e_loc rfl) e_int rfl rfl) e_str (eqs_t rfl)) (e_call (l_cons (e_loc rfl) l_nil) h1))))))))
theorem t_quo {h : Nat} {le : List Nat} {a : Nat} {b : Option Nat} {q e : Nat} (hq : SGN.contains q = true) (he : SGN.contains e = true) (hqe : q ≠ e) : Told (h + 1) (.wor le a b) (.tup [.str wQuo, .str [q], .str [e]]) := told_of fun d n m hd hn => by
  obtain ⟨n, rfl⟩ : ∃ n', n = n' + 3 := ⟨n - 3, by omega⟩
  have h1 := is_quoted_t (m := m) n hq he hqe
  apply told_in rfl rfl
  apply b_rt
  exact x_mat (e_idx (e_loc rfl) e_int rfl rfl) (m_no rfl (m_yes rfl (b_nx (x_iff (t_v' (e_cmp (e_idx (e_loc rfl) e_int rfl rfl) e_str (eqs_f (by decide)))) b_nil) (b_rt (x_ret (e_or (e_anf (e_cmp (e_idx (e_loc rfl) e_int rfl rfl) e_str (eqs_f (by decide)))) (e_and (e_cmp (e_idx (e_loc rfl) e_int rfl rfl) e_str (eqs_t rfl)) (e_call (l_cons (e_loc rfl) l_nil) h1))))))))
theorem t_nam {h : Nat} {k : Nat} {ts : List (List Nat)} (hk : ts.length = k) (hk2 : k ≤ 12) (ht : ∀ t ∈ ts, Txt t 8) : Told (h + 1) (.one k) (.tup [.str wNam, .tup (ts.map .str)]) := told_of fun d n m hd hn => by
  obtain ⟨n, rfl⟩ : ∃ n', n = n' + 3 := ⟨n - 3, by omega⟩
  have hdp : isDs (ts.map PV.str) = true := isDs_of fun x hx => by obtain ⟨p, _, rfl⟩ := List.mem_map.1 hx; rfl
  have r1 := is_row_t (m := m) (n + 2) (l := [.str wNam, .tup (ts.map .str)]) (k := 2) rfl (isD2 rfl (isDtup hdp))
  have r2 := is_row_t (m := m) (n + 2) (l := ts.map PV.str) (k := (k : Int)) (by rw [List.length_map, hk]) (isDtup hdp)
  have hble : Nat.ble (ts.map PV.str).length SZ = true := Nat.ble_eq_true_of_le (by rw [List.length_map]; show _ ≤ (16777216 : Nat); omega)
  have e1 : ev gv (callN gv F3 (n + 3)) (.lc [5] (.call 2 (.cons (.loc 5) (.cons (.glo 6) .nil))) (.nm 5) (.val (.idx (.loc 1) (.int 1))) .nil) [.va (sv (.one k)), .va (.tup [.str wNam, .tup (ts.map .str)]), .va (.int ((d + 1 : Nat) : Int)), .un, .un, .un] m = .ok (.lst ((ts.map PV.str).map fun _ => .bl true)) [.va (sv (.one k)), .va (.tup [.str wNam, .tup (ts.map .str)]), .va (.int ((d + 1 : Nat) : Int)), .un, .un, .un] m :=
    e_lcp (s1 := [.va (sv (.one k)), .va (.tup [.str wNam, .tup (ts.map .str)]), .va (.int ((d + 1 : Nat) : Int)), .un, .un, .un]) (l := ts.map PV.str) (f := fun _ => .bl true) (fun x => [.va (sv (.one k)), .va (.tup [.str wNam, .tup (ts.map .str)]), .va (.int ((d + 1 : Nat) : Int)), .un, .un, .va x]) (i_val' (e_idx (e_loc rfl) e_int rfl rfl) rfl) hble (fun x hx => rfl) (fun x hx => by
      obtain ⟨t, htm, rfl⟩ := List.mem_map.1 hx
      exact e_call (l_cons (e_loc rfl) (l_cons (e_glo rfl) l_nil)) (is_text_t (m := m) (n + 2) (ht t htm))) (fun x hx => rfl)
  apply told_in (isDc (isDtup hdp) rfl) rfl
  apply b_rt
  exact x_mat (e_idx (e_loc rfl) e_int rfl rfl) (m_no rfl (m_no rfl (m_yes rfl (b_nx (x_iff (t_anyf (t_v' (e_cmp (e_idx (e_loc rfl) e_int rfl rfl) e_str (nes_f rfl))) (t_anyf (t_nf (t_v' (e_call (l_cons (e_loc rfl) (l_cons e_int l_nil)) r1))) (t_anyf (t_nf (t_v' (e_call (l_cons (e_idx (e_loc rfl) e_int rfl rfl) (l_cons (e_idx (e_loc rfl) e_int rfl rfl) l_nil)) r2))) t_anynil))) b_nil) (b_rt (x_ret (e_bi (l_cons e1 l_nil) all_true)))))))
theorem t_ski {h : Nat} {s : S} : Told (h + 1) s (.tup [.str wSki]) := told_of fun d n m hd hn => by
  obtain ⟨n, rfl⟩ : ∃ n', n = n' + 3 := ⟨n - 3, by omega⟩
  apply told_ar rfl rfl
  apply c_rt (fn := f_is_around.fn) rfl rfl
  apply b_rt
  exact x_ift (t_v' (e_cmp (e_idx (e_loc rfl) e_int rfl rfl) e_str (eqs_t rfl))) (b_rt (x_ret (e_cmp (e_bi (l_cons (e_loc rfl) l_nil) rfl) e_int (eq_t rfl))))
theorem t_may {h : Nat} {s : S} {t : List Nat} {f : PV} (ht : Txt t 8) (hd : isD f = true) (hf : Told h s f) : Told (h + 1) (.may s) (.tup [.str wMay, .str t, f]) := told_of fun d n m hdd hn => by
  have r3 := hf d n m hdd (by omega)
  obtain ⟨n, rfl⟩ : ∃ n', n = n' + 3 := ⟨n - 3, by omega⟩
  have r1 := is_row_t (m := m) (n + 2) (l := [.str wMay, .str t, f]) (k := 3) rfl (isDtup (isDc rfl (isDc rfl (isDc hd rfl))))
  have r2 := is_text_t (m := m) (n + 2) ht
  apply told_in (isDc rfl (isDc hd rfl)) rfl
  apply b_rt
  exact x_mat (e_idx (e_loc rfl) e_int rfl rfl) (m_no rfl (m_no rfl (m_no rfl (m_yes rfl (b_nx (x_iff (t_anyf (t_v' (e_cmp (e_idx (e_loc rfl) e_int rfl rfl) e_str (nes_f rfl))) (t_anyf (t_nf (t_v' (e_call (l_cons (e_loc rfl) (l_cons e_int l_nil)) r1))) (t_anyf (t_nf (t_v' (e_call (l_cons (e_idx (e_loc rfl) e_int rfl rfl) (l_cons (e_glo rfl) l_nil)) r2))) t_anynil))) b_nil) (b_rt (x_ret (e_call (l_cons (e_idx (e_loc rfl) e_int rfl rfl) (l_cons (e_idx (e_loc rfl) e_int rfl rfl) (l_cons (e_op (e_loc rfl) e_int subD) l_nil))) r3))))))))
theorem t_cut {h : Nat} {s : S} {w : Nat} {f : PV} (hw : w ≤ 8) (hd : isD f = true) (hf : Told h s f) : Told (h + 1) s (.tup [.str wCut, .int w, f]) := told_of fun d n m hdd hn => by
  obtain ⟨n, rfl⟩ : ∃ n', n = n' + 3 := ⟨n - 3, by omega⟩
  have r1 := is_from_t (m := m) n (i := (w : Int)) (a := 0) (b := 8) (by omega)
  have r3 := hf d (n + 2) m hdd (by omega)
  apply told_ar (isDc rfl (isDc hd rfl)) rfl
  apply c_rt (fn := f_is_around.fn) rfl rfl
  apply b_nx (x_iff (t_v' (e_cmp (e_idx (e_loc rfl) e_int rfl rfl) e_str (eqs_f (by decide)))) b_nil)
  apply b_rt
  exact x_ift (t_v' (e_cmp (e_idx (e_loc rfl) e_int rfl rfl) e_str (eqs_t rfl))) (b_rt (x_ret (e_and (e_cmp (e_bi (l_cons (e_loc rfl) l_nil) rfl) e_int (eq_t rfl)) (e_and (e_call (l_cons (e_idx (e_loc rfl) e_int rfl rfl) (l_cons e_int (l_cons (e_glo rfl) l_nil))) r1) (e_call (l_cons (e_loc rfl) (l_cons (e_idx (e_loc rfl) e_int rfl rfl) (l_cons (e_op (e_loc rfl) e_int subD) l_nil))) r3)))))
theorem ne_f {i j : Int} (h : i = j) : cmp .ne (.int i) (.int j) = some false := by show (some (i == j)).map not = _; rw [beq_iff_eq.2 h]; rfl
theorem t_che {h : Nat} {s : S} {e q : Nat} {f : PV} (he : 2 ≤ e ∧ e ≤ 16) (hq : 1 ≤ q ∧ q + 1 ≤ e) (hd : isD f = true) (hf : Told h s f) : Told (h + 1) s (.tup [.str wChe, .int e, .int q, f]) := told_of fun d n m hdd hn => by
  obtain ⟨n, rfl⟩ : ∃ n', n = n' + 3 := ⟨n - 3, by omega⟩
  have r1 := is_from_t (m := m) n (i := (e : Int)) (a := 2) (b := 16) (by omega)
  have r2 := is_from_t (m := m) n (i := (q : Int)) (a := 1) (b := (e : Int) - 1) (by omega)
  have r3 := hf d (n + 2) m hdd (by omega)
  have a0 : op2 .sub (.int (e : Int)) (.int 1) = some (.int ((e : Int) - 1)) := rfl
  apply told_ar (isDc rfl (isDc rfl (isDc hd rfl))) rfl
  apply c_rt (fn := f_is_around.fn) rfl rfl
  apply b_nx (x_iff (t_v' (e_cmp (e_idx (e_loc rfl) e_int rfl rfl) e_str (eqs_f (by decide)))) b_nil)
  apply b_nx (x_iff (t_v' (e_cmp (e_idx (e_loc rfl) e_int rfl rfl) e_str (eqs_f (by decide)))) b_nil)
  apply b_rt
  exact x_ift (t_v' (e_cmp (e_idx (e_loc rfl) e_int rfl rfl) e_str (eqs_t rfl))) (b_nx (x_iff (t_anyf (t_v' (e_cmp (e_bi (l_cons (e_loc rfl) l_nil) rfl) e_int (ne_f rfl))) (t_anyf (t_nf (t_v' (e_call (l_cons (e_idx (e_loc rfl) e_int rfl rfl) (l_cons e_int (l_cons (e_glo rfl) l_nil))) r1))) (t_anyf (t_nf (t_v' (e_call (l_cons (e_idx (e_loc rfl) e_int rfl rfl) (l_cons e_int (l_cons (e_op (e_idx (e_loc rfl) e_int rfl rfl) e_int a0) l_nil))) r2))) t_anynil))) b_nil) (b_rt (x_ret (e_call (l_cons (e_loc rfl) (l_cons (e_idx (e_loc rfl) e_int rfl rfl) (l_cons (e_op (e_loc rfl) e_int subD) l_nil))) r3))))
theorem t_pad {h : Nat} {s : S} {w c : Nat} {side : List Nat} {f : PV} (hw : w ≤ 8) (hc : SGN.contains c = true) (hs : side = [60] ∨ side = [62] ∨ side = [94]) (hd : isD f = true) (hf : Told h s f) : Told (h + 1) s (.tup [.str wPad, .int w, .str [c], .str side, f]) := told_of fun d n m hdd hn => by
  obtain ⟨n, rfl⟩ : ∃ n', n = n' + 3 := ⟨n - 3, by omega⟩
  have r1 := is_from_t (m := m) n (i := (w : Int)) (a := 0) (b := 8) (by omega)
  have r2 := is_sign_t (m := m) n (sign_txt hc) (by simp)
  have r3 := hf d (n + 2) m hdd (by omega)
  have hni : cmp .nin (.str side) (.tup [.str [60], .str [62], .str [94]]) = some false := by rcases hs with rfl | rfl | rfl <;> rfl
  apply told_ar (isDc rfl (isDc rfl (isDc rfl (isDc hd rfl)))) rfl
  apply c_rt (fn := f_is_around.fn) rfl rfl
  apply b_nx (x_iff (t_v' (e_cmp (e_idx (e_loc rfl) e_int rfl rfl) e_str (eqs_f (by decide)))) b_nil)
  apply b_nx (x_iff (t_v' (e_cmp (e_idx (e_loc rfl) e_int rfl rfl) e_str (eqs_f (by decide)))) b_nil)
  apply b_nx (x_iff (t_v' (e_cmp (e_idx (e_loc rfl) e_int rfl rfl) e_str (eqs_f (by decide)))) b_nil)
  apply b_nx (x_iff (t_anyf (t_v' (e_cmp (e_bi (l_cons (e_loc rfl) l_nil) rfl) e_int (ne_f rfl))) (t_anyf (t_nf (t_v' (e_call (l_cons (e_idx (e_loc rfl) e_int rfl rfl) (l_cons e_int (l_cons (e_glo rfl) l_nil))) r1))) (t_anyf (t_nf (t_v' (e_call (l_cons (e_idx (e_loc rfl) e_int rfl rfl) l_nil) r2))) (t_anyf (t_v' (e_cmp (e_idx (e_loc rfl) e_int rfl rfl) (e_glo rfl) hni)) t_anynil)))) b_nil)
  apply b_rt
  exact x_ret (e_call (l_cons (e_loc rfl) (l_cons (e_idx (e_loc rfl) e_int rfl rfl) (l_cons (e_op (e_loc rfl) e_int subD) l_nil))) r3)
theorem t_man {h : Nat} {s : S} {a : Nat} {b : Option Nat} {t1 t2 t3 t4 : List Nat} {f : PV} (h1 : Txt t1 4) (h2 : Txt t2 4) (h3 : Txt t3 4) (h4 : Txt t4 4) (hd : isD f = true) (hf : Told h s f) : Told (h + 1) (.man s a b) (.tup [.str wMan, .str t1, .str t2, .str t3, .str t4, f]) := told_of fun d n m hdd hn => by
  obtain ⟨n, rfl⟩ : ∃ n', n = n' + 3 := ⟨n - 3, by omega⟩
  have hdr : isDs [.str t1, .str t2, .str t3, .str t4, f] = true := isDc rfl (isDc rfl (isDc rfl (isDc rfl (isDc hd rfl))))
  have r1 := is_row_t (m := m) (n + 1) (l := [.str wMan, .str t1, .str t2, .str t3, .str t4, f]) (k := 6) rfl (isDtup (isDc rfl hdr))
  have r3 := hf d (n + 2) m hdd (by omega)
  have q1 := is_text_t (m := m) (n + 1) h1
  have q2 := is_text_t (m := m) (n + 1) h2
  have q3 := is_text_t (m := m) (n + 1) h3
  have q4 := is_text_t (m := m) (n + 1) h4
  have e1 : ev gv (callN gv F3 (n + 2)) (.lc [3] (.call 2 (.cons (.loc 3) (.cons (.glo 5) .nil))) (.nm 3) (.val (.sli (.loc 1) (.so (.int 1)) (.so (.int 5)))) .nil) [.va (sv (.man s a b)), .va (.tup [.str wMan, .str t1, .str t2, .str t3, .str t4, f]), .va (.int ((d + 1 : Nat) : Int)), .un] m = .ok (.lst ([PV.str t1, .str t2, .str t3, .str t4].map fun _ => .bl true)) [.va (sv (.man s a b)), .va (.tup [.str wMan, .str t1, .str t2, .str t3, .str t4, f]), .va (.int ((d + 1 : Nat) : Int)), .un] m :=
    e_lcp (s1 := [.va (sv (.man s a b)), .va (.tup [.str wMan, .str t1, .str t2, .str t3, .str t4, f]), .va (.int ((d + 1 : Nat) : Int)), .un]) (l := [.str t1, .str t2, .str t3, .str t4]) (f := fun _ => .bl true) (fun x => [.va (sv (.man s a b)), .va (.tup [.str wMan, .str t1, .str t2, .str t3, .str t4, f]), .va (.int ((d + 1 : Nat) : Int)), .va x]) (i_val' (e_sli (e_loc rfl) (o_so e_int) (o_so e_int) rfl) rfl) rfl (fun x hx => rfl) (fun x hx => by
      simp only [List.mem_cons, List.not_mem_nil, or_false] at hx
      rcases hx with rfl | rfl | rfl | rfl
      · exact e_call (l_cons (e_loc rfl) (l_cons (e_glo rfl) l_nil)) q1
      · exact e_call (l_cons (e_loc rfl) (l_cons (e_glo rfl) l_nil)) q2
      · exact e_call (l_cons (e_loc rfl) (l_cons (e_glo rfl) l_nil)) q3
      · exact e_call (l_cons (e_loc rfl) (l_cons (e_glo rfl) l_nil)) q4) (fun x hx => rfl)
  have hm : callN gv F3 (n + 3) 27 [sv (.man s a b), .tup [.str wMan, .str t1, .str t2, .str t3, .str t4, f], .int ((d + 1 : Nat) : Int)] m = .ok (.bl true) m := by
    apply c_rt (fn := f_is_many_told.fn) rfl rfl
    apply b_nx (x_iff (t_anyf (t_nf (t_v' (e_call (l_cons (e_loc rfl) (l_cons e_int l_nil)) r1))) (t_anyf (t_nf (t_v' (e_bi (l_cons e1 l_nil) all_true))) t_anynil)) b_nil)
    apply b_rt
    exact x_ret (e_call (l_cons (e_idx (e_loc rfl) e_int rfl rfl) (l_cons (e_idx (e_loc rfl) e_int rfl rfl) (l_cons (e_op (e_loc rfl) e_int subD) l_nil))) r3)
  apply told_in hdr rfl
  apply b_rt
  exact x_mat (e_idx (e_loc rfl) e_int rfl rfl) (m_no rfl (m_no rfl (m_no rfl (m_no rfl (m_no rfl (m_yes rfl (b_rt (x_ret (e_and (e_cmp (e_idx (e_loc rfl) e_int rfl rfl) e_str (eqs_t rfl)) (e_call (l_cons (e_loc rfl) (l_cons (e_loc rfl) (l_cons (e_loc rfl) l_nil))) hm))))))))))
end RA.St

/-! Formats are told: rows, cases, all; how many there are. -/
namespace RA.St
open PySem
theorem zip_mem : ∀ {a b : List PV} {x : PV}, x ∈ zipP a b → ∃ (j : Nat) (u v : PV), a[j]? = some u ∧ b[j]? = some v ∧ x = .tup [u, v]
  | [], b, x, h => by simp [zipP] at h
  | u :: a, [], x, h => by simp [zipP] at h
  | u :: a, v :: b, x, h => by
    rcases List.mem_cons.1 h with rfl | h
    · exact ⟨0, u, v, rfl, rfl, rfl⟩
    · obtain ⟨j, u', v', h1, h2, h3⟩ := zip_mem h
      exact ⟨j + 1, u', v', h1, h2, h3⟩
theorem zip_len : ∀ a b : List PV, (zipP a b).length ≤ b.length
  | [], b => Nat.zero_le _
  | u :: a, [] => Nat.le_refl _
  | u :: a, v :: b => Nat.succ_le_succ (zip_len a b)
theorem svs_some {l : List S} {j : Nat} {u : PV} (h : (svs l)[j]? = some u) : ∃ s, l[j]? = some s ∧ u = sv s := by
  rw [svs_map, List.getElem?_map] at h
  cases hl : l[j]? with
  | none => rw [hl] at h; cases h
  | some s => rw [hl] at h; cases h; exact ⟨s, rfl, rfl⟩
def fst2 : PV → PV
  | .tup [a, _] => a
  | _ => .non
def snd2 : PV → PV
  | .tup [_, b] => b
  | _ => .non
theorem len_svs {l : List S} : bi .len [.tup (svs l)] = some (.int (l.length : Int)) := by
  show some (PV.int ((svs l).length : Int)) = _
  rw [svs_len]
theorem t_cas {h : Nat} {l : List S} {fs : List PV} (hl : fs.length = l.length) (h1 : l.length ≤ 2) (hd : isDs fs = true) (hf : ∀ (j : Nat) (s : S) (f : PV), l[j]? = some s → fs[j]? = some f → Told h s f) : Told (h + 1) (.cas l) (.tup [.str wCas, .tup fs]) := told_of fun d n m hdd hn => by
  obtain ⟨n, rfl⟩ : ∃ n', n = n' + 3 := ⟨n - 3, by omega⟩
  have r1 := is_row_t (m := m) (n + 2) (l := [.str wCas, .tup fs]) (k := 2) rfl (isD2 rfl (isDtup hd))
  have r2 := is_row_t (m := m) (n + 2) (l := fs) (k := (l.length : Int)) (by rw [hl]) (isDtup hd)
  have hln := len_svs (l := l)
  have hzl := zip_len (svs l) fs
  have e1 : ev gv (callN gv F3 (n + 3)) (.lc [3, 4] (.call 28 (.cons (.loc 3) (.cons (.loc 4) (.cons (.op .sub (.loc 2) (.int 1)) .nil)))) (.tp (.cons (.nm 3) (.cons (.nm 4) .nil))) (.zip (.idx (.loc 0) (.int 1)) (.idx (.loc 1) (.int 1))) .nil) [.va (sv (.cas l)), .va (.tup [.str wCas, .tup fs]), .va (.int ((d + 1 : Nat) : Int)), .un, .un, .un] m = .ok (.lst ((zipP (svs l) fs).map fun _ => .bl true)) [.va (sv (.cas l)), .va (.tup [.str wCas, .tup fs]), .va (.int ((d + 1 : Nat) : Int)), .un, .un, .un] m :=
    e_lcp (s1 := [.va (sv (.cas l)), .va (.tup [.str wCas, .tup fs]), .va (.int ((d + 1 : Nat) : Int)), .un, .un, .un]) (l := zipP (svs l) fs) (f := fun _ => .bl true) (fun x => [.va (sv (.cas l)), .va (.tup [.str wCas, .tup fs]), .va (.int ((d + 1 : Nat) : Int)), .va (fst2 x), .va (snd2 x), .un]) (i_zip' (x := .tup (svs l)) (y := .tup fs) (e_idx (e_loc rfl) e_int rfl rfl) (e_idx (e_loc rfl) e_int rfl rfl) rfl rfl) (Nat.ble_eq_true_of_le (by show _ ≤ (16777216 : Nat); omega)) (fun x hx => by obtain ⟨j, u, v, _, _, rfl⟩ := zip_mem hx; rfl) (fun x hx => by
      obtain ⟨j, u, v, h2, h3, rfl⟩ := zip_mem hx
      obtain ⟨s, h4, rfl⟩ := svs_some h2
      have r3 := hf j s v h4 h3 d (n + 3) m hdd (by omega)
      exact e_call (l_cons (e_loc rfl) (l_cons (e_loc rfl) (l_cons (e_op (e_loc rfl) e_int subD) l_nil))) r3) (fun x hx => rfl)
  apply told_in (isDc (isDtup hd) rfl) rfl
  apply b_nx (x_mat (e_idx (e_loc rfl) e_int rfl rfl) (m_no rfl (m_no rfl (m_no rfl (m_no rfl (m_no rfl (m_no rfl m_nil)))))))
  apply b_nx (x_iff (t_anyf (t_v' (e_cmp (e_idx (e_loc rfl) e_int rfl rfl) e_str (nes_f rfl))) (t_anyf (t_nf (t_v' (e_call (l_cons (e_loc rfl) (l_cons e_int l_nil)) r1))) (t_anyf (t_nf (t_v' (e_call (l_cons (e_idx (e_loc rfl) e_int rfl rfl) (l_cons (e_bi (l_cons (e_idx (e_loc rfl) e_int rfl rfl) l_nil) hln) l_nil)) r2))) t_anynil))) b_nil)
  apply b_rt
  exact x_ret (e_bi (l_cons e1 l_nil) all_true)
def bRow : Sms := (.cons (.ift (.v (.isi .tup (.loc 4))) (.cons (.ift (.any (.cons (.v (.cmp .ne (.bi .len (.cons (.loc 4) .nil)) (.int 2))) (.cons (.nt (.v (.call 1 (.cons (.idx (.loc 4) (.int 0)) (.cons (.int 0) (.cons (.op .sub (.bi .len (.cons (.idx (.loc 0) (.int 1)) .nil)) (.int 1)) .nil)))))) .nil))) (.cons (.ret (.bl false)) .nil) .nil) (.cons (.ift (.nt (.v (.call 28 (.cons (.idx (.idx (.loc 0) (.int 1)) (.idx (.loc 4) (.int 0))) (.cons (.idx (.loc 4) (.int 1)) (.cons (.op .sub (.loc 2) (.int 1)) .nil)))))) (.cons (.ret (.bl false)) .nil) .nil) (.cons (.app 3 (.idx (.loc 4) (.int 0))) .nil))) (.cons (.ift (.any (.cons (.nt (.v (.call 2 (.cons (.loc 4) (.cons (.glo 6) .nil))))) (.cons (.v (.cmp .eq (.loc 4) (.str []))) .nil))) (.cons (.ret (.bl false)) .nil) .nil) .nil)) .nil)
def nums (j k : Nat) : List PV := (List.range k).map fun i => .int ((j + i : Nat) : Int)
theorem nums_succ (j k : Nat) : nums j (k + 1) = .int ((j : Nat) : Int) :: nums (j + 1) k := by
  unfold nums
  rw [List.range_succ_eq_map, List.map_cons, List.map_map]
  congr 1
  apply List.map_congr_left
  intro i _
  show PV.int ((j + (i + 1) : Nat) : Int) = .int ((j + 1 + i : Nat) : Int)
  rw [show j + (i + 1) = j + 1 + i by omega]
theorem row_loop {n d : Nat} {m : List PV} {L : List S} {fo : PV} {P : S → PV → Prop} (hP : ∀ s f, P s f → isD f = true ∧ callN gv F3 (n + 2) 28 [sv s, f, .int ((d : Nat) : Int)] m = .ok (.bl true) m) {j : Nat} {l : List S} {ps : List PV} (h : RowPs P j l ps) :
    (∀ (i : Nat) (s : S), l[i]? = some s → L[j + i]? = some s) → ∀ (nb : List PV) (y : Sl), nb.length + l.length ≤ 1000 → ∃ y', forL (fun x s m => (lift (asg (.nm 4) x s) s m).bnd fun s' _ m => xss gv (callN gv F3 (n + 2)) bRow s' m) ps [.va (sv (.row L)), .va fo, .va (.int ((d + 1 : Nat) : Int)), .ow (.lst nb), y] m
      = .ok .nx [.va (sv (.row L)), .va fo, .va (.int ((d + 1 : Nat) : Int)), .ow (.lst (nb ++ nums j l.length)), y'] m := by
  induction h with
  | done j => intro _ nb y _; exact ⟨y, by show _ = Res.ok Fl.nx [.va (sv (.row L)), .va fo, .va (.int ((d + 1 : Nat) : Int)), .ow (.lst (nb ++ [])), y] m; rw [List.append_nil]; rfl⟩
  | txt j l t ps ht hn h ih =>
    intro hL nb y hb
    obtain ⟨y', hi⟩ := ih hL nb (.va (.str t)) hb
    refine ⟨y', fl_nx (s1 := [.va (sv (.row L)), .va fo, .va (.int ((d + 1 : Nat) : Int)), .ow (.lst nb), .va (.str t)]) (m1 := m) ?_ hi⟩
    show xss gv (callN gv F3 (n + 2)) bRow [.va (sv (.row L)), .va fo, .va (.int ((d + 1 : Nat) : Int)), .ow (.lst nb), .va (.str t)] m = _
    have r1 := is_text_t (m := m) (n + 1) ht
    exact b_nx (x_iff (t_v' (e_isf (e_loc rfl) rfl rfl)) (b_nx (x_iff (t_anyf (t_nf (t_v' (e_call (l_cons (e_loc rfl) (l_cons (e_glo rfl) l_nil)) r1))) (t_anyf (t_v' (e_cmp (e_loc rfl) e_str (eqs_f hn))) t_anynil)) b_nil) b_nil)) b_nil
  | part j s l f ps hf h ih =>
    intro hL nb y hb
    rw [List.length_cons] at hb
    have hjs := hL 0 s rfl
    have hjl : j < L.length := by
      rcases Nat.lt_or_ge j L.length with h' | h'
      · exact h'
      · rw [Nat.add_zero, List.getElem?_eq_none h'] at hjs; cases hjs
    obtain ⟨y', hi⟩ := ih (fun i s' hs => by rw [show j + 1 + i = j + (i + 1) by omega]; exact hL (i + 1) s' hs) (nb ++ [.int ((j : Nat) : Int)]) (.va (.tup [.int ((j : Nat) : Int), f])) (by rw [List.length_append, List.length_singleton]; omega)
    obtain ⟨hd, hc⟩ := hP s f hf
    rw [List.length_cons, nums_succ]
    have eq : nb ++ (PV.int ((j : Nat) : Int) :: nums (j + 1) l.length) = nb ++ [.int ((j : Nat) : Int)] ++ nums (j + 1) l.length := by simp
    rw [eq]
    refine ⟨y', fl_nx (s1 := [.va (sv (.row L)), .va fo, .va (.int ((d + 1 : Nat) : Int)), .ow (.lst (nb ++ [.int ((j : Nat) : Int)])), .va (.tup [.int ((j : Nat) : Int), f])]) (m1 := m) ?_ hi⟩
    show xss gv (callN gv F3 (n + 2)) bRow [.va (sv (.row L)), .va fo, .va (.int ((d + 1 : Nat) : Int)), .ow (.lst nb), .va (.tup [.int ((j : Nat) : Int), f])] m = _
    have hln := len_svs (l := L)
    have a0 : op2 .sub (.int (L.length : Int)) (.int 1) = some (.int ((L.length : Int) - 1)) := rfl
    have r1 := is_from_t (m := m) n (i := (j : Int)) (a := 0) (b := (L.length : Int) - 1) (by omega)
    have a1 := idx_at (svs_at L j s hjs)
    exact b_nx (x_ift (t_v' (e_isy (e_loc rfl) (isD2 rfl hd) rfl)) (b_nx (x_iff (t_anyf (t_v' (e_cmp (e_bi (l_cons (e_loc rfl) l_nil) rfl) e_int (ne_f rfl))) (t_anyf (t_nf (t_v' (e_call (l_cons (e_idx (e_loc rfl) e_int rfl rfl) (l_cons e_int (l_cons (e_op (e_bi (l_cons (e_idx (e_loc rfl) e_int rfl rfl) l_nil) hln) e_int a0) l_nil))) r1))) t_anynil)) b_nil)
      (b_nx (x_iff (t_nf (t_v' (e_call (l_cons (e_idx (e_idx (e_loc rfl) e_int rfl rfl) (e_idx (e_loc rfl) e_int rfl rfl) rfl a1) (l_cons (e_idx (e_loc rfl) e_int rfl rfl) (l_cons (e_op (e_loc rfl) e_int subD) l_nil))) hc))) b_nil)
      (b_nx (x_app rfl (e_idx (e_loc rfl) e_int rfl rfl) rfl (by rw [Nat.blt_eq]; show _ < (16777216 : Nat); omega)) b_nil)))) b_nil
theorem eqPs_ints : ∀ l : List Int, eqPs (l.map .int) (l.map .int) = true
  | [] => rfl
  | i :: l => by
    show (i == i && eqPs (l.map .int) (l.map .int)) = true
    rw [eqPs_ints l, beq_self_eq_true]; rfl
theorem deps_ints : ∀ l : List Int, deps (l.map .int) = 0
  | [] => rfl
  | i :: l => by show max 0 (deps (l.map .int)) = 0; rw [deps_ints l]; rfl
theorem eqC_ints (l : List Int) : eqC (.lst (l.map .int)) (.lst (l.map .int)) = some true := by
  have hd : isDs (l.map PV.int) = true := isDs_of fun x hx => by obtain ⟨i, _, rfl⟩ := List.mem_map.1 hx; rfl
  have e1 : isD (.lst (l.map PV.int)) = true := hd
  have e2 : Nat.ble (min (dep (.lst (l.map .int))) (dep (.lst (l.map .int)))) 64 = true := by
    show Nat.ble (min (deps (l.map .int) + 1) (deps (l.map .int) + 1)) 64 = true
    rw [deps_ints]; rfl
  unfold eqC
  rw [if_pos (by rw [e1, e2]; rfl)]
  show some (eqPs (l.map .int) (l.map .int)) = _
  rw [eqPs_ints]
theorem t_row {h : Nat} {l : List S} {ps : List PV} (hl : l.length ≤ 2) (hp : ps.length ≤ 4) (hr : RowPs (FormP h) 0 l ps) (hf : ∀ s f, FormP h s f → Told h s f) : Told (h + 1) (.row l) (.tup [.str wRow, .tup ps]) := told_of fun d n m hdd hn => by
  obtain ⟨n, rfl⟩ : ∃ n', n = n' + 3 := ⟨n - 3, by omega⟩
  have hd := row_isDs (form_isD h) hr
  have r1 := is_row_t (m := m) (n + 1) (l := [.str wRow, .tup ps]) (k := 2) rfl (isD2 rfl (isDtup hd))
  have hln := len_svs (l := l)
  have hlp : bi .len [.tup ps] = some (.int (ps.length : Int)) := rfl
  obtain ⟨y', hlo⟩ := row_loop (n := n) (d := d) (m := m) (L := l) (fo := .tup [.str wRow, .tup ps]) (P := FormP h) (fun s f hsf => ⟨form_isD h s f hsf, hf s f hsf d (n + 2) m hdd (by omega)⟩) hr (fun i s hs => by rw [Nat.zero_add]; exact hs) [] .un (by rw [List.length_nil]; omega)
  rw [List.nil_append] at hlo
  have e1 : nums 0 l.length = ((List.range l.length).map fun (i : Nat) => (i : Int)).map PV.int := by
    unfold nums
    rw [List.map_map]
    apply List.map_congr_left
    intro i _
    show PV.int ((0 + i : Nat) : Int) = .int (i : Int)
    rw [Nat.zero_add]
  have e2 : RA.rng 0 (l.length : Int) = some (((List.range l.length).map fun (i : Nat) => (i : Int)).map PV.int) := by
    unfold RA.rng
    rw [if_pos (by show _ ≤ (16777216 : Nat) ∧ _; omega), Int.sub_zero, Int.toNat_natCast, List.map_map]
    congr 1
    apply List.map_congr_left
    intro i _
    show PV.int (0 + (i : Int)) = .int (i : Int)
    rw [Int.zero_add]
  rw [e1] at hlo
  have hm : callN gv F3 (n + 3) 26 [sv (.row l), .tup [.str wRow, .tup ps], .int ((d + 1 : Nat) : Int)] m = .ok (.bl true) m := by
    apply c_rt (fn := f_is_row_told.fn) rfl rfl
    apply b_nx (x_iff (t_anyf (t_nf (t_v' (e_call (l_cons (e_loc rfl) (l_cons e_int l_nil)) r1))) (t_anyf (t_nf (t_v' (e_isy (e_idx (e_loc rfl) e_int rfl rfl) (isDtup hd) rfl))) (t_anyf (t_v' (e_cmp (e_bi (l_cons (e_idx (e_loc rfl) e_int rfl rfl) l_nil) hlp) (e_glo rfl) (gt_f (by omega)))) t_anynil))) b_nil)
    apply b_nx (x_own l_nil)
    apply b_nx (x_for (i_val' (x := .tup ps) (e_idx (e_loc rfl) e_int rfl rfl) rfl) hlo)
    apply b_rt
    exact x_ret (e_cmp (e_loo rfl) (e_lrg (i_rg1' (e_bi (l_cons (e_idx (e_loc rfl) e_int rfl rfl) l_nil) hln) e2)) (eqC_ints _))
  apply told_in (isDc (isDtup hd) rfl) rfl
  apply b_rt
  exact x_mat (e_idx (e_loc rfl) e_int rfl rfl) (m_no rfl (m_no rfl (m_no rfl (m_no rfl (m_yes rfl (b_rt (x_ret (e_and (e_cmp (e_idx (e_loc rfl) e_int rfl rfl) e_str (eqs_t rfl)) (e_call (l_cons (e_loc rfl) (l_cons (e_loc rfl) (l_cons (e_loc rfl) l_nil))) hm)))))))))
theorem told_all : ∀ h s f, FormP h s f → Told h s f
  | 0, _, _, hF => hF.elim
  | h + 1, s, f, hF => by
    have ih := told_all h
    have hD := form_isD h
    cases (show FormQ (FormP h) s f from hF) with
    | fig lo hi b least g how mk ah hb hl hh' hk ha => exact t_fig hb hl hh' hk ha
    | pow lo hi b how hb hh' => exact t_pow hb hh'
    | pla le a b => exact t_pla
    | spe le a b ps hp => exact t_spe hp
    | quo le a b q e hq he hn => exact t_quo hq he hn
    | nam k ts hk hk2 ht => exact t_nam hk hk2 ht
    | ski s => exact t_ski
    | may s t f ht hf => exact t_may ht (hD s f hf) (ih s f hf)
    | row l ps hl hp hr => exact t_row hl hp hr ih
    | man s a b t1 t2 t3 t4 f h1 h2 h3 h4 hf => exact t_man h1 h2 h3 h4 (hD s f hf) (ih s f hf)
    | cas l fs hl h1 hf =>
      refine t_cas hl h1.2 (isDs_of fun x hx => ?_) (fun j s f hs hff => ih s f (hf j s f hs hff))
      obtain ⟨j, hj, rfl⟩ := List.getElem_of_mem hx
      exact hD (l[j]'(by omega)) _ (hf j (l[j]'(by omega)) fs[j] (List.getElem?_eq_getElem (by omega)) (List.getElem?_eq_getElem hj))
    | pad s w c side f hw hc hs hf => exact t_pad hw hc hs (hD s f hf) (ih s f hf)
    | cut s w f hw hf => exact t_cut hw (hD s f hf) (ih s f hf)
    | che s d k f hd hk hf => exact t_che hd hk (hD s f hf) (ih s f hf)
/-! ### how many formats -/
def Cnt (h : Nat) (f : PV) : Prop := ∃ c : Nat, c + 1 ≤ 2 ^ h ∧ ∀ (k : Nat) (m : List PV), h + 2 ≤ k → callN gv F3 k 30 [f] m = .ok (.int ((c : Nat) : Int)) m
theorem pInts_map {α : Type} (f : α → Int) : ∀ l : List α, pInts (l.map fun x => PV.int (f x)) = some (l.map f)
  | [] => rfl
  | x :: l => by show (pInts (l.map fun x => PV.int (f x))).map _ = _; rw [pInts_map f l]; rfl
theorem sum_cast {α : Type} (f : α → Nat) : ∀ l : List α, (l.map fun x => ((f x : Nat) : Int)).sum = (((l.map f).sum : Nat) : Int)
  | [] => rfl
  | x :: l => by rw [List.map_cons, List.sum_cons, List.map_cons, List.sum_cons, sum_cast f l]; omega
theorem cnt_of {h : Nat} {f : PV} {fs : List PV} (hw : ∀ (n : Nat) (m : List PV), callN gv F3 (n + 1) 29 [f] m = .ok (.lst fs) m) (hl : fs.length ≤ 2) (hc : ∀ x ∈ fs, Cnt h x) : Cnt (h + 1) f := by
  obtain ⟨c, hcc⟩ := pick hc
  have hs := sum_le c (2 ^ h - 1) fs fun x hx => by have := (hcc x hx).1; omega
  have hpos : 0 < 2 ^ h := Nat.pow_pos (by decide)
  have hm : fs.length * (2 ^ h - 1) ≤ 2 * (2 ^ h - 1) := Nat.mul_le_mul_right _ hl
  refine ⟨1 + (fs.map c).sum, by rw [Nat.pow_succ]; omega, fun k m hk => ?_⟩
  obtain ⟨n, rfl⟩ : ∃ n, k = n + 2 := ⟨k - 2, by omega⟩
  have e1 : ev gv (callN gv F3 (n + 1)) (.lc [1] (.call 30 (.cons (.loc 1) .nil)) (.nm 1) (.val (.call 29 (.cons (.loc 0) .nil))) .nil) [.va f, .un] m = .ok (.lst (fs.map fun x => .int ((c x : Nat) : Int))) [.va f, .un] m :=
    e_lcp (s1 := [.va f, .un]) (l := fs) (f := fun x => .int ((c x : Nat) : Int)) (fun x => [.va f, .va x]) (i_val' (x := .lst fs) (e_call (l_cons (e_loc rfl) l_nil) (hw n m)) rfl) (Nat.ble_eq_true_of_le (by show _ ≤ (16777216 : Nat); omega)) (fun x hx => rfl) (fun x hx => e_call (l_cons (e_loc rfl) l_nil) ((hcc x hx).2 (n + 1) m (by omega))) (fun x hx => rfl)
  have e2 : bi .sum1 [.lst (fs.map fun x => .int ((c x : Nat) : Int))] = some (.int (((fs.map c).sum : Nat) : Int)) := by
    show (pInts _).map _ = _
    rw [pInts_map (fun x => ((c x : Nat) : Int))]
    show some (PV.int _) = _
    rw [sum_cast]
  have e3 : op2 .add (.int 1) (.int (((fs.map c).sum : Nat) : Int)) = some (.int ((1 + (fs.map c).sum : Nat) : Int)) := by
    show some (PV.int _) = _
    congr 2
  apply c_rt (fn := f_count_of.fn) rfl rfl
  apply b_rt
  exact x_ret (e_op e_int (e_bi (l_cons e1 l_nil) e2) e3)
end RA.St

/-! How many formats; is_format; is_value. -/
namespace RA.St
open PySem
theorem within_1 {w : List Nat} {r : List PV} {x : PV} (hw : [wPad, wCut, wChe, wMay, wMan].contains w = true) (hx : idxP (.tup (.str w :: r)) (.int (-1)) = some x) (n : Nat) (m : List PV) : callN gv F3 (n + 1) 29 [.tup (.str w :: r)] m = .ok (.lst [x]) m := by
  apply c_rt (fn := f_within.fn) rfl rfl
  apply b_rt
  exact x_mat (e_idx (e_loc rfl) e_int rfl idx0) (m_yes hw (b_rt (x_ret (e_lst (l_cons (e_idx (e_loc rfl) (e_neg e_int) rfl hx) l_nil)))))
theorem within_0 {w : List Nat} {r : List PV} (hw : [wPad, wCut, wChe, wMay, wMan].contains w = false) (h2 : [wRow].contains w = false) (h3 : [wCas].contains w = false) (n : Nat) (m : List PV) : callN gv F3 (n + 1) 29 [.tup (.str w :: r)] m = .ok (.lst []) m := by
  apply c_rt (fn := f_within.fn) rfl rfl
  apply b_nx (x_mat (e_idx (e_loc rfl) e_int rfl idx0) (m_no hw (m_no h2 (m_no h3 m_nil))))
  exact b_rt (x_ret (e_lst l_nil))
theorem within_cas {fs : List PV} (n : Nat) (m : List PV) : callN gv F3 (n + 1) 29 [.tup [.str wCas, .tup fs]] m = .ok (.lst fs) m := by
  apply c_rt (fn := f_within.fn) rfl rfl
  apply b_rt
  exact x_mat (e_idx (e_loc rfl) e_int rfl rfl) (m_no rfl (m_no rfl (m_yes rfl (b_rt (x_ret (e_bi (l_cons (e_idx (e_loc rfl) e_int rfl rfl) l_nil) rfl))))))
def isTp (x : PV) : Bool := isTy .tup x && true
theorem within_row {ps : List PV} (hd : isDs ps = true) (hl : ps.length ≤ 4) (hp : ∀ x ∈ ps, isTp x = true → ∃ i f, x = .tup [i, f]) (n : Nat) (m : List PV) : callN gv F3 (n + 1) 29 [.tup [.str wRow, .tup ps]] m = .ok (.lst ((ps.filter isTp).map snd2)) m := by
  have hdx : ∀ x ∈ ps, isD x = true := by
    intro x hx
    clear hl hp
    induction ps with
    | nil => exact (List.not_mem_nil hx).elim
    | cons y r ih =>
      have h2 : (isD y && isDs r) = true := hd
      rw [Bool.and_eq_true] at h2
      rcases List.mem_cons.1 hx with rfl | hx
      · exact h2.1
      · exact ih h2.2 hx
  have e1 : ev gv (callN gv F3 n) (.lc [1] (.idx (.loc 1) (.int 1)) (.nm 1) (.val (.idx (.loc 0) (.int 1))) (.cons (.v (.isi .tup (.loc 1))) .nil)) [.va (.tup [.str wRow, .tup ps]), .un] m = .ok (.lst ((ps.filter isTp).map snd2)) [.va (.tup [.str wRow, .tup ps]), .un] m :=
    e_lcf (s1 := [.va (.tup [.str wRow, .tup ps]), .un]) (l := ps) (f := snd2) isTp (fun x => [.va (.tup [.str wRow, .tup ps]), .va x]) (i_val' (x := .tup ps) (e_idx (e_loc rfl) e_int rfl rfl) rfl) (Nat.ble_eq_true_of_le (by show _ ≤ (16777216 : Nat); omega)) (fun x hx => rfl)
      (fun x hx => (t_all' (t_v' (e_isi (e_loc rfl) (hdx x hx))) (fun _ => t_allnil) : evt gv (callN gv F3 n) (.all (.cons (.v (.isi .tup (.loc 1))) .nil)) [.va (.tup [.str wRow, .tup ps]), .va x] m = .ok (isTy .tup x && true) [.va (.tup [.str wRow, .tup ps]), .va x] m))
      (fun x hx hc => by
        obtain ⟨i, f, rfl⟩ := hp x hx hc
        exact e_idx (e_loc rfl) e_int rfl rfl) (fun x hx => rfl)
  apply c_rt (fn := f_within.fn) rfl rfl
  apply b_rt
  exact x_mat (e_idx (e_loc rfl) e_int rfl rfl) (m_no rfl (m_yes rfl (b_rt (x_ret e1))))
theorem row_tups {P : S → PV → Prop} {j : Nat} {l : List S} {ps : List PV} (h : RowPs P j l ps) : (ps.filter isTp).length = l.length := by
  induction h with
  | done j => rfl
  | txt j l t ps ht hn h ih => rw [List.filter_cons_of_neg (fun h => by cases h)]; exact ih
  | part j s l f ps hf h ih => rw [List.filter_cons_of_pos (by rfl), List.length_cons, List.length_cons, ih]
theorem count_all : ∀ h s f, FormP h s f → Cnt h f
  | 0, _, _, hF => hF.elim
  | h + 1, s, f, hF => by
    have ih := count_all h
    have hD := form_isD h
    have one : ∀ {x : PV} {s : S}, FormP h s x → ∀ y ∈ [x], Cnt h y := fun hx y hy => by rw [List.mem_singleton.1 hy]; exact ih _ _ hx
    have zero : ∀ y ∈ ([] : List PV), Cnt h y := fun y hy => (List.not_mem_nil hy).elim
    cases (show FormQ (FormP h) s f from hF) with
    | fig lo hi b least g how mk ah hb hl hh' hk ha => exact cnt_of (within_0 rfl rfl rfl) (by decide) zero
    | pow lo hi b how hb hh' => exact cnt_of (within_0 rfl rfl rfl) (by decide) zero
    | pla le a b => exact cnt_of (within_0 rfl rfl rfl) (by decide) zero
    | spe le a b ps hp => exact cnt_of (within_0 rfl rfl rfl) (by decide) zero
    | quo le a b q e hq he hn => exact cnt_of (within_0 rfl rfl rfl) (by decide) zero
    | nam k ts hk hk2 ht => exact cnt_of (within_0 rfl rfl rfl) (by decide) zero
    | ski s => exact cnt_of (within_0 rfl rfl rfl) (by decide) zero
    | may s t f ht hf => exact cnt_of (within_1 rfl rfl) (by show 1 ≤ 2; decide) (one hf)
    | row l ps hl hp hr =>
      refine cnt_of (within_row (row_isDs hD hr) hp (fun x hx hc => ?_)) (by rw [List.length_map, row_tups hr]; exact hl) (fun x hx => ?_)
      · rcases rowPs_mem hr x hx with ⟨t, rfl, _⟩ | ⟨i, s, f, rfl, _, _⟩
        · cases hc
        · exact ⟨_, _, rfl⟩
      · obtain ⟨y, hy, rfl⟩ := List.mem_map.1 hx
        obtain ⟨hy1, hy2⟩ := List.mem_filter.1 hy
        rcases rowPs_mem hr y hy1 with ⟨t, rfl, _⟩ | ⟨i, s, f, rfl, _, hf⟩
        · cases hy2
        · exact ih s f hf
    | man s a b t1 t2 t3 t4 f h1 h2 h3 h4 hf => exact cnt_of (within_1 rfl rfl) (by show 1 ≤ 2; decide) (one hf)
    | cas l fs hl h1 hf =>
      refine cnt_of within_cas (by omega) (fun x hx => ?_)
      obtain ⟨j, hj, rfl⟩ := List.getElem_of_mem hx
      exact ih (l[j]'(by omega)) _ (hf j (l[j]'(by omega)) fs[j] (List.getElem?_eq_getElem (by omega)) (List.getElem?_eq_getElem hj))
    | pad s w c side f hw hc hs hf => exact cnt_of (within_1 rfl rfl) (by show 1 ≤ 2; decide) (one hf)
    | cut s w f hw hf => exact cnt_of (within_1 rfl rfl) (by show 1 ≤ 2; decide) (one hf)
    | che s d k f hd hk hf => exact cnt_of (within_1 rfl rfl) (by show 1 ≤ 2; decide) (one hf)
theorem is_format_t {h k : Nat} {s : S} {f : PV} {m : List PV} (hh : h ≤ 4) (hk : 15 ≤ k) (hF : FormP h s f) : callN gv F3 k 31 [sv s, f] m = .ok (.bl true) m := by
  obtain ⟨n, rfl⟩ : ∃ n, k = n + 1 := ⟨k - 1, by omega⟩
  have h1 : callN gv F3 n 28 [sv s, f, .int 7] m = .ok (.bl true) m := told_all h s f hF 7 n m (by omega) (by omega)
  obtain ⟨c, hc, h2⟩ := count_all h s f hF
  have hp : 2 ^ h ≤ 2 ^ 4 := Nat.pow_le_pow_right (by decide) hh
  have h2 := h2 n m (by omega)
  apply c_rt (fn := f_is_format.fn) rfl rfl
  apply b_rt
  exact x_ret (e_and (e_call (l_cons (e_loc rfl) (l_cons (e_loc rfl) (l_cons (e_glo rfl) l_nil))) h1) (e_cmp (e_call (l_cons (e_loc rfl) l_nil) h2) (e_glo rfl) (le_t (by omega))))
/-! ### sorts, values -/
def WorP (le : List Nat) : Prop := le.length ≤ 2 ∧ rising le = true ∧ ∀ c ∈ le, SGN.contains c = true
def SizP (a : Nat) (b : Option Nat) : Prop := a ≤ 1 ∧ (b = none ∨ b = some 2 ∨ b = some a)
inductive SortQ (P : S → Prop) : S → Prop where
  | int (lo hi : Option Int) : SortQ P (.int lo hi)
  | wor (le : List Nat) (a : Nat) (b : Option Nat) (hl : WorP le) (hs : SizP a b) : SortQ P (.wor le a b)
  | one (k : Nat) (hk : 1 ≤ k ∧ k ≤ 3) : SortQ P (.one k)
  | may (s : S) (h : P s) : SortQ P (.may s)
  | row (l : List S) (hl : l.length ≤ 2) (h : ∀ s ∈ l, P s) : SortQ P (.row l)
  | man (s : S) (a : Nat) (b : Option Nat) (h : P s) (hs : SizP a b) : SortQ P (.man s a b)
  | cas (l : List S) (hl : 1 ≤ l.length ∧ l.length ≤ 2) (h : ∀ s ∈ l, P s) : SortQ P (.cas l)
def SortP : Nat → S → Prop
  | 0, _ => False
  | d + 1, s => SortQ (SortP d) s
section
variable {m : List PV}
theorem lo_t {cf : Nat → List PV → List PV → CR} {s : List Sl} {fo v : PV} {i b : Int} {k : Int} {e : Ex} {lo : Option Int} {a : Ex} (ha : ev gv cf a s m = .ok (oi lo) s m) (he : ev gv cf e s m = .ok (.int i) s m) (h : ∀ a, lo = some a → a ≤ i) :
    evt gv cf (.all (.cons (.v (.isn true a)) (.cons (.v (.cmp .lt e a)) .nil))) s m = .ok false s m := by
  cases lo with
  | none => exact t_allf (t_v' (e_nnf ha))
  | some x => exact t_allg (t_v' (e_nny ha rfl)) (t_allf (t_v' (e_cmp he ha (lt_f (h x rfl)))))
theorem hi_t {cf : Nat → List PV → List PV → CR} {s : List Sl} {i : Int} {e : Ex} {hi : Option Int} {a : Ex} (ha : ev gv cf a s m = .ok (oi hi) s m) (he : ev gv cf e s m = .ok (.int i) s m) (h : ∀ a, hi = some a → i ≤ a) :
    ev gv cf (.or (.isn false a) (.cmp .le e a)) s m = .ok (.bl true) s m := by
  cases hi with
  | none => exact e_ort (e_iny ha)
  | some x => exact e_or (e_inf ha rfl) (e_cmp he ha (le_t (h x rfl)))
theorem hin_t {cf : Nat → List PV → List PV → CR} {s : List Sl} {i : Nat} {e : Ex} {hi : Option Nat} {a : Ex} (ha : ev gv cf a s m = .ok (on hi) s m) (he : ev gv cf e s m = .ok (.int (i : Int)) s m) (h : ∀ a, hi = some a → i ≤ a) :
    ev gv cf (.or (.isn false a) (.cmp .le e a)) s m = .ok (.bl true) s m := by
  cases hi with
  | none => exact e_ort (e_iny ha)
  | some x => exact e_or (e_inf ha rfl) (e_cmp he ha (le_t (by have := h x rfl; omega)))
theorem gtn_t {cf : Nat → List PV → List PV → CR} {s : List Sl} {i : Nat} {e : Ex} {hi : Option Nat} {a : Ex} (ha : ev gv cf a s m = .ok (on hi) s m) (he : ev gv cf e s m = .ok (.int (i : Int)) s m) (h : ∀ a, hi = some a → i ≤ a) :
    evt gv cf (.all (.cons (.v (.isn true a)) (.cons (.v (.cmp .gt e a)) .nil))) s m = .ok false s m := by
  cases hi with
  | none => exact t_allf (t_v' (e_nnf ha))
  | some x => exact t_allg (t_v' (e_nny ha rfl)) (t_allf (t_v' (e_cmp he ha (gt_f (by have := h x rfl; omega)))))
end
theorem ble_of {l : List PV} (h : l.length ≤ 1000) : Nat.ble l.length SZ = true := Nat.ble_eq_true_of_le (by show _ ≤ (16777216 : Nat); omega)
end RA.St

/-! The listed values: integers, lots. -/
namespace RA.St
open PySem
theorem cut_mem {α : Type} {l : List α} {c : Nat} {x : α} (h : x ∈ RA.cut l none (some (c : Int))) : x ∈ l := List.mem_of_mem_drop (List.mem_of_mem_take h)
theorem cut_le {α : Type} (l : List α) (c : Nat) : (RA.cut l none (some (c : Int))).length ≤ c := by
  unfold RA.cut
  rw [List.length_take]
  have : sIx l.length l.length (some (c : Int)) ≤ c := by
    show (if (c : Int) < 0 then ((c : Int) + (l.length : Int)).toNat else min (c : Int).toNat l.length) ≤ c
    rw [if_neg (by omega), Int.toNat_natCast]
    exact Nat.min_le_left _ _
  omega
section
variable {m : List PV}
def loB (lo : Option Int) (i : Int) : Bool := match lo with | none => true | some a => decide (a ≤ i)
def hiB (hi : Option Int) (i : Int) : Bool := match hi with | none => true | some a => decide (i ≤ a)
theorem lo_e {cf : Nat → List PV → List PV → CR} {s : List Sl} {i : Int} {e a : Ex} {lo : Option Int} (ha : ev gv cf a s m = .ok (oi lo) s m) (he : ev gv cf e s m = .ok (.int i) s m) : evt gv cf (.any (.cons (.v (.isn false a)) (.cons (.v (.cmp .ge e a)) .nil))) s m = .ok (loB lo i) s m := by
  cases lo with
  | none => exact t_anyt (t_v' (e_iny ha))
  | some x =>
    have h := t_anyf (t_v' (e_inf ha rfl)) (t_any' (y := false) (t_v' (e_cmp (o := .ge) he ha rfl)) (fun _ => t_anynil))
    rw [Bool.or_false] at h
    exact h
theorem hi_e {cf : Nat → List PV → List PV → CR} {s : List Sl} {i : Int} {e a : Ex} {hi : Option Int} (ha : ev gv cf a s m = .ok (oi hi) s m) (he : ev gv cf e s m = .ok (.int i) s m) : evt gv cf (.any (.cons (.v (.isn false a)) (.cons (.v (.cmp .le e a)) .nil))) s m = .ok (hiB hi i) s m := by
  cases hi with
  | none => exact t_anyt (t_v' (e_iny ha))
  | some x =>
    have h := t_anyf (t_v' (e_inf ha rfl)) (t_any' (y := false) (t_v' (e_cmp (o := .le) he ha rfl)) (fun _ => t_anynil))
    rw [Bool.or_false] at h
    exact h
def inB (lo hi : Option Int) : PV → Bool
  | .int i => (loB lo i && (hiB hi i && true)) && true
  | _ => false
def R25 : List PV := (List.range 25).map fun (i : Nat) => PV.int (-12 + (i : Int))
theorem rng25 : RA.rng (-12) 13 = some R25 := by unfold RA.rng; rw [if_pos (by decide)]; rfl
theorem ints_val {lo hi : Option Int} {x : PV} (h : x ∈ (R25.filter (inB lo hi)).map id) : ValP (.int lo hi) x := by
  rw [List.map_id] at h
  obtain ⟨h1, h2⟩ := List.mem_filter.1 h
  obtain ⟨i, hi', rfl⟩ := List.mem_map.1 h1
  have hir := List.mem_range.1 hi'
  have h3 : ((loB lo (-12 + (i : Int)) && (hiB hi (-12 + (i : Int)) && true)) && true) = true := h2
  simp only [Bool.and_true, Bool.and_eq_true] at h3
  refine .int lo hi _ ?_ (fun a ha => ?_) (fun a ha => ?_)
  · have : (-12 + (i : Int)).natAbs < 100 := by omega
    exact Nat.lt_trans this (by decide)
  · subst ha; exact of_decide_eq_true h3.1
  · subst ha; exact of_decide_eq_true h3.2
/-! ### lots -/
def addT : PV → PV → PV
  | .tup vs, o => .tup (vs ++ [o])
  | _, _ => .non
def cross (ly ts : List PV) : List PV := (ly.map fun r => ts.map (addT r)).flatten
theorem pLsts_map {α : Type} (f : α → List PV) : ∀ l : List α, pLsts (l.map fun x => PV.lst (f x)) = some (l.map f)
  | [] => rfl
  | x :: l => by show (pLsts (l.map fun x => PV.lst (f x))).map _ = _; rw [pLsts_map f l]; rfl
theorem flat_len {α : Type} {f : α → List PV} {k : Nat} {l : List α} (h : ∀ x ∈ l, (f x).length ≤ k) : ((l.map f).flatten).length ≤ l.length * k := by
  rw [List.length_flatten, List.map_map]
  exact sum_le (fun x => (f x).length) k l h
theorem sum2_t {α : Type} {f : α → List PV} {k : Nat} {l : List α} (h : ∀ x ∈ l, (f x).length ≤ k) (hk : l.length * k ≤ 1000000) : bi .sum2 [.lst (l.map fun x => PV.lst (f x)), .lst []] = some (.lst (l.map f).flatten) := by
  show (pLsts _).bind _ = _
  rw [pLsts_map]
  have := flat_len h
  show (if (l.map f).flatten.length ≤ SZ then some (PV.lst (l.map f).flatten) else none) = _
  rw [if_pos (by show _ ≤ (16777216 : Nat); omega)]
theorem cross_mem {ly ts : List PV} {x : PV} (h : x ∈ cross ly ts) : ∃ r ∈ ly, ∃ o ∈ ts, x = addT r o := by
  obtain ⟨l, hl, hx⟩ := List.mem_flatten.1 h
  obtain ⟨r, hr, rfl⟩ := List.mem_map.1 hl
  obtain ⟨o, ho, rfl⟩ := List.mem_map.1 hx
  exact ⟨r, hr, o, ho, rfl⟩
def Ly (cap k : Nat) (ts ly : List PV) : Prop := ly.length ≤ cap ∧ ∀ x ∈ ly, ∃ vs, x = .tup vs ∧ vs.length = k ∧ ∀ v ∈ vs, v ∈ ts
def Fd (cap a k : Nat) (ts fd : List PV) : Prop := fd.length ≤ k * cap ∧ ∀ x ∈ fd, ∃ vs, x = .tup vs ∧ a ≤ vs.length ∧ vs.length + 1 ≤ k ∧ ∀ v ∈ vs, v ∈ ts
def bLots : Sms := (.cons (.ift (.v (.cmp .ge (.loc 6) (.loc 1))) (.cons (.asg 4 (.op .add (.loc 4) (.loc 5))) .nil) .nil) (.cons (.asg 5 (.sli (.bi .sum2 (.cons (.lc [7] (.lc [8] (.op .add (.loc 7) (.tup (.cons (.loc 8) .nil))) (.nm 8) (.val (.loc 0)) .nil) (.nm 7) (.val (.loc 5)) .nil) (.cons (.lst .nil) .nil))) .no (.so (.loc 3)))) .nil))
theorem lots_loop {cf : Nat → List PV → List PV → CR} {ts : List PV} {a cap : Nat} {mo : PV} (hts : ts.length ≤ 50) (hcap : cap ≤ 50) : ∀ (r k : Nat) (ly fd : List PV) (y : Sl), k + r ≤ 4 → Ly cap k ts ly → Fd cap a k ts fd →
    ∃ fd' s5 y', forL (fun x s m => (lift (asg (.nm 6) x s) s m).bnd fun s' _ m => xss gv cf bLots s' m) ((List.range' k r).map fun i => PV.int ((i : Nat) : Int)) [.va (.lst ts), .va (.int (a : Int)), .va mo, .va (.int (cap : Int)), .va (.lst fd), .va (.lst ly), y, .un, .un] m
      = .ok .nx [.va (.lst ts), .va (.int (a : Int)), .va mo, .va (.int (cap : Int)), .va (.lst fd'), s5, y', .un, .un] m ∧ Fd cap a (k + r) ts fd'
  | 0, k, ly, fd, y, _, _, hfd => ⟨fd, _, y, rfl, hfd⟩
  | r + 1, k, ly, fd, y, hk, hly, hfd => by
    have hmem : ∀ x ∈ ly, ∃ vs, x = PV.tup vs ∧ vs.length = k := fun x hx => by obtain ⟨vs, h1, h2, _⟩ := hly.2 x hx; exact ⟨vs, h1, h2⟩
    have hl1 := hly.1
    have hnew : Ly cap (k + 1) ts (RA.cut (cross ly ts) none (some (cap : Int))) := by
      refine ⟨cut_le _ _, fun x hx => ?_⟩
      obtain ⟨r, hr, o, ho, rfl⟩ := cross_mem (cut_mem hx)
      obtain ⟨vs, rfl, h2, h3⟩ := hly.2 r hr
      refine ⟨vs ++ [o], rfl, by rw [List.length_append, h2, List.length_singleton], fun v hv => ?_⟩
      rcases List.mem_append.1 hv with hv | hv
      · exact h3 v hv
      · rw [List.mem_singleton.1 hv]; exact ho
    have hkc : k * cap ≤ 4 * 50 := Nat.mul_le_mul (by omega) hcap
    have hf1 := hfd.1
    -- the new layer
    have ein : ∀ {f4 y6 : Sl} (x : PV), x ∈ ly → ev gv cf (.lc [8] (.op .add (.loc 7) (.tup (.cons (.loc 8) .nil))) (.nm 8) (.val (.loc 0)) .nil) [.va (.lst ts), .va (.int (a : Int)), .va mo, .va (.int (cap : Int)), f4, .va (.lst ly), y6, .va x, .un] m = .ok (.lst (ts.map (addT x))) [.va (.lst ts), .va (.int (a : Int)), .va mo, .va (.int (cap : Int)), f4, .va (.lst ly), y6, .va x, .un] m := by
      intro f4 y6 x hx
      obtain ⟨vs, rfl, h2⟩ := hmem x hx
      exact e_lcp (s1 := [.va (.lst ts), .va (.int (a : Int)), .va mo, .va (.int (cap : Int)), f4, .va (.lst ly), y6, .va (.tup vs), .un]) (l := ts) (f := addT (.tup vs)) (fun o => [.va (.lst ts), .va (.int (a : Int)), .va mo, .va (.int (cap : Int)), f4, .va (.lst ly), y6, .va (.tup vs), .va o]) (i_val' (x := .lst ts) (e_loc rfl) rfl) (ble_of (by omega)) (fun x hx => rfl) (fun o ho => by
        have ha : op2 .add (.tup vs) (.tup [o]) = some (.tup (vs ++ [o])) := by
          show (if vs.length + 1 ≤ SZ then some (PV.tup (vs ++ [o])) else none) = _
          rw [if_pos (by show _ ≤ (16777216 : Nat); omega)]
        exact e_op (e_loc rfl) (e_tup (l_cons (e_loc rfl) l_nil)) ha) (fun x hx => rfl)
    have eout : ∀ {f4 y6 : Sl}, ev gv cf (.lc [7] (.lc [8] (.op .add (.loc 7) (.tup (.cons (.loc 8) .nil))) (.nm 8) (.val (.loc 0)) .nil) (.nm 7) (.val (.loc 5)) .nil) [.va (.lst ts), .va (.int (a : Int)), .va mo, .va (.int (cap : Int)), f4, .va (.lst ly), y6, .un, .un] m = .ok (.lst (ly.map fun x => .lst (ts.map (addT x)))) [.va (.lst ts), .va (.int (a : Int)), .va mo, .va (.int (cap : Int)), f4, .va (.lst ly), y6, .un, .un] m := by
      intro f4 y6
      exact e_lcp (s1 := [.va (.lst ts), .va (.int (a : Int)), .va mo, .va (.int (cap : Int)), f4, .va (.lst ly), y6, .un, .un]) (l := ly) (f := fun x => .lst (ts.map (addT x))) (fun o => [.va (.lst ts), .va (.int (a : Int)), .va mo, .va (.int (cap : Int)), f4, .va (.lst ly), y6, .va o, .un]) (i_val' (x := .lst ly) (e_loc rfl) rfl) (ble_of (by omega)) (fun x hx => rfl) (fun x hx => ein x hx) (fun x hx => rfl)
    have hmul : ly.length * ts.length ≤ 50 * 50 := Nat.mul_le_mul (by omega) hts
    have hs2 : bi .sum2 [.lst (ly.map fun x => .lst (ts.map (addT x))), .lst []] = some (.lst (cross ly ts)) := sum2_t (k := ts.length) (fun x _ => by rw [List.length_map]; exact Nat.le_refl _) (by omega)
    have hcut : sliP (.lst (cross ly ts)) none (some (cap : Int)) = some (.lst (RA.cut (cross ly ts) none (some (cap : Int)))) := rfl
    have hadd : op2 .add (.lst fd) (.lst ly) = some (.lst (fd ++ ly)) := by
      show (if fd.length + ly.length ≤ SZ then some (PV.lst (fd ++ ly)) else none) = _
      rw [if_pos (by show _ ≤ (16777216 : Nat); omega)]
    by_cases hge : a ≤ k
    · have hfd' : Fd cap a (k + 1) ts (fd ++ ly) := by
        refine ⟨by rw [List.length_append, Nat.succ_mul]; omega, fun x hx => ?_⟩
        rcases List.mem_append.1 hx with hx | hx
        · obtain ⟨vs, h1, h2, h3, h4⟩ := hfd.2 x hx
          exact ⟨vs, h1, h2, by omega, h4⟩
        · obtain ⟨vs, h1, h2, h3⟩ := hly.2 x hx
          exact ⟨vs, h1, by omega, by omega, h3⟩
      obtain ⟨fd', s5, y', h1, h2⟩ := lots_loop (cf := cf) (a := a) (mo := mo) hts hcap r (k + 1) _ _ (.va (.int ((k : Nat) : Int))) (by omega) hnew hfd'
      refine ⟨fd', s5, y', ?_, by rw [show k + (r + 1) = k + 1 + r by omega]; exact h2⟩
      show forL _ (PV.int ((k : Nat) : Int) :: ((List.range' (k + 1) r).map fun i => PV.int ((i : Nat) : Int))) _ _ = _
      refine fl_nx (s1 := [.va (.lst ts), .va (.int (a : Int)), .va mo, .va (.int (cap : Int)), .va (.lst (fd ++ ly)), .va (.lst (RA.cut (cross ly ts) none (some (cap : Int)))), .va (.int ((k : Nat) : Int)), .un, .un]) (m1 := m) ?_ h1
      show xss gv cf bLots [.va (.lst ts), .va (.int (a : Int)), .va mo, .va (.int (cap : Int)), .va (.lst fd), .va (.lst ly), .va (.int ((k : Nat) : Int)), .un, .un] m = _
      exact b_nx (x_ift (t_v' (e_cmp (e_loc rfl) (e_loc rfl) (ge_t (by omega)))) (b_nx (x_asg (e_op (e_loc rfl) (e_loc rfl) hadd)) b_nil)) (b_nx (x_asg (e_sli (e_bi (l_cons eout (l_cons (e_lst l_nil) l_nil)) hs2) o_no (o_so (e_loc rfl)) hcut)) b_nil)
    · have hfd' : Fd cap a (k + 1) ts fd := by
        refine ⟨by rw [Nat.succ_mul]; omega, fun x hx => ?_⟩
        obtain ⟨vs, h1, h2, h3, h4⟩ := hfd.2 x hx
        exact ⟨vs, h1, h2, by omega, h4⟩
      obtain ⟨fd', s5, y', h1, h2⟩ := lots_loop (cf := cf) (a := a) (mo := mo) hts hcap r (k + 1) _ _ (.va (.int ((k : Nat) : Int))) (by omega) hnew hfd'
      refine ⟨fd', s5, y', ?_, by rw [show k + (r + 1) = k + 1 + r by omega]; exact h2⟩
      show forL _ (PV.int ((k : Nat) : Int) :: ((List.range' (k + 1) r).map fun i => PV.int ((i : Nat) : Int))) _ _ = _
      refine fl_nx (s1 := [.va (.lst ts), .va (.int (a : Int)), .va mo, .va (.int (cap : Int)), .va (.lst fd), .va (.lst (RA.cut (cross ly ts) none (some (cap : Int)))), .va (.int ((k : Nat) : Int)), .un, .un]) (m1 := m) ?_ h1
      show xss gv cf bLots [.va (.lst ts), .va (.int (a : Int)), .va mo, .va (.int (cap : Int)), .va (.lst fd), .va (.lst ly), .va (.int ((k : Nat) : Int)), .un, .un] m = _
      exact b_nx (x_iff (t_v' (e_cmp (e_loc rfl) (e_loc rfl) (ge_f (by omega)))) b_nil) (b_nx (x_asg (e_sli (e_bi (l_cons eout (l_cons (e_lst l_nil) l_nil)) hs2) o_no (o_so (e_loc rfl)) hcut)) b_nil)
def topL (b : Option Nat) : Nat := min 3 (b.getD 3)
theorem rng_nat {k : Nat} (h : k ≤ 1000) : RA.rng 0 (k : Int) = some ((List.range' 0 k).map fun i => PV.int ((i : Nat) : Int)) := by
  unfold RA.rng
  rw [if_pos (by show _ ≤ (16777216 : Nat) ∧ _; omega), Int.sub_zero, Int.toNat_natCast, List.range_eq_range']
  congr 1
  apply List.map_congr_left
  intro i _
  show PV.int (0 + (i : Int)) = .int (i : Int)
  rw [Int.zero_add]
end
end RA.St

/-! The listed values are values. -/
namespace RA.St
open PySem
theorem strs_of {le : List Nat} : ∀ vs : List PV, (∀ v ∈ vs, v ∈ le.map fun c => PV.str [c]) → ∃ y : List Nat, vs = y.map (fun c => PV.str [c]) ∧ ∀ c ∈ y, c ∈ le
  | [], _ => ⟨[], rfl, fun c hc => (List.not_mem_nil hc).elim⟩
  | v :: vs, h => by
    obtain ⟨c, hc, rfl⟩ := List.mem_map.1 (h v (List.mem_cons_self ..))
    obtain ⟨y, rfl, hy⟩ := strs_of vs fun w hw => h w (List.mem_cons_of_mem _ hw)
    exact ⟨c :: y, rfl, fun d hd => (List.mem_cons.1 hd).elim (fun e => e ▸ hc) (hy d)⟩
theorem joinT_t {y : List Nat} (h : y.length ≤ 1000) : mt .join (.str []) [.tup (y.map fun c => PV.str [c])] = some (.str y) := by
  show (pStrs _).bind _ = _
  rw [pStrs_map]
  show (if ((y.map fun c => [c]).map List.length).sum + (y.map fun c => [c]).length * 0 ≤ SZ then some (PV.str (joinS [] (y.map fun c => [c]))) else none) = _
  rw [if_pos, joinS_nil, flat_one]
  have := sum_le (fun c : Nat => 1) 1 y fun _ _ => Nat.le_refl _
  rw [List.map_map, Nat.mul_zero]
  show (y.map fun c => 1).sum + 0 ≤ 16777216
  omega
theorem enum_mem : ∀ {l : List PV} {j : Nat} {x : PV}, x ∈ enum j l → ∃ (i : Nat) (u : PV), l[i]? = some u ∧ x = .tup [.int ((j + i : Nat) : Int), u]
  | [], j, x, h => by simp [enum] at h
  | u :: l, j, x, h => by
    rcases List.mem_cons.1 h with rfl | h
    · exact ⟨0, u, rfl, rfl⟩
    · obtain ⟨i, v, h1, h2⟩ := enum_mem h
      exact ⟨i + 1, v, h1, by rw [h2, show j + 1 + i = j + (i + 1) by omega]⟩
theorem enum_len : ∀ (l : List PV) (j : Nat), (enum j l).length = l.length
  | [], _ => rfl
  | u :: l, j => by show (enum (j + 1) l).length + 1 = _; rw [enum_len l]; rfl
section
variable {m : List PV}
/-- the list of a sort's values is got, so many at most -/
def ValsAt (k cap : Nat) (m : List PV) (s : S) (vs : List PV) : Prop := vs.length ≤ cap ∧ (∀ v ∈ vs, ValP s v) ∧ callN gv F3 k 46 [sv s, .int (cap : Int)] m = .ok (.lst vs) m
def Rw (cap : Nat) (pre : List S) (fd : List PV) : Prop := fd.length ≤ cap ∧ ∀ x ∈ fd, ∃ vs, x = PV.tup vs ∧ vs.length = pre.length ∧ ∀ (j : Nat) (s : S) (v : PV), pre[j]? = some s → vs[j]? = some v → ValP s v
def bRows : Sms := (.cons (.asg 4 (.call 46 (.cons (.loc 3) (.cons (.loc 1) .nil)))) (.cons (.asg 2 (.sli (.bi .sum2 (.cons (.lc [5] (.lc [6] (.op .add (.loc 5) (.tup (.cons (.loc 6) .nil))) (.nm 6) (.val (.loc 4)) .nil) (.nm 5) (.val (.loc 2)) .nil) (.cons (.lst .nil) .nil))) .no (.so (.loc 1)))) .nil))
theorem rows_loop {n cap : Nat} {so : PV} (hcap : cap ≤ 50) : ∀ (l pre : List S) (fd : List PV) (y3 y4 : Sl), (∀ s ∈ l, ∃ vs, ValsAt n cap m s vs) → pre.length + l.length ≤ 100 → Rw cap pre fd →
    ∃ fd' z3 z4, forL (fun x s m => (lift (asg (.nm 3) x s) s m).bnd fun s' _ m => xss gv (callN gv F3 n) bRows s' m) (svs l) [.va so, .va (.int (cap : Int)), .va (.lst fd), y3, y4, .un, .un, .un] m
      = .ok .nx [.va so, .va (.int (cap : Int)), .va (.lst fd'), z3, z4, .un, .un, .un] m ∧ Rw cap (pre ++ l) fd'
  | [], pre, fd, y3, y4, _, _, hfd => ⟨fd, y3, y4, rfl, by rw [List.append_nil]; exact hfd⟩
  | s :: l, pre, fd, y3, y4, hs, hpl, hfd => by
    obtain ⟨ts, hts1, hts2, hts3⟩ := hs s (List.mem_cons_self ..)
    have hmem : ∀ x ∈ fd, ∃ vs, x = PV.tup vs ∧ vs.length = pre.length := fun x hx => by obtain ⟨vs, h1, h2, _⟩ := hfd.2 x hx; exact ⟨vs, h1, h2⟩
    have hl1 := hfd.1
    have hnew : Rw cap (pre ++ [s]) (RA.cut (cross fd ts) none (some (cap : Int))) := by
      refine ⟨cut_le _ _, fun x hx => ?_⟩
      obtain ⟨r, hr, o, ho, rfl⟩ := cross_mem (cut_mem hx)
      obtain ⟨vs, rfl, h2, h3⟩ := hfd.2 r hr
      refine ⟨vs ++ [o], rfl, by rw [List.length_append, List.length_append, h2, List.length_singleton, List.length_singleton], fun j s' v h4 h5 => ?_⟩
      by_cases hj : j < pre.length
      · rw [List.getElem?_append_left hj] at h4
        rw [List.getElem?_append_left (by omega)] at h5
        exact h3 j s' v h4 h5
      · rw [List.getElem?_append_right (by omega)] at h4
        rw [List.getElem?_append_right (by omega)] at h5
        rw [h2] at h5
        have hj0 : j - pre.length = 0 := by
          rcases Nat.eq_zero_or_pos (j - pre.length) with h | h
          · exact h
          · rw [List.getElem?_eq_none (by rw [List.length_singleton]; omega)] at h4; cases h4
        rw [hj0] at h4 h5
        cases h4
        cases h5
        exact hts2 o ho
    have ein : ∀ (x : PV), x ∈ fd → ev gv (callN gv F3 n) (.lc [6] (.op .add (.loc 5) (.tup (.cons (.loc 6) .nil))) (.nm 6) (.val (.loc 4)) .nil) [.va so, .va (.int (cap : Int)), .va (.lst fd), .va (sv s), .va (.lst ts), .va x, .un, .un] m = .ok (.lst (ts.map (addT x))) [.va so, .va (.int (cap : Int)), .va (.lst fd), .va (sv s), .va (.lst ts), .va x, .un, .un] m := by
      intro x hx
      obtain ⟨vs, rfl, h2⟩ := hmem x hx
      exact e_lcp (s1 := [.va so, .va (.int (cap : Int)), .va (.lst fd), .va (sv s), .va (.lst ts), .va (.tup vs), .un, .un]) (l := ts) (f := addT (.tup vs)) (fun o => [.va so, .va (.int (cap : Int)), .va (.lst fd), .va (sv s), .va (.lst ts), .va (.tup vs), .va o, .un]) (i_val' (x := .lst ts) (e_loc rfl) rfl) (ble_of (by omega)) (fun x hx => rfl) (fun o ho => by
        have ha : op2 .add (.tup vs) (.tup [o]) = some (.tup (vs ++ [o])) := by
          show (if vs.length + 1 ≤ SZ then some (PV.tup (vs ++ [o])) else none) = _
          rw [if_pos (by show _ ≤ (16777216 : Nat); omega)]
        exact e_op (e_loc rfl) (e_tup (l_cons (e_loc rfl) l_nil)) ha) (fun x hx => rfl)
    have eout : ev gv (callN gv F3 n) (.lc [5] (.lc [6] (.op .add (.loc 5) (.tup (.cons (.loc 6) .nil))) (.nm 6) (.val (.loc 4)) .nil) (.nm 5) (.val (.loc 2)) .nil) [.va so, .va (.int (cap : Int)), .va (.lst fd), .va (sv s), .va (.lst ts), .un, .un, .un] m = .ok (.lst (fd.map fun x => .lst (ts.map (addT x)))) [.va so, .va (.int (cap : Int)), .va (.lst fd), .va (sv s), .va (.lst ts), .un, .un, .un] m :=
      e_lcp (s1 := [.va so, .va (.int (cap : Int)), .va (.lst fd), .va (sv s), .va (.lst ts), .un, .un, .un]) (l := fd) (f := fun x => .lst (ts.map (addT x))) (fun o => [.va so, .va (.int (cap : Int)), .va (.lst fd), .va (sv s), .va (.lst ts), .va o, .un, .un]) (i_val' (x := .lst fd) (e_loc rfl) rfl) (ble_of (by omega)) (fun x hx => rfl) (fun x hx => ein x hx) (fun x hx => rfl)
    have hmul : fd.length * ts.length ≤ 50 * 50 := Nat.mul_le_mul (by omega) (by omega)
    have hs2 : bi .sum2 [.lst (fd.map fun x => .lst (ts.map (addT x))), .lst []] = some (.lst (cross fd ts)) := sum2_t (k := ts.length) (fun x _ => by rw [List.length_map]; exact Nat.le_refl _) (by omega)
    have hcut : sliP (.lst (cross fd ts)) none (some (cap : Int)) = some (.lst (RA.cut (cross fd ts) none (some (cap : Int)))) := rfl
    rw [List.length_cons] at hpl
    obtain ⟨fd', z3, z4, h1, h2⟩ := rows_loop (n := n) (so := so) hcap l (pre ++ [s]) _ (.va (sv s)) (.va (.lst ts)) (fun s' hs' => hs s' (List.mem_cons_of_mem _ hs')) (by rw [List.length_append, List.length_singleton]; omega) hnew
    refine ⟨fd', z3, z4, ?_, by have e : pre ++ (s :: l) = pre ++ [s] ++ l := by simp
                                rw [e]; exact h2⟩
    show forL _ (sv s :: svs l) _ _ = _
    refine fl_nx (s1 := [.va so, .va (.int (cap : Int)), .va (.lst (RA.cut (cross fd ts) none (some (cap : Int)))), .va (sv s), .va (.lst ts), .un, .un, .un]) (m1 := m) ?_ h1
    show xss gv (callN gv F3 n) bRows [.va so, .va (.int (cap : Int)), .va (.lst fd), .va (sv s), y4, .un, .un, .un] m = _
    exact b_nx (x_asg (e_call (l_cons (e_loc rfl) (l_cons (e_loc rfl) l_nil)) hts3)) (b_nx (x_asg (e_sli (e_bi (l_cons eout (l_cons (e_lst l_nil) l_nil)) hs2) o_no (o_so (e_loc rfl)) hcut)) b_nil)
theorem rng_len {k : Nat} : ((List.range' 0 k).map fun i => PV.int ((i : Nat) : Int)).length = k := by rw [List.length_map, List.length_range']
end
end RA.St

/-! Drawn sorts and texts. -/
namespace RA.St
open PySem
theorem D3 : DrawAt F3 34 35 36 37 38 := ⟨rfl, rfl, rfl, rfl, rfl⟩
/-- the state while it is drawn -/
def DI (ns : List Int) (m : List PV) : Prop := ∃ q : Nat, m = [.lst [.lst (ns.map .int), .int 0, .int (q : Int)]]
section
variable {ns : List Int}
theorem dn (n : Nat) {b : Int} (hb : 0 < b) {m : List PV} (hm : DI ns m) : ∃ (r : Int) (m' : List PV), DI ns m' ∧ 0 ≤ r ∧ r < b ∧ callN gv F3 (n + 3) 37 [.ref 0, .int b] m = .ok (.int r) m' := by
  obtain ⟨q, rfl⟩ := hm
  obtain ⟨r, r0, r1, h⟩ := draw_next (G := gv) D3 n ns q b hb [.lst [.lst (ns.map .int), .int 0, .int (q : Int)]] 0 rfl
  exact ⟨r, _, ⟨q + 1, rfl⟩, r0, r1, h⟩
theorem dp (n : Nat) {l : List PV} (hl : 0 < l.length) {m : List PV} (hm : DI ns m) : ∃ (p : PV) (m' : List PV), p ∈ l ∧ DI ns m' ∧ callN gv F3 (n + 4) 38 [.ref 0, .lst l] m = .ok p m' := by
  obtain ⟨r, m', hm', r0, r1, hr⟩ := dn n (b := (l.length : Int)) (by omega) hm
  have hlt : r.toNat < l.length := by omega
  refine ⟨l[r.toNat], m', List.getElem_mem hlt, hm', ?_⟩
  have hi : idxP (.lst l) (.int r) = some l[r.toNat] := by
    show (pIx l.length r).bind _ = _
    rw [pIx_at r0 r1]
    show l[r.toNat]? = _
    rw [List.getElem?_eq_getElem hlt]
  have hln : bi .len [.lst l] = some (.int (l.length : Int)) := rfl
  apply c_rt (fn := f__law_pick.fn) rfl rfl
  apply b_rt
  exact x_ret (e_idx (e_loc rfl) (e_call (l_cons (e_loc rfl) (l_cons (e_bi (l_cons (e_loc rfl) l_nil) hln) l_nil)) hr) rfl hi)
def intL : List PV := [.tup [.int 0, .non], .tup [.non, .non], .tup [.int 0, .int 3], .tup [.int (-2), .int 5], .tup [.int 5, .int 12], .tup [.int 0, .int 1], .tup [.non, .int 2], .tup [.int (-4), .int (-1)]]
theorem intL_mem {p : PV} (h : p ∈ intL) : ∃ lo hi, p = .tup [oi lo, oi hi] := by
  simp only [intL, List.mem_cons, List.not_mem_nil, or_false] at h
  rcases h with rfl | rfl | rfl | rfl | rfl | rfl | rfl | rfl
  · exact ⟨some 0, none, rfl⟩
  · exact ⟨none, none, rfl⟩
  · exact ⟨some 0, some 3, rfl⟩
  · exact ⟨some (-2), some 5, rfl⟩
  · exact ⟨some 5, some 12, rfl⟩
  · exact ⟨some 0, some 1, rfl⟩
  · exact ⟨none, some 2, rfl⟩
  · exact ⟨some (-4), some (-1), rfl⟩
def worL : List PV := [.str [97, 98], .str [48, 97], .str [45, 101], .str [98], .str [32, 44]]
theorem worP_of {le : List Nat} (h1 : le.length ≤ 2) (h2 : rising le = true) (h3 : le.all (fun c => SGN.contains c) = true) : WorP le := ⟨h1, h2, fun c hc => List.all_eq_true.1 h3 c hc⟩
theorem worL_mem {p : PV} (h : p ∈ worL) : ∃ le, p = .str le ∧ WorP le := by
  simp only [worL, List.mem_cons, List.not_mem_nil, or_false] at h
  rcases h with rfl | rfl | rfl | rfl | rfl <;> exact ⟨_, rfl, worP_of (by decide) (by decide) (by decide +kernel)⟩
theorem mostL_mem {a : Nat} (ha : a ≤ 1) {p : PV} (h : p ∈ [PV.non, .int 2, .int (a : Int)]) : ∃ b, p = on b ∧ SizP a b := by
  simp only [List.mem_cons, List.not_mem_nil, or_false] at h
  rcases h with rfl | rfl | rfl
  · exact ⟨none, rfl, ha, .inl rfl⟩
  · exact ⟨some 2, rfl, ha, .inr (.inl rfl)⟩
  · exact ⟨some a, rfl, ha, .inr (.inr rfl)⟩
/-- the draws of a comprehension, place by place -/
theorem lc_drawP {g : PV → List Sl → List PV → Res (Option PV)} {s : List Sl} {I : List PV → Prop} {P : PV → PV → Prop} : ∀ (l : List PV) (m : List PV), I m → (∀ x ∈ l, ∀ m, I m → ∃ y m', g x s m = .ok (some y) s m' ∧ I m' ∧ P x y) → ∃ ys m', lcL g l s m = .ok ys s m' ∧ I m' ∧ ys.length = l.length ∧ ∀ (j : Nat) (x y : PV), l[j]? = some x → ys[j]? = some y → P x y
  | [], m, hm, _ => ⟨[], m, rfl, hm, rfl, fun j x y h => by cases h⟩
  | x :: l, m, hm, h => by
    obtain ⟨y, m1, hy, hm1, hP⟩ := h x (List.mem_cons_self ..) m hm
    obtain ⟨ys, m2, hys, hm2, hl, hPs⟩ := lc_drawP l m1 hm1 fun z hz => h z (List.mem_cons_of_mem _ hz)
    refine ⟨y :: ys, m2, ?_, hm2, by rw [List.length_cons, List.length_cons, hl], ?_⟩
    · show (g x s m).bnd _ = _
      rw [hy]
      show (lcL g l s m1).bnd _ = _
      rw [hys]
      rfl
    · intro j u v hu hv
      cases j with
      | zero => cases hu; cases hv; exact hP
      | succ j => exact hPs j u v hu hv
theorem e_lcdP {G : List PV} {cf : Nat → List PV → List PV → CR} {s s1 : List Sl} {m m1 : List PV} {own : List Nat} {elt : Ex} {tg : Tg} {it : It} {l : List PV} {I : List PV → Prop} {P : PV → PV → Prop} (S : PV → List Sl) (hi : evi G cf it s m = .ok l s1 m1) (hI : I m1) (hz : Nat.ble l.length SZ = true)
    (ha : ∀ x ∈ l, asg tg x (wipe s1 own) = some (S x)) (he : ∀ x ∈ l, ∀ m, I m → ∃ y m', ev G cf elt (S x) m = .ok y (S x) m' ∧ I m' ∧ P x y) (hw : ∀ x ∈ l, wipe (S x) own = wipe s1 own) :
    ∃ ys m', ev G cf (.lc own elt tg it .nil) s m = .ok (.lst ys) (rest s1 (wipe s1 own) own) m' ∧ I m' ∧ ys.length = l.length ∧ ∀ (j : Nat) (x y : PV), l[j]? = some x → ys[j]? = some y → P x y := by
  obtain ⟨ys, m2, h1, h2, h3, h4⟩ := lc_drawP (s := wipe s1 own) (I := I) (P := P) (g := fun x s1 m => (lift (asg tg x s1) s1 m).bnd fun s2 _ m => (evall G cf .nil s2 m).bnd fun c s3 m => if c then (ev G cf elt s3 m).bnd fun y s4 m => .ok (some y) (wipe s4 own) m else .ok none (wipe s3 own) m) l m1 hI (by
    intro x hx m hm
    obtain ⟨y, m', h, hI', hP⟩ := he x hx m hm
    refine ⟨y, m', ?_, hI', hP⟩
    show (lift (asg tg x (wipe s1 own)) (wipe s1 own) m).bnd _ = _
    rw [ha x hx]
    show (ev G cf elt (S x) m).bnd _ = _
    rw [h]
    show Res.ok (some y) (wipe (S x) own) m' = _
    rw [hw x hx])
  exact ⟨ys, m2, e_lc hi hz h1, h2, h3, h4⟩
theorem svs_of {Q : S → Prop} : ∀ {ys : List PV}, (∀ y ∈ ys, ∃ s, Q s ∧ y = sv s) → ∃ l, svs l = ys ∧ l.length = ys.length ∧ ∀ s ∈ l, Q s
  | [], _ => ⟨[], rfl, rfl, fun s hs => (List.not_mem_nil hs).elim⟩
  | y :: ys, h => by
    obtain ⟨s, hs, rfl⟩ := h y (List.mem_cons_self ..)
    obtain ⟨l, rfl, h2, h3⟩ := svs_of fun z hz => h z (List.mem_cons_of_mem _ hz)
    exact ⟨s :: l, rfl, by rw [List.length_cons, List.length_cons, h2], fun t ht => (List.mem_cons.1 ht).elim (fun e => e ▸ hs) (h3 t)⟩
theorem mem_at {l : List PV} {x : PV} (h : x ∈ l) : ∃ j : Nat, l[j]? = some x := by
  obtain ⟨j, hj, rfl⟩ := List.getElem_of_mem h
  exact ⟨j, List.getElem?_eq_getElem hj⟩
/-- what is drawn as a sort -/
def SortT (ns : List Int) (d : Nat) : Prop := ∀ (k : Nat) (m : List PV), d + 6 ≤ k → DI ns m → ∃ (s : S) (m' : List PV), DI ns m' ∧ SortP (d + 1) s ∧ callN gv F3 k 39 [.ref 0, .int (d : Int)] m = .ok (sv s) m'
theorem sort_low {n e : Nat} {dv : PV} {r : Int} {m : List PV} (h0 : 0 ≤ r) (h4 : r < 4) (hm : DI ns m) : ∃ (s : S) (m' : List PV), DI ns m' ∧ SortP (e + 1) s ∧ ∃ st, xss gv (callN gv F3 (n + 5)) (tlS b__law_sort) [.va (.ref 0), .va dv, .va (.int r), .un, .un, .un, .un] m = .ok (.rt (sv s)) st m' := by
  by_cases h2 : r < 2
  · obtain ⟨p, m', hp, hm', hc⟩ := dp (n + 1) (l := intL) (by decide) hm
    obtain ⟨lo, hi, rfl⟩ := intL_mem hp
    refine ⟨.int lo hi, m', hm', .int lo hi, ?_⟩
    apply Exists.intro
    apply b_rt
    exact x_ift (t_v' (e_cmp (e_loc rfl) e_int (lt_t h2))) (b_nx (x_ast (e_call (l_cons (e_loc rfl) (l_cons rfl l_nil)) hc) rfl) (b_rt (x_ret (e_tup (l_cons e_str (l_cons (e_loc rfl) (l_cons (e_loc rfl) l_nil)))))))
  · by_cases h3 : r = 2
    · obtain ⟨r1, m1, hm1, q0, q1, hc1⟩ := dn (n + 2) (b := 2) (by decide) hm
      obtain ⟨a, rfl⟩ : ∃ a : Nat, r1 = (a : Int) := ⟨r1.toNat, by omega⟩
      obtain ⟨p, m2, hp, hm2, hc2⟩ := dp (n + 1) (l := worL) (by decide) hm1
      obtain ⟨le, rfl, hle⟩ := worL_mem hp
      obtain ⟨p, m3, hp, hm3, hc3⟩ := dp (n + 1) (l := [PV.non, .int 2, .int (a : Int)]) (by show 0 < 3; decide) hm2
      obtain ⟨b, rfl, hb⟩ := mostL_mem (by omega) hp
      refine ⟨.wor le a b, m3, hm3, .wor le a b hle hb, ?_⟩
      apply Exists.intro
      apply b_nx (x_iff (t_v' (e_cmp (e_loc rfl) e_int (lt_f (by omega)))) b_nil)
      apply b_rt
      exact x_ift (t_v' (e_cmp (e_loc rfl) e_int (eq_t h3))) (b_nx (x_asg (e_call (l_cons (e_loc rfl) (l_cons e_int l_nil)) hc1)) (b_rt (x_ret (e_tup (l_cons e_str (l_cons (e_call (l_cons (e_loc rfl) (l_cons rfl l_nil)) hc2) (l_cons (e_loc rfl) (l_cons (e_call (l_cons (e_loc rfl) (l_cons (e_lst (l_cons e_non (l_cons e_int (l_cons (e_loc rfl) l_nil)))) l_nil)) hc3) l_nil))))))))
    · obtain ⟨r1, m1, hm1, q0, q1, hc1⟩ := dn (n + 2) (b := 3) (by decide) hm
      obtain ⟨a, rfl⟩ : ∃ a : Nat, r1 = (a : Int) := ⟨r1.toNat, by omega⟩
      have a0 : op2 .add (.int 1) (.int (a : Int)) = some (.int ((1 + a : Nat) : Int)) := by
        show some (PV.int _) = _
        congr 2
      refine ⟨.one (1 + a), m1, hm1, .one _ (by omega), ?_⟩
      apply Exists.intro
      apply b_nx (x_iff (t_v' (e_cmp (e_loc rfl) e_int (lt_f (by omega)))) b_nil)
      apply b_nx (x_iff (t_v' (e_cmp (e_loc rfl) e_int (eq_f h3))) b_nil)
      apply b_rt
      exact x_ift (t_v' (e_cmp (e_loc rfl) e_int (eq_t (by omega)))) (b_rt (x_ret (e_tup (l_cons e_str (l_cons (e_op e_int (e_call (l_cons (e_loc rfl) (l_cons e_int l_nil)) hc1) a0) l_nil)))))
theorem sort_zero : SortT ns 0 := by
  intro k m hk hm
  obtain ⟨n, rfl⟩ : ∃ n, k = n + 6 := ⟨k - 6, by omega⟩
  obtain ⟨r, m1, hm1, q0, q1, hc⟩ := dn (n + 2) (b := 4) (by decide) hm
  obtain ⟨s, m', hm', hs, st, h⟩ := sort_low (n := n) (e := 0) (dv := .int ((0 : Nat) : Int)) q0 q1 hm1
  refine ⟨s, m', hm', hs, ?_⟩
  apply c_rt (fn := f__law_sort.fn) rfl rfl
  apply b_nx (x_asg (e_call (l_cons (e_loc rfl) (l_cons (e_ift (t_v' (e_cmp (e_loc rfl) e_int (eq_t rfl))) e_int) l_nil)) hc))
  exact h
/-- the drawn parts of a sort -/
theorem sort_parts {n d : Nat} {m m1 : List PV} {it : It} {st : List Sl} {j : Nat} (ih : SortT ns d) (hn : d + 6 ≤ n) (hj : j ≤ 100) (h6 : st = [.va (.ref 0), .va (.int ((d + 1 : Nat) : Int)), st.getD 2 .un, .un, .un, .un, .un]) (hi : evi gv (callN gv F3 n) it st m = .ok ((List.range' 0 j).map fun i => PV.int ((i : Nat) : Int)) st m1) (hm1 : DI ns m1) :
    ∃ (l : List S) (m' : List PV), DI ns m' ∧ l.length = j ∧ (∀ s ∈ l, SortP (d + 1) s) ∧ ev gv (callN gv F3 n) (.bi .tuple (.cons (.lc [6] (.call 39 (.cons (.loc 0) (.cons (.op .sub (.loc 1) (.int 1)) .nil))) (.nm 6) it .nil) .nil)) st m = .ok (.tup (svs l)) st m' := by
  generalize st.getD 2 .un = z at h6
  subst h6
  obtain ⟨ys, m', h1, h2, h3, h4⟩ := e_lcdP (own := [6]) (tg := .nm 6) (elt := .call 39 (.cons (.loc 0) (.cons (.op .sub (.loc 1) (.int 1)) .nil))) (I := DI ns) (P := fun _ y => ∃ s, SortP (d + 1) s ∧ y = sv s) (fun x => [.va (.ref 0), .va (.int ((d + 1 : Nat) : Int)), z, .un, .un, .un, .va x]) hi hm1 (ble_of (by rw [rng_len]; omega)) (fun x hx => rfl) (fun x hx m hm => by
    obtain ⟨s, m', hm', hs, hc⟩ := ih n m hn hm
    exact ⟨sv s, m', e_call (l_cons (e_loc rfl) (l_cons (e_op (e_loc rfl) e_int subD) l_nil)) hc, hm', s, hs, rfl⟩) (fun x hx => rfl)
  rw [rng_len] at h3
  obtain ⟨l, rfl, l2, l3⟩ := svs_of (Q := SortP (d + 1)) (ys := ys) (fun y hy => by
    obtain ⟨i, hi'⟩ := mem_at hy
    have hlt : i < ys.length := by
      rcases Nat.lt_or_ge i ys.length with h' | h'
      · exact h'
      · rw [List.getElem?_eq_none h'] at hi'; cases hi'
    exact h4 i _ y (List.getElem?_eq_getElem (by rw [rng_len]; omega)) hi')
  exact ⟨l, m', h2, by omega, l3, e_bi (l_cons h1 l_nil) rfl⟩
theorem sort_succ {d : Nat} (ih : SortT ns d) : SortT ns (d + 1) := by
  intro k m hk hm
  obtain ⟨n, rfl⟩ : ∃ n, k = n + 7 := ⟨k - 7, by omega⟩
  obtain ⟨r, m1, hm1, q0, q1, hc⟩ := dn (n + 3) (b := 10) (by decide) hm
  have fin : ∃ (s : S) (m' : List PV), DI ns m' ∧ SortP (d + 2) s ∧ ∃ st, xss gv (callN gv F3 (n + 6)) (tlS b__law_sort) [.va (.ref 0), .va (.int ((d + 1 : Nat) : Int)), .va (.int r), .un, .un, .un, .un] m1 = .ok (.rt (sv s)) st m' := by
    by_cases h4 : r < 4
    · exact sort_low (n := n + 1) (e := d + 1) q0 h4 hm1
    by_cases e4 : r = 4
    · obtain ⟨s, m', hm', hs, hc⟩ := ih (n + 6) m1 (by omega) hm1
      refine ⟨.may s, m', hm', .may s hs, ?_⟩
      apply Exists.intro
      apply b_nx (x_iff (t_v' (e_cmp (e_loc rfl) e_int (lt_f (by omega)))) b_nil)
      apply b_nx (x_iff (t_v' (e_cmp (e_loc rfl) e_int (eq_f (by omega)))) b_nil)
      apply b_nx (x_iff (t_v' (e_cmp (e_loc rfl) e_int (eq_f (by omega)))) b_nil)
      apply b_rt
      exact x_ift (t_v' (e_cmp (e_loc rfl) e_int (eq_t e4))) (b_rt (x_ret (e_tup (l_cons e_str (l_cons (e_call (l_cons (e_loc rfl) (l_cons (e_op (e_loc rfl) e_int subD) l_nil)) hc) l_nil)))))
    by_cases e8 : r < 8
    · obtain ⟨w, m2, hm2, w0, w1, hc2⟩ := dn (n + 3) (b := 3) (by decide) hm1
      obtain ⟨j, rfl⟩ : ∃ a : Nat, w = (a : Int) := ⟨w.toNat, by omega⟩
      have hi : evi gv (callN gv F3 (n + 6)) (.rg1 (.call 37 (.cons (.loc 0) (.cons (.int 3) .nil)))) [.va (.ref 0), .va (.int ((d + 1 : Nat) : Int)), .va (.int r), .un, .un, .un, .un] m1 = .ok ((List.range' 0 j).map fun i => PV.int ((i : Nat) : Int)) [.va (.ref 0), .va (.int ((d + 1 : Nat) : Int)), .va (.int r), .un, .un, .un, .un] m2 :=
        i_rg1' (e_call (l_cons (e_loc rfl) (l_cons e_int l_nil)) hc2) (rng_nat (by omega))
      obtain ⟨l, m', hm', hl, hs, he⟩ := sort_parts ih (by omega) (by omega) rfl hi hm2
      refine ⟨.row l, m', hm', .row l (by omega) hs, ?_⟩
      apply Exists.intro
      apply b_nx (x_iff (t_v' (e_cmp (e_loc rfl) e_int (lt_f (by omega)))) b_nil)
      apply b_nx (x_iff (t_v' (e_cmp (e_loc rfl) e_int (eq_f (by omega)))) b_nil)
      apply b_nx (x_iff (t_v' (e_cmp (e_loc rfl) e_int (eq_f (by omega)))) b_nil)
      apply b_nx (x_iff (t_v' (e_cmp (e_loc rfl) e_int (eq_f (by omega)))) b_nil)
      apply b_rt
      exact x_ift (t_v' (e_cmp (e_loc rfl) e_int (lt_t e8))) (b_rt (x_ret (e_tup (l_cons e_str (l_cons he l_nil)))))
    by_cases e9 : r = 8
    · obtain ⟨r1, m2, hm2, q0, q1, hc1⟩ := dn (n + 3) (b := 2) (by decide) hm1
      obtain ⟨a, rfl⟩ : ∃ a : Nat, r1 = (a : Int) := ⟨r1.toNat, by omega⟩
      obtain ⟨s, m3, hm3, hs, hc2⟩ := ih (n + 6) m2 (by omega) hm2
      obtain ⟨p, m4, hp, hm4, hc3⟩ := dp (n + 2) (l := [PV.non, .int 2, .int (a : Int)]) (by show 0 < 3; decide) hm3
      obtain ⟨b, rfl, hb⟩ := mostL_mem (by omega) hp
      refine ⟨.man s a b, m4, hm4, .man s a b hs hb, ?_⟩
      apply Exists.intro
      apply b_nx (x_iff (t_v' (e_cmp (e_loc rfl) e_int (lt_f (by omega)))) b_nil)
      apply b_nx (x_iff (t_v' (e_cmp (e_loc rfl) e_int (eq_f (by omega)))) b_nil)
      apply b_nx (x_iff (t_v' (e_cmp (e_loc rfl) e_int (eq_f (by omega)))) b_nil)
      apply b_nx (x_iff (t_v' (e_cmp (e_loc rfl) e_int (eq_f (by omega)))) b_nil)
      apply b_nx (x_iff (t_v' (e_cmp (e_loc rfl) e_int (lt_f (by omega)))) b_nil)
      apply b_rt
      exact x_ift (t_v' (e_cmp (e_loc rfl) e_int (eq_t e9))) (b_nx (x_asg (e_call (l_cons (e_loc rfl) (l_cons e_int l_nil)) hc1)) (b_rt (x_ret (e_tup (l_cons e_str (l_cons (e_call (l_cons (e_loc rfl) (l_cons (e_op (e_loc rfl) e_int subD) l_nil)) hc2) (l_cons (e_loc rfl) (l_cons (e_call (l_cons (e_loc rfl) (l_cons (e_lst (l_cons e_non (l_cons e_int (l_cons (e_loc rfl) l_nil)))) l_nil)) hc3) l_nil))))))))
    · obtain ⟨w, m2, hm2, w0, w1, hc2⟩ := dn (n + 3) (b := 2) (by decide) hm1
      obtain ⟨j, rfl⟩ : ∃ a : Nat, w = (a : Int) := ⟨w.toNat, by omega⟩
      have a0 : op2 .add (.int 1) (.int (j : Int)) = some (.int ((1 + j : Nat) : Int)) := by
        show some (PV.int _) = _
        congr 2
      have hi : evi gv (callN gv F3 (n + 6)) (.rg1 (.op .add (.int 1) (.call 37 (.cons (.loc 0) (.cons (.int 2) .nil))))) [.va (.ref 0), .va (.int ((d + 1 : Nat) : Int)), .va (.int r), .un, .un, .un, .un] m1 = .ok ((List.range' 0 (1 + j)).map fun i => PV.int ((i : Nat) : Int)) [.va (.ref 0), .va (.int ((d + 1 : Nat) : Int)), .va (.int r), .un, .un, .un, .un] m2 :=
        i_rg1' (e_op e_int (e_call (l_cons (e_loc rfl) (l_cons e_int l_nil)) hc2) a0) (rng_nat (by omega))
      obtain ⟨l, m', hm', hl, hs, he⟩ := sort_parts ih (by omega) (by omega) rfl hi hm2
      refine ⟨.cas l, m', hm', .cas l (by omega) hs, ?_⟩
      apply Exists.intro
      apply b_nx (x_iff (t_v' (e_cmp (e_loc rfl) e_int (lt_f (by omega)))) b_nil)
      apply b_nx (x_iff (t_v' (e_cmp (e_loc rfl) e_int (eq_f (by omega)))) b_nil)
      apply b_nx (x_iff (t_v' (e_cmp (e_loc rfl) e_int (eq_f (by omega)))) b_nil)
      apply b_nx (x_iff (t_v' (e_cmp (e_loc rfl) e_int (eq_f (by omega)))) b_nil)
      apply b_nx (x_iff (t_v' (e_cmp (e_loc rfl) e_int (lt_f (by omega)))) b_nil)
      apply b_nx (x_iff (t_v' (e_cmp (e_loc rfl) e_int (eq_f (by omega)))) b_nil)
      apply b_rt
      exact x_ret (e_tup (l_cons e_str (l_cons he l_nil)))
  obtain ⟨s, m', hm', hs, st, h⟩ := fin
  refine ⟨s, m', hm', hs, ?_⟩
  apply c_rt (fn := f__law_sort.fn) rfl rfl
  apply b_nx (x_asg (e_call (l_cons (e_loc rfl) (l_cons (e_iff (t_v' (e_cmp (e_loc rfl) e_int (eq_f (by omega)))) e_int) l_nil)) hc))
  exact h
theorem sort_all : ∀ d, SortT ns d
  | 0 => sort_zero
  | d + 1 => sort_succ (sort_all d)
end
end RA.St

/-! Drawn texts and formats of integers. -/
namespace RA.St
open PySem
section
variable {ns : List Int} {G : List PV} {cf : Nat → List PV → List PV → CR} {s s1 s2 : List Sl} {m m1 m2 : List PV}
theorem t_last {t : Tt} {x : Bool} (ha : evt G cf t s m = .ok x s1 m1) : evt G cf (.all (.cons t .nil)) s m = .ok x s1 m1 := by
  show (evt G cf t s m).bnd _ = _
  rw [ha]
  show (if x then Res.ok true s1 m1 else .ok false s1 m1) = _
  cases x <;> rfl
theorem t_allG {t : Tt} {ts : Tts} {y : Bool} (ha : evt G cf t s m = .ok true s1 m1) (hb : evt G cf (.all ts) s1 m1 = .ok y s2 m2) : evt G cf (.all (.cons t ts)) s m = .ok y s2 m2 := by
  show (evt G cf t s m).bnd _ = _
  rw [ha]
  exact hb
theorem strs_all : ∀ {ys : List PV}, (∀ y ∈ ys, ∃ c, y = PV.str [c] ∧ SGN.contains c = true) → ∃ t : List Nat, ys = t.map (fun c => PV.str [c]) ∧ (t.all fun c => SGN.contains c) = true
  | [], _ => ⟨[], rfl, rfl⟩
  | y :: ys, h => by
    obtain ⟨c, rfl, hc⟩ := h y (List.mem_cons_self ..)
    obtain ⟨t, rfl, ht⟩ := strs_all fun z hz => h z (List.mem_cons_of_mem _ hz)
    exact ⟨c :: t, rfl, by rw [List.all_cons, hc, ht]; rfl⟩
theorem joinL_t {y : List Nat} (h : y.length ≤ 1000) : mt .join (.str []) [.lst (y.map fun c => PV.str [c])] = some (.str y) := by
  have := joinT_t h
  exact this
def txtL : List PV := [.str [97], .str [48], .str [44], .str [32], .str [45]]
theorem txtL_mem {p : PV} (h : p ∈ txtL) : ∃ c, p = .str [c] ∧ SGN.contains c = true := by
  simp only [txtL, List.mem_cons, List.not_mem_nil, or_false] at h
  rcases h with rfl | rfl | rfl | rfl | rfl <;> exact ⟨_, rfl, by decide +kernel⟩
theorem at_mem {l : List PV} {P : PV → Prop} {ys : List PV} (hl : ys.length = l.length) (h : ∀ (j : Nat) (x y : PV), l[j]? = some x → ys[j]? = some y → P y) : ∀ y ∈ ys, P y := by
  intro y hy
  obtain ⟨i, hi, rfl⟩ := List.getElem_of_mem hy
  exact h i (l[i]'(by omega)) ys[i] (List.getElem?_eq_getElem (by omega)) (List.getElem?_eq_getElem hi)
theorem text_t (n : Nat) {q : Nat} (hq : q ≤ 8) (hm : DI ns m) : ∃ (t : List Nat) (m' : List PV), DI ns m' ∧ Txt t q ∧ callN gv F3 (n + 5) 40 [.ref 0, .int (q : Int)] m = .ok (.str t) m' := by
  obtain ⟨w, m2, hm2, w0, w1, hc2⟩ := dn (n + 1) (b := (q : Int) + 1) (by omega) hm
  obtain ⟨j, rfl⟩ : ∃ a : Nat, w = (a : Int) := ⟨w.toNat, by omega⟩
  have hi : evi gv (callN gv F3 (n + 4)) (.rg1 (.call 37 (.cons (.loc 0) (.cons (.op .add (.loc 1) (.int 1)) .nil)))) [.va (.ref 0), .va (.int (q : Int)), .un] m = .ok ((List.range' 0 j).map fun i => PV.int ((i : Nat) : Int)) [.va (.ref 0), .va (.int (q : Int)), .un] m2 :=
    i_rg1' (e_call (l_cons (e_loc rfl) (l_cons (e_op (e_loc rfl) e_int rfl) l_nil)) hc2) (rng_nat (by omega))
  obtain ⟨ys, m', h1, h2, h3, h4⟩ := e_lcdP (own := [2]) (tg := .nm 2) (elt := .call 38 (.cons (.loc 0) (.cons (.lst (.cons (.str [97]) (.cons (.str [48]) (.cons (.str [44]) (.cons (.str [32]) (.cons (.str [45]) .nil)))))) .nil))) (I := DI ns) (P := fun _ y => ∃ c, y = PV.str [c] ∧ SGN.contains c = true) (fun x => [.va (.ref 0), .va (.int (q : Int)), .va x]) hi hm2 (ble_of (by rw [rng_len]; omega)) (fun x hx => rfl) (fun x hx m hm => by
    obtain ⟨p, m', hp, hm', hc⟩ := dp n (l := txtL) (by decide) hm
    exact ⟨p, m', e_call (l_cons (e_loc rfl) (l_cons rfl l_nil)) hc, hm', txtL_mem hp⟩) (fun x hx => rfl)
  obtain ⟨t, rfl, ht⟩ := strs_all (at_mem h3 h4)
  rw [rng_len, List.length_map] at h3
  refine ⟨t, m', h2, ⟨by omega, by omega, ht⟩, ?_⟩
  apply c_rt (fn := f__law_text.fn) rfl rfl
  apply b_rt
  exact x_ret (e_mt e_str rfl (l_cons h1 l_nil) (joinL_t (by omega)))
def basL : List PV := [.int 2, .int 2, .int 3, .int 10, .int 16]
theorem basL_mem {p : PV} (h : p ∈ basL) : ∃ b : Nat, p = .int (b : Int) ∧ (b = 2 ∨ b = 3 ∨ b = 10 ∨ b = 16) := by
  simp only [basL, List.mem_cons, List.not_mem_nil, or_false] at h
  rcases h with rfl | rfl | rfl | rfl | rfl
  · exact ⟨2, rfl, by omega⟩
  · exact ⟨2, rfl, by omega⟩
  · exact ⟨3, rfl, by omega⟩
  · exact ⟨10, rfl, by omega⟩
  · exact ⟨16, rfl, by omega⟩
def howL : List PV := [.str [45], .str [45], .str [43], .str [32]]
theorem howL_mem {p : PV} (h : p ∈ howL) : ∃ w, p = .str w ∧ HowP w := by
  simp only [howL, List.mem_cons, List.not_mem_nil, or_false] at h
  rcases h with rfl | rfl | rfl | rfl
  · exact ⟨_, rfl, .inl rfl⟩
  · exact ⟨_, rfl, .inl rfl⟩
  · exact ⟨_, rfl, .inr (.inl rfl)⟩
  · exact ⟨_, rfl, .inr (.inr rfl)⟩
def grpL : List PV := [.int 0, .int 0, .int 0, .int 2, .int 3]
theorem grpL_mem {p : PV} (h : p ∈ grpL) : ∃ g : Nat, p = .int (g : Int) ∧ (g = 0 ∨ g = 2 ∨ g = 3) := by
  simp only [grpL, List.mem_cons, List.not_mem_nil, or_false] at h
  rcases h with rfl | rfl | rfl | rfl | rfl
  · exact ⟨0, rfl, by omega⟩
  · exact ⟨0, rfl, by omega⟩
  · exact ⟨0, rfl, by omega⟩
  · exact ⟨2, rfl, by omega⟩
  · exact ⟨3, rfl, by omega⟩
def leaL : List PV := [.int 1, .int 1, .int 2, .int 3]
theorem leaL_mem {p : PV} (h : p ∈ leaL) : ∃ g : Nat, p = .int (g : Int) ∧ 1 ≤ g ∧ g ≤ 12 := by
  simp only [leaL, List.mem_cons, List.not_mem_nil, or_false] at h
  rcases h with rfl | rfl | rfl | rfl
  · exact ⟨1, rfl, by omega⟩
  · exact ⟨1, rfl, by omega⟩
  · exact ⟨2, rfl, by omega⟩
  · exact ⟨3, rfl, by omega⟩
def mkL : List PV := [.str [44], .str [45], .str [32]]
theorem mkL_mem {p : PV} (h : p ∈ mkL) {b : Nat} (hb : b = 2 ∨ b = 3 ∨ b = 10 ∨ b = 16) : ∃ c, p = .str [c] ∧ SGN.contains c = true ∧ (FGS.take b).contains c = false := by
  simp only [mkL, List.mem_cons, List.not_mem_nil, or_false] at h
  rcases h with rfl | rfl | rfl <;> rcases hb with rfl | rfl | rfl | rfl <;> exact ⟨_, rfl, by decide +kernel, by decide +kernel⟩
theorem txt_of {x : List Nat} {k : Nat} (h : x.length ≤ k) (hk : k ≤ 1000) (ho : (x.all fun c => SGN.contains c) = true) : Txt x k := ⟨h, hk, ho⟩
def ahL : List PV := [.str [], .str [], .str [120], .str [48]]
theorem ahL_mem {p : PV} (h : p ∈ ahL) : ∃ w, p = .str w ∧ Txt w 4 := by
  simp only [ahL, List.mem_cons, List.not_mem_nil, or_false] at h
  rcases h with rfl | rfl | rfl | rfl <;> exact ⟨_, rfl, txt_of (by decide) (by decide) (by decide +kernel)⟩
theorem min10 {b : Nat} : bi .min [.lst [.int (b : Int), .int 10]] = some (.int ((min b 10 : Nat) : Int)) := by
  show some (PV.int (if (10 : Int) < (b : Int) then 10 else (b : Int))) = _
  congr 2
  split <;> omega
def bFig2 : Sms := tlS (tlS b__law_figures)
/-- the format of figures, its base and its sign drawn -/
theorem fig_tail {n h b : Nat} {how : List Nat} {lo hi : Option Int} (hb : b = 2 ∨ b = 3 ∨ b = 10 ∨ b = 16) (hh : HowP how) (hm : DI ns m) : ∃ (f : PV) (m' : List PV), DI ns m' ∧ FormP (h + 1) (.int lo hi) f ∧ ∃ st, xss gv (callN gv F3 (n + 5)) bFig2 [.va (.ref 0), .va (sv (.int lo hi)), .va (.int (b : Int)), .va (.str how), .un] m = .ok (.rt f) st m' := by
  obtain ⟨p, m1, hp, hm1, hc1⟩ := dp (n + 1) (l := grpL) (by decide) hm
  obtain ⟨g, rfl, hg⟩ := grpL_mem hp
  obtain ⟨p, m2, hp, hm2, hc2⟩ := dp (n + 1) (l := leaL) (by decide) hm1
  obtain ⟨least, rfl, hl⟩ := leaL_mem hp
  have hb' : 2 ≤ b ∧ b ≤ 16 := by omega
  have mark : ∃ (mk : List Nat) (m3 : List PV), DI ns m3 ∧ MarkP b g mk ∧ ev gv (callN gv F3 (n + 5)) (.ife (.v (.cmp .gt (.loc 4) (.int 0))) (.call 38 (.cons (.loc 0) (.cons (.lst (.cons (.str [44]) (.cons (.str [45]) (.cons (.str [32]) .nil)))) .nil))) (.str [])) [.va (.ref 0), .va (sv (.int lo hi)), .va (.int (b : Int)), .va (.str how), .va (.int (g : Int))] m2 = .ok (.str mk) [.va (.ref 0), .va (sv (.int lo hi)), .va (.int (b : Int)), .va (.str how), .va (.int (g : Int))] m3 := by
    by_cases h0 : g = 0
    · exact ⟨[], m2, hm2, .inl ⟨h0, rfl⟩, e_iff (t_v' (e_cmp (e_loc rfl) e_int (gt_f (by omega)))) e_str⟩
    · obtain ⟨p, m3, hp, hm3, hc3⟩ := dp (n + 1) (l := mkL) (by decide) hm2
      obtain ⟨c, rfl, h1, h2⟩ := mkL_mem hp hb
      exact ⟨[c], m3, hm3, .inr ⟨by omega, c, rfl, h1, h2⟩, e_ift (t_v' (e_cmp (e_loc rfl) e_int (gt_t (by omega)))) (e_call (l_cons (e_loc rfl) (l_cons rfl l_nil)) hc3)⟩
  obtain ⟨mk, m3, hm3, hmk, he⟩ := mark
  obtain ⟨p, m4, hp, hm4, hc4⟩ := dp (n + 1) (l := ahL) (by decide) hm3
  obtain ⟨ah, rfl, hah⟩ := ahL_mem hp
  refine ⟨.tup [.str wFig, .int (b : Int), .str how, .int (least : Int), .int (g : Int), .str mk, .str ah], m4, hm4, .fig lo hi b least g how mk ah hb' hl hh hmk hah, ?_⟩
  apply Exists.intro
  apply b_nx (x_asg (e_call (l_cons (e_loc rfl) (l_cons rfl l_nil)) hc1))
  apply b_rt
  exact x_ret (e_tup (l_cons e_str (l_cons (e_loc rfl) (l_cons (e_loc rfl) (l_cons (e_call (l_cons (e_loc rfl) (l_cons rfl l_nil)) hc2) (l_cons (e_loc rfl) (l_cons he (l_cons (e_call (l_cons (e_loc rfl) (l_cons rfl l_nil)) hc4) l_nil))))))))
theorem figs_t (n h : Nat) (lo hi : Option Int) (hm : DI ns m) : ∃ (f : PV) (m' : List PV), DI ns m' ∧ FormP (h + 1) (.int lo hi) f ∧ callN gv F3 (n + 6) 41 [.ref 0, sv (.int lo hi)] m = .ok f m' := by
  obtain ⟨p, m1, hp, hm1, hc1⟩ := dp (n + 1) (l := basL) (by decide) hm
  obtain ⟨b, rfl, hb⟩ := basL_mem hp
  obtain ⟨p, m2, hp, hm2, hc2⟩ := dp (n + 1) (l := howL) (by decide) hm1
  obtain ⟨how, rfl, hh⟩ := howL_mem hp
  have fin : ∃ (f : PV) (m' : List PV), DI ns m' ∧ FormP (h + 1) (.int lo hi) f ∧ ∃ st, xss gv (callN gv F3 (n + 5)) (tlS b__law_figures) [.va (.ref 0), .va (sv (.int lo hi)), .va (.int (b : Int)), .va (.str how), .un] m2 = .ok (.rt f) st m' := by
    cases lo with
    | none =>
      obtain ⟨f, m', h1, h2, st, h3⟩ := fig_tail (n := n) (h := h) (lo := none) (hi := hi) hb hh hm2
      exact ⟨f, m', h1, h2, st, b_nx (x_iff (t_allf (t_v' (e_nnf (e_idx (e_loc rfl) e_int rfl rfl)))) b_nil) h3⟩
    | some lo =>
      cases hi with
      | none =>
        obtain ⟨f, m', h1, h2, st, h3⟩ := fig_tail (n := n) (h := h) (lo := some lo) (hi := none) hb hh hm2
        exact ⟨f, m', h1, h2, st, b_nx (x_iff (t_allg (t_v' (e_nny (e_idx (e_loc rfl) e_int rfl rfl) rfl)) (t_allf (t_v' (e_nnf (e_idx (e_loc rfl) e_int rfl rfl))))) b_nil) h3⟩
      | some hi =>
        obtain ⟨r, m3, hm3, q0, q1, hc3⟩ := dn (n + 2) (b := 5) (by decide) hm2
        by_cases h0 : r = 0
        · have a0 := min10 (b := b)
          refine ⟨.tup [.str wPow, .int ((min b 10 : Nat) : Int), .str how], m3, hm3, .pow lo hi (min b 10) how (by omega) hh, ?_⟩
          apply Exists.intro
          apply b_rt
          exact x_ift (t_allG (t_v' (e_nny (e_idx (e_loc rfl) e_int rfl rfl) rfl)) (t_allG (t_v' (e_nny (e_idx (e_loc rfl) e_int rfl rfl) rfl)) (t_last (t_v' (e_cmp (e_call (l_cons (e_loc rfl) (l_cons e_int l_nil)) hc3) e_int (eq_t h0)))))) (b_rt (x_ret (e_tup (l_cons e_str (l_cons (e_bi (l_cons (e_lst (l_cons (e_loc rfl) (l_cons e_int l_nil))) l_nil) a0) (l_cons (e_loc rfl) l_nil))))))
        · obtain ⟨f, m', h1, h2, st, h3⟩ := fig_tail (n := n) (h := h) (lo := some lo) (hi := some hi) hb hh hm3
          exact ⟨f, m', h1, h2, st, b_nx (x_iff (t_allG (t_v' (e_nny (e_idx (e_loc rfl) e_int rfl rfl) rfl)) (t_allG (t_v' (e_nny (e_idx (e_loc rfl) e_int rfl rfl) rfl)) (t_last (t_v' (e_cmp (e_call (l_cons (e_loc rfl) (l_cons e_int l_nil)) hc3) e_int (eq_f h0)))))) b_nil) h3⟩
  obtain ⟨f, m', h1, h2, st, h3⟩ := fin
  refine ⟨f, m', h1, h2, ?_⟩
  apply c_rt (fn := f__law_figures.fn) rfl rfl
  apply b_nx (x_par (e_call (l_cons (e_loc rfl) (l_cons rfl l_nil)) hc1) (e_call (l_cons (e_loc rfl) (l_cons rfl l_nil)) hc2))
  exact h3
end
end RA.St

/-! Drawn formats. -/
namespace RA.St
open PySem
theorem lc_drawA {α : Type} (fx : α → PV) {g : PV → List Sl → List PV → Res (Option PV)} {s : List Sl} {I : List PV → Prop} {P : α → PV → Prop} : ∀ (l : List α) (m : List PV), I m → (∀ x ∈ l, ∀ m, I m → ∃ y m', g (fx x) s m = .ok (some y) s m' ∧ I m' ∧ P x y) → ∃ ys m', lcL g (l.map fx) s m = .ok ys s m' ∧ I m' ∧ ys.length = l.length ∧ ∀ (j : Nat) (x : α) (y : PV), l[j]? = some x → ys[j]? = some y → P x y
  | [], m, hm, _ => ⟨[], m, rfl, hm, rfl, fun j x y h => by cases h⟩
  | x :: l, m, hm, h => by
    obtain ⟨y, m1, hy, hm1, hP⟩ := h x (List.mem_cons_self ..) m hm
    obtain ⟨ys, m2, hys, hm2, hl, hPs⟩ := lc_drawA fx l m1 hm1 fun z hz => h z (List.mem_cons_of_mem _ hz)
    refine ⟨y :: ys, m2, ?_, hm2, by rw [List.length_cons, List.length_cons, hl], ?_⟩
    · show (g (fx x) s m).bnd _ = _
      rw [hy]
      show (lcL g (l.map fx) s m1).bnd _ = _
      rw [hys]
      rfl
    · intro j u v hu hv
      cases j with
      | zero => cases hu; cases hv; exact hP
      | succ j => exact hPs j u v hu hv
theorem e_lcdA {α : Type} (fx : α → PV) {G : List PV} {cf : Nat → List PV → List PV → CR} {s s1 : List Sl} {m m1 : List PV} {own : List Nat} {elt : Ex} {tg : Tg} {it : It} {l : List α} {I : List PV → Prop} {P : α → PV → Prop} (S : PV → List Sl) (hi : evi G cf it s m = .ok (l.map fx) s1 m1) (hI : I m1) (hz : Nat.ble (l.map fx).length SZ = true)
    (ha : ∀ x ∈ l, asg tg (fx x) (wipe s1 own) = some (S (fx x))) (he : ∀ x ∈ l, ∀ m, I m → ∃ y m', ev G cf elt (S (fx x)) m = .ok y (S (fx x)) m' ∧ I m' ∧ P x y) (hw : ∀ x ∈ l, wipe (S (fx x)) own = wipe s1 own) :
    ∃ ys m', ev G cf (.lc own elt tg it .nil) s m = .ok (.lst ys) (rest s1 (wipe s1 own) own) m' ∧ I m' ∧ ys.length = l.length ∧ ∀ (j : Nat) (x : α) (y : PV), l[j]? = some x → ys[j]? = some y → P x y := by
  obtain ⟨ys, m2, h1, h2, h3, h4⟩ := lc_drawA fx (s := wipe s1 own) (I := I) (P := P) (g := fun x s1 m => (lift (asg tg x s1) s1 m).bnd fun s2 _ m => (evall G cf .nil s2 m).bnd fun c s3 m => if c then (ev G cf elt s3 m).bnd fun y s4 m => .ok (some y) (wipe s4 own) m else .ok none (wipe s3 own) m) l m1 hI (by
    intro x hx m hm
    obtain ⟨y, m', h, hI', hP⟩ := he x hx m hm
    refine ⟨y, m', ?_, hI', hP⟩
    show (lift (asg tg (fx x) (wipe s1 own)) (wipe s1 own) m).bnd _ = _
    rw [ha x hx]
    show (ev G cf elt (S (fx x)) m).bnd _ = _
    rw [h]
    show Res.ok (some y) (wipe (S (fx x)) own) m' = _
    rw [hw x hx])
  exact ⟨ys, m2, e_lc hi hz h1, h2, h3, h4⟩
theorem txt_mono {t : List Nat} {a b : Nat} (h : Txt t a) (hab : a ≤ b) (hb : b ≤ 1000) : Txt t b := ⟨Nat.le_trans h.1 hab, hb, h.2.2⟩
theorem strsT : ∀ {ys : List PV}, (∀ y ∈ ys, ∃ t, y = PV.str t ∧ Txt t 8) → ∃ ts : List (List Nat), ys = ts.map .str ∧ ∀ t ∈ ts, Txt t 8
  | [], _ => ⟨[], rfl, fun t h => (List.not_mem_nil h).elim⟩
  | y :: ys, h => by
    obtain ⟨c, rfl, hc⟩ := h y (List.mem_cons_self ..)
    obtain ⟨t, rfl, ht⟩ := strsT fun z hz => h z (List.mem_cons_of_mem _ hz)
    exact ⟨c :: t, rfl, fun u hu => (List.mem_cons.1 hu).elim (fun e => e ▸ hc) (ht u)⟩
theorem rising_sub {zs le : List Nat} (h : zs.Sublist le) (hl : le.length ≤ 2) (hr : rising le = true) : rising zs = true := by
  by_cases h2 : zs.length = le.length
  · rw [h.eq_of_length h2]; exact hr
  · have h3 := h.length_le
    match zs, h2, h3 with
    | [], _, _ => rfl
    | [x], _, _ => rfl
    | x :: y :: r, h2, h3 => simp only [List.length_cons] at h2 h3; omega
section
variable {ns : List Int}
def speL : List PV := [.str [97], .str [97, 98], .str [48, 48], .str [44]]
theorem speL_mem {p : PV} (h : p ∈ speL) : ∃ w, p = .str w ∧ Txt w 4 ∧ w ≠ [] := by
  simp only [speL, List.mem_cons, List.not_mem_nil, or_false] at h
  rcases h with rfl | rfl | rfl | rfl <;> exact ⟨_, rfl, txt_of (by decide) (by decide) (by decide +kernel), by simp⟩
def ifS : Tts := (.cons (.v (.cmp .eq (.call 37 (.cons (.loc 0) (.cons (.int 2) .nil))) (.int 0))) .nil)
def eltS : Ex := (.tup (.cons (.loc 8) (.cons (.call 38 (.cons (.loc 0) (.cons (.lst (.cons (.str [97]) (.cons (.str [97, 98]) (.cons (.str [48, 48]) (.cons (.str [44]) .nil))))) .nil))) .nil)))
theorem spell_loop {n : Nat} {so dv kv : PV} : ∀ (le : List Nat) (m : List PV), DI ns m → ∃ (ps : List (Nat × List Nat)) (m' : List PV), DI ns m' ∧ (ps.map (·.1)).Sublist le ∧ (∀ p ∈ ps, Txt p.2 4 ∧ p.2 ≠ []) ∧
    lcL (fun x s1 m => (lift (asg (.nm 8) x s1) s1 m).bnd fun s2 _ m => (evall gv (callN gv F3 (n + 4)) ifS s2 m).bnd fun c s3 m => if c then (ev gv (callN gv F3 (n + 4)) eltS s3 m).bnd fun y s4 m => .ok (some y) (wipe s4 [8]) m else .ok none (wipe s3 [8]) m) (le.map fun c => .str [c]) [.va (.ref 0), .va so, .va dv, .va kv, .un, .un, .un, .un, .un] m = .ok (spPV ps) [.va (.ref 0), .va so, .va dv, .va kv, .un, .un, .un, .un, .un] m'
  | [], m, hm => ⟨[], m, hm, .slnil, fun p hp => (List.not_mem_nil hp).elim, rfl⟩
  | c :: le, m, hm => by
    obtain ⟨r, m1, hm1, q0, q1, hc⟩ := dn (n + 1) (b := 2) (by decide) hm
    by_cases h0 : r = 0
    · obtain ⟨p, m2, hp, hm2, hc2⟩ := dp n (l := speL) (by decide) hm1
      obtain ⟨w, rfl, hw⟩ := speL_mem hp
      obtain ⟨ps, m', hm', h1, h2, h3⟩ := spell_loop (n := n) (so := so) (dv := dv) (kv := kv) le m2 hm2
      refine ⟨(c, w) :: ps, m', hm', h1.cons_cons c, fun p hp => (List.mem_cons.1 hp).elim (fun e => e ▸ hw) (h2 p), ?_⟩
      have a1 : evall gv (callN gv F3 (n + 4)) ifS [.va (.ref 0), .va so, .va dv, .va kv, .un, .un, .un, .un, .va (.str [c])] m = .ok true [.va (.ref 0), .va so, .va dv, .va kv, .un, .un, .un, .un, .va (.str [c])] m1 :=
        (t_last (t_v' (e_cmp (e_call (l_cons (e_loc rfl) (l_cons e_int l_nil)) hc) e_int (eq_t h0))) : evt gv (callN gv F3 (n + 4)) (.all ifS) [.va (.ref 0), .va so, .va dv, .va kv, .un, .un, .un, .un, .va (.str [c])] m = .ok true [.va (.ref 0), .va so, .va dv, .va kv, .un, .un, .un, .un, .va (.str [c])] m1)
      have a2 : ev gv (callN gv F3 (n + 4)) eltS [.va (.ref 0), .va so, .va dv, .va kv, .un, .un, .un, .un, .va (.str [c])] m1 = .ok (.tup [.str [c], .str w]) [.va (.ref 0), .va so, .va dv, .va kv, .un, .un, .un, .un, .va (.str [c])] m2 :=
        e_tup (l_cons (e_loc rfl) (l_cons (e_call (l_cons (e_loc rfl) (l_cons rfl l_nil)) hc2) l_nil))
      show ((evall gv (callN gv F3 (n + 4)) ifS [.va (.ref 0), .va so, .va dv, .va kv, .un, .un, .un, .un, .va (.str [c])] m).bnd fun c s3 m => if c then (ev gv (callN gv F3 (n + 4)) eltS s3 m).bnd fun y s4 m => Res.ok (some y) (wipe s4 [8]) m else .ok none (wipe s3 [8]) m).bnd _ = _
      rw [a1]
      show ((ev gv (callN gv F3 (n + 4)) eltS [.va (.ref 0), .va so, .va dv, .va kv, .un, .un, .un, .un, .va (.str [c])] m1).bnd fun y s4 m => Res.ok (some y) (wipe s4 [8]) m).bnd _ = _
      rw [a2]
      show (lcL _ (le.map fun c => PV.str [c]) [.va (.ref 0), .va so, .va dv, .va kv, .un, .un, .un, .un, .un] m2).bnd _ = _
      rw [h3]
      rfl
    · obtain ⟨ps, m', hm', h1, h2, h3⟩ := spell_loop (n := n) (so := so) (dv := dv) (kv := kv) le m1 hm1
      refine ⟨ps, m', hm', h1.cons c, h2, ?_⟩
      have a1 : evall gv (callN gv F3 (n + 4)) ifS [.va (.ref 0), .va so, .va dv, .va kv, .un, .un, .un, .un, .va (.str [c])] m = .ok false [.va (.ref 0), .va so, .va dv, .va kv, .un, .un, .un, .un, .va (.str [c])] m1 :=
        (t_last (t_v' (e_cmp (e_call (l_cons (e_loc rfl) (l_cons e_int l_nil)) hc) e_int (eq_f h0))) : evt gv (callN gv F3 (n + 4)) (.all ifS) [.va (.ref 0), .va so, .va dv, .va kv, .un, .un, .un, .un, .va (.str [c])] m = .ok false [.va (.ref 0), .va so, .va dv, .va kv, .un, .un, .un, .un, .va (.str [c])] m1)
      show ((evall gv (callN gv F3 (n + 4)) ifS [.va (.ref 0), .va so, .va dv, .va kv, .un, .un, .un, .un, .va (.str [c])] m).bnd fun c s3 m => if c then (ev gv (callN gv F3 (n + 4)) eltS s3 m).bnd fun y s4 m => Res.ok (some y) (wipe s4 [8]) m else .ok none (wipe s3 [8]) m).bnd _ = _
      rw [a1]
      show (lcL _ (le.map fun c => PV.str [c]) [.va (.ref 0), .va so, .va dv, .va kv, .un, .un, .un, .un, .un] m1).bnd _ = _
      rw [h3]
      rfl
def FormT (ns : List Int) (d dp h : Nat) : Prop := ∀ (s : S) (k : Nat) (m : List PV), SortP d s → 2 * d + 3 * dp + 8 ≤ k → DI ns m → ∃ (f : PV) (m' : List PV), DI ns m' ∧ FormP h s f ∧ callN gv F3 k 43 [.ref 0, sv s, .int (dp : Int)] m = .ok f m'
def bParts : Sms := (.cons (.asg 7 (.ife (.v (.cmp .eq (.call 37 (.cons (.loc 0) (.cons (.int 3) .nil))) (.int 0))) (.call 40 (.cons (.loc 0) (.cons (.int 2) .nil))) (.str []))) (.cons (.asg 4 (.op .add (.op .add (.loc 4) (.ife (.v (.cmp .ne (.loc 7) (.str []))) (.lst (.cons (.loc 7) .nil)) (.lst .nil))) (.lst (.cons (.tup (.cons (.loc 5) (.cons (.call 43 (.cons (.loc 0) (.cons (.loc 6) (.cons (.loc 2) .nil)))) .nil))) .nil)))) .nil))
theorem addL {x y : List PV} (h : x.length + y.length ≤ 1000) : op2 .add (.lst x) (.lst y) = some (.lst (x ++ y)) := by
  show (if x.length + y.length ≤ SZ then some (PV.lst (x ++ y)) else none) = _
  rw [if_pos (by show _ ≤ (16777216 : Nat); omega)]
theorem parts_loop {n d dp h : Nat} {so : PV} (ih : FormT ns d dp h) (hn : 2 * d + 3 * dp + 8 ≤ n + 5) : ∀ (l : List S) (j : Nat) (acc : List PV) (y5 y6 y7 : Sl) (m : List PV), (∀ s ∈ l, SortP d s) → acc.length + 2 * l.length ≤ 100 → DI ns m →
    ∃ (new : List PV) (m' : List PV) (z5 z6 z7 : Sl), DI ns m' ∧ RowPs (FormP h) j l new ∧ new.length ≤ 2 * l.length ∧ forL (fun x s m => (lift (asg (.tp (.cons (.nm 5) (.cons (.nm 6) .nil))) x s) s m).bnd fun s' _ m => xss gv (callN gv F3 (n + 5)) bParts s' m) (enum j (svs l)) [.va (.ref 0), .va so, .va (.int (dp : Int)), .un, .va (.lst acc), y5, y6, y7, .un] m
      = .ok .nx [.va (.ref 0), .va so, .va (.int (dp : Int)), .un, .va (.lst (acc ++ new)), z5, z6, z7, .un] m'
  | [], j, acc, y5, y6, y7, m, _, _, hm => ⟨[], m, y5, y6, y7, hm, .done j, Nat.le_refl _, by rw [List.append_nil]; rfl⟩
  | s :: l, j, acc, y5, y6, y7, m, hs, hb, hm => by
    rw [List.length_cons] at hb
    obtain ⟨r, m1, hm1, q0, q1, hc1⟩ := dn (n + 2) (b := 3) (by decide) hm
    -- the text ahead
    have text : ∃ (t : List Nat) (m2 : List PV), DI ns m2 ∧ Txt t 8 ∧ ev gv (callN gv F3 (n + 5)) (.ife (.v (.cmp .eq (.call 37 (.cons (.loc 0) (.cons (.int 3) .nil))) (.int 0))) (.call 40 (.cons (.loc 0) (.cons (.int 2) .nil))) (.str [])) [.va (.ref 0), .va so, .va (.int (dp : Int)), .un, .va (.lst acc), .va (.int (j : Int)), .va (sv s), y7, .un] m = .ok (.str t) [.va (.ref 0), .va so, .va (.int (dp : Int)), .un, .va (.lst acc), .va (.int (j : Int)), .va (sv s), y7, .un] m2 := by
      by_cases h0 : r = 0
      · obtain ⟨t, m2, hm2, ht, hc2⟩ := text_t n (q := 2) (by decide) hm1
        exact ⟨t, m2, hm2, txt_mono ht (by decide) (by decide), e_ift (t_v' (e_cmp (e_call (l_cons (e_loc rfl) (l_cons e_int l_nil)) hc1) e_int (eq_t h0))) (e_call (l_cons (e_loc rfl) (l_cons e_int l_nil)) hc2)⟩
      · exact ⟨[], m1, hm1, txt_of (by decide) (by decide) rfl, e_iff (t_v' (e_cmp (e_call (l_cons (e_loc rfl) (l_cons e_int l_nil)) hc1) e_int (eq_f h0))) e_str⟩
    obtain ⟨t, m2, hm2, ht, he⟩ := text
    obtain ⟨f, m3, hm3, hf, hc3⟩ := ih s (n + 5) m2 (hs s (List.mem_cons_self ..)) hn hm2
    by_cases hn0 : t = []
    · subst hn0
      obtain ⟨new, m', z5, z6, z7, g1, g2, g3, g4⟩ := parts_loop (n := n) (so := so) ih hn l (j + 1) (acc ++ [] ++ [.tup [.int (j : Int), f]]) (.va (.int (j : Int))) (.va (sv s)) (.va (.str [])) m3 (fun s' hs' => hs s' (List.mem_cons_of_mem _ hs')) (by simp only [List.length_append, List.length_nil, List.length_singleton]; omega) hm3
      refine ⟨.tup [.int (j : Int), f] :: new, m', z5, z6, z7, g1, .part j s l f new hf g2, by rw [List.length_cons, List.length_cons]; omega, ?_⟩
      have e : acc ++ (PV.tup [.int (j : Int), f] :: new) = acc ++ [] ++ [.tup [.int (j : Int), f]] ++ new := by simp
      rw [e]
      refine fl_nx (s1 := [.va (.ref 0), .va so, .va (.int (dp : Int)), .un, .va (.lst (acc ++ [] ++ [.tup [.int (j : Int), f]])), .va (.int (j : Int)), .va (sv s), .va (.str []), .un]) (m1 := m3) ?_ g4
      show xss gv (callN gv F3 (n + 5)) bParts [.va (.ref 0), .va so, .va (.int (dp : Int)), .un, .va (.lst acc), .va (.int (j : Int)), .va (sv s), y7, .un] m = _
      have a1 : op2 .add (.lst acc) (.lst []) = some (.lst (acc ++ [])) := addL (by rw [List.length_nil]; omega)
      have a2 : op2 .add (.lst (acc ++ [])) (.lst [.tup [.int (j : Int), f]]) = some (.lst (acc ++ [] ++ [.tup [.int (j : Int), f]])) := addL (by simp only [List.length_append, List.length_nil, List.length_singleton]; omega)
      exact b_nx (x_asg he) (b_nx (x_asg (e_op (e_op (e_loc rfl) (e_iff (t_v' (e_cmp (e_loc rfl) e_str (nes_f rfl))) (e_lst l_nil)) a1) (e_lst (l_cons (e_tup (l_cons (e_loc rfl) (l_cons (e_call (l_cons (e_loc rfl) (l_cons (e_loc rfl) (l_cons (e_loc rfl) l_nil))) hc3) l_nil))) l_nil)) a2)) b_nil)
    · obtain ⟨new, m', z5, z6, z7, g1, g2, g3, g4⟩ := parts_loop (n := n) (so := so) ih hn l (j + 1) (acc ++ [.str t] ++ [.tup [.int (j : Int), f]]) (.va (.int (j : Int))) (.va (sv s)) (.va (.str t)) m3 (fun s' hs' => hs s' (List.mem_cons_of_mem _ hs')) (by simp only [List.length_append, List.length_singleton]; omega) hm3
      refine ⟨.str t :: .tup [.int (j : Int), f] :: new, m', z5, z6, z7, g1, .txt j (s :: l) t _ ht hn0 (.part j s l f new hf g2), by rw [List.length_cons, List.length_cons, List.length_cons]; omega, ?_⟩
      have e : acc ++ (.str t :: PV.tup [.int (j : Int), f] :: new) = acc ++ [.str t] ++ [.tup [.int (j : Int), f]] ++ new := by simp
      rw [e]
      refine fl_nx (s1 := [.va (.ref 0), .va so, .va (.int (dp : Int)), .un, .va (.lst (acc ++ [.str t] ++ [.tup [.int (j : Int), f]])), .va (.int (j : Int)), .va (sv s), .va (.str t), .un]) (m1 := m3) ?_ g4
      show xss gv (callN gv F3 (n + 5)) bParts [.va (.ref 0), .va so, .va (.int (dp : Int)), .un, .va (.lst acc), .va (.int (j : Int)), .va (sv s), y7, .un] m = _
      have a1 : op2 .add (.lst acc) (.lst [.str t]) = some (.lst (acc ++ [.str t])) := addL (by rw [List.length_singleton]; omega)
      have a2 : op2 .add (.lst (acc ++ [.str t])) (.lst [.tup [.int (j : Int), f]]) = some (.lst (acc ++ [.str t] ++ [.tup [.int (j : Int), f]])) := addL (by simp only [List.length_append, List.length_singleton]; omega)
      exact b_nx (x_asg he) (b_nx (x_asg (e_op (e_op (e_loc rfl) (e_ift (t_v' (e_cmp (e_loc rfl) e_str (nes_t hn0))) (e_lst (l_cons (e_loc rfl) l_nil))) a1) (e_lst (l_cons (e_tup (l_cons (e_loc rfl) (l_cons (e_call (l_cons (e_loc rfl) (l_cons (e_loc rfl) (l_cons (e_loc rfl) l_nil))) hc3) l_nil))) l_nil)) a2)) b_nil)
end
end RA.St

/-! Drawn formats: all. -/
namespace RA.St
open PySem
section
variable {ns : List Int}
theorem dp_l (n : Nat) {l : List PV} (hl : 0 < l.length) {m : List PV} (hm : DI ns m) : ∃ (p : PV) (m' : List PV), p ∈ l ∧ DI ns m' ∧ callN gv F3 (n + 4) 38 [.ref 0, .lst l] m = .ok p m' := dp n hl hm
def InnT (ns : List Int) (d dp h : Nat) : Prop := ∀ (s : S) (k : Nat) (m : List PV), SortP d s → 2 * d + 3 * dp + 7 ≤ k → DI ns m → ∃ (f : PV) (m' : List PV), DI ns m' ∧ FormP h s f ∧ callN gv F3 k 42 [.ref 0, sv s, .int (dp : Int)] m = .ok f m'
def quoL : List PV := [.str [97], .str [33]]
theorem quoL_mem {p : PV} (h : p ∈ quoL) : ∃ e, p = .str [e] ∧ SGN.contains e = true ∧ 39 ≠ e := by
  simp only [quoL, List.mem_cons, List.not_mem_nil, or_false] at h
  rcases h with rfl | rfl <;> exact ⟨_, rfl, by decide +kernel, by decide⟩
def opnL : List PV := [.str [], .str [], .str [40]]
theorem opnL_mem {p : PV} (h : p ∈ opnL) : ∃ w, p = .str w ∧ Txt w 4 := by
  simp only [opnL, List.mem_cons, List.not_mem_nil, or_false] at h
  rcases h with rfl | rfl | rfl <;> exact ⟨_, rfl, txt_of (by decide) (by decide) (by decide +kernel)⟩
def cloL : List PV := [.str [], .str [], .str [41]]
theorem cloL_mem {p : PV} (h : p ∈ cloL) : ∃ w, p = .str w ∧ Txt w 4 := by
  simp only [cloL, List.mem_cons, List.not_mem_nil, or_false] at h
  rcases h with rfl | rfl | rfl <;> exact ⟨_, rfl, txt_of (by decide) (by decide) (by decide +kernel)⟩
theorem inner_t {d dp h : Nat} (ih : FormT ns d dp h) : InnT ns (d + 1) dp (h + 1) := by
  intro s k m hS hk hm
  obtain ⟨n, rfl⟩ : ∃ n, k = n + 9 := ⟨k - 9, by omega⟩
  cases (show SortQ (SortP d) s from hS) with
  | int lo hi =>
    obtain ⟨f, m', hm', hf, hc⟩ := figs_t (n + 2) h lo hi hm
    refine ⟨f, m', hm', hf, ?_⟩
    apply c_rt (fn := f__law_inner.fn) rfl rfl
    apply b_rt
    exact x_ift (t_v' (e_cmp (e_idx (e_loc rfl) e_int rfl rfl) e_str (eqs_t rfl))) (b_rt (x_ret (e_call (l_cons (e_loc rfl) (l_cons (e_loc rfl) l_nil)) hc)))
  | wor le a b hl hsz =>
    obtain ⟨r, m1, hm1, q0, q1, hc⟩ := dn (n + 5) (b := 4) (by decide) hm
    by_cases h0 : r = 0
    · obtain ⟨ps, m', hm', h1, h2, h3⟩ := spell_loop (n := n + 4) (so := sv (.wor le a b)) (dv := .int (dp : Int)) (kv := .int r) le m1 hm1
      have hsub := h1.length_le
      rw [List.length_map] at hsub
      have hsp : SpP ps := ⟨by have := hl.1; omega, rising_sub h1 hl.1 hl.2.1, fun p hp => ⟨hl.2.2 p.1 (h1.subset (List.mem_map_of_mem hp)), (h2 p hp).1, (h2 p hp).2⟩⟩
      have e1 : ev gv (callN gv F3 (n + 8)) (.lc [8] eltS (.nm 8) (.val (.idx (.loc 1) (.int 1))) ifS) [.va (.ref 0), .va (sv (.wor le a b)), .va (.int (dp : Int)), .va (.int r), .un, .un, .un, .un, .un] m1 = .ok (.lst (spPV ps)) [.va (.ref 0), .va (sv (.wor le a b)), .va (.int (dp : Int)), .va (.int r), .un, .un, .un, .un, .un] m' :=
        e_lc (s1 := [.va (.ref 0), .va (sv (.wor le a b)), .va (.int (dp : Int)), .va (.int r), .un, .un, .un, .un, .un]) (i_val' (x := .str le) (e_idx (e_loc rfl) e_int rfl rfl) rfl) (ble_of (by rw [List.length_map]; have := hl.1; omega)) h3
      refine ⟨.tup [.str wSpe, .tup (spPV ps)], m', hm', .spe le a b ps hsp, ?_⟩
      apply c_rt (fn := f__law_inner.fn) rfl rfl
      apply b_nx (x_iff (t_v' (e_cmp (e_idx (e_loc rfl) e_int rfl rfl) e_str (eqs_f (by decide)))) b_nil)
      apply b_rt
      exact x_ift (t_v' (e_cmp (e_idx (e_loc rfl) e_int rfl rfl) e_str (eqs_t rfl))) (b_nx (x_asg (e_call (l_cons (e_loc rfl) (l_cons e_int l_nil)) hc)) (b_rt (x_ift (t_v' (e_cmp (e_loc rfl) e_int (eq_t h0))) (b_rt (x_ret (e_tup (l_cons e_str (l_cons (e_bi (l_cons e1 l_nil) rfl) l_nil))))))))
    · by_cases h1 : r = 1
      · obtain ⟨p, m2, hp, hm2, hc2⟩ := dp_l (n + 4) (l := quoL) (by decide) hm1
        obtain ⟨e, rfl, he, hne⟩ := quoL_mem hp
        refine ⟨.tup [.str wQuo, .str [39], .str [e]], m2, hm2, .quo le a b 39 e (by decide +kernel) he hne, ?_⟩
        apply c_rt (fn := f__law_inner.fn) rfl rfl
        apply b_nx (x_iff (t_v' (e_cmp (e_idx (e_loc rfl) e_int rfl rfl) e_str (eqs_f (by decide)))) b_nil)
        apply b_rt
        exact x_ift (t_v' (e_cmp (e_idx (e_loc rfl) e_int rfl rfl) e_str (eqs_t rfl))) (b_nx (x_asg (e_call (l_cons (e_loc rfl) (l_cons e_int l_nil)) hc)) (b_nx (x_iff (t_v' (e_cmp (e_loc rfl) e_int (eq_f h0))) b_nil) (b_rt (x_ret (e_ift (t_v' (e_cmp (e_loc rfl) e_int (eq_t h1))) (e_tup (l_cons e_str (l_cons e_str (l_cons (e_call (l_cons (e_loc rfl) (l_cons rfl l_nil)) hc2) l_nil)))))))))
      · refine ⟨.tup [.str wPla], m1, hm1, .pla le a b, ?_⟩
        apply c_rt (fn := f__law_inner.fn) rfl rfl
        apply b_nx (x_iff (t_v' (e_cmp (e_idx (e_loc rfl) e_int rfl rfl) e_str (eqs_f (by decide)))) b_nil)
        apply b_rt
        exact x_ift (t_v' (e_cmp (e_idx (e_loc rfl) e_int rfl rfl) e_str (eqs_t rfl))) (b_nx (x_asg (e_call (l_cons (e_loc rfl) (l_cons e_int l_nil)) hc)) (b_nx (x_iff (t_v' (e_cmp (e_loc rfl) e_int (eq_f h0))) b_nil) (b_rt (x_ret (e_iff (t_v' (e_cmp (e_loc rfl) e_int (eq_f h1))) (e_tup (l_cons e_str l_nil)))))))
  | one q hq =>
    have hi : evi gv (callN gv F3 (n + 8)) (.rg1 (.idx (.loc 1) (.int 1))) [.va (.ref 0), .va (sv (.one q)), .va (.int (dp : Int)), .un, .un, .un, .un, .un, .un] m = .ok ((List.range' 0 q).map fun i => PV.int ((i : Nat) : Int)) [.va (.ref 0), .va (sv (.one q)), .va (.int (dp : Int)), .un, .un, .un, .un, .un, .un] m :=
      i_rg1' (e_idx (e_loc rfl) e_int rfl rfl) (rng_nat (by omega))
    obtain ⟨ys, m', h1, h2, h3, h4⟩ := e_lcdP (own := [5]) (tg := .nm 5) (elt := .call 40 (.cons (.loc 0) (.cons (.int 2) .nil))) (I := DI ns) (P := fun _ y => ∃ t, y = PV.str t ∧ Txt t 8) (fun x => [.va (.ref 0), .va (sv (.one q)), .va (.int (dp : Int)), .un, .un, .va x, .un, .un, .un]) hi hm (ble_of (by rw [rng_len]; omega)) (fun x hx => rfl) (fun x hx m hm => by
      obtain ⟨t, m2, hm2, ht, hc2⟩ := text_t (n + 3) (q := 2) (by decide) hm
      exact ⟨.str t, m2, e_call (l_cons (e_loc rfl) (l_cons e_int l_nil)) hc2, hm2, t, rfl, txt_mono ht (by decide) (by decide)⟩) (fun x hx => rfl)
    obtain ⟨ts, rfl, ht⟩ := strsT (at_mem h3 h4)
    rw [rng_len, List.length_map] at h3
    refine ⟨.tup [.str wNam, .tup (ts.map .str)], m', h2, .nam q ts h3 (by omega) ht, ?_⟩
    apply c_rt (fn := f__law_inner.fn) rfl rfl
    apply b_nx (x_iff (t_v' (e_cmp (e_idx (e_loc rfl) e_int rfl rfl) e_str (eqs_f (by decide)))) b_nil)
    apply b_nx (x_iff (t_v' (e_cmp (e_idx (e_loc rfl) e_int rfl rfl) e_str (eqs_f (by decide)))) b_nil)
    apply b_rt
    exact x_ift (t_v' (e_cmp (e_idx (e_loc rfl) e_int rfl rfl) e_str (eqs_t rfl))) (b_rt (x_ret (e_tup (l_cons e_str (l_cons (e_bi (l_cons h1 l_nil) rfl) l_nil)))))
  | may s hs =>
    obtain ⟨t, m1, hm1, ht, hc1⟩ := text_t (n + 3) (q := 2) (by decide) hm
    obtain ⟨f, m2, hm2, hf, hc2⟩ := ih s (n + 8) m1 hs (by omega) hm1
    refine ⟨.tup [.str wMay, .str t, f], m2, hm2, .may s t f (txt_mono ht (by decide) (by decide)) hf, ?_⟩
    apply c_rt (fn := f__law_inner.fn) rfl rfl
    apply b_nx (x_iff (t_v' (e_cmp (e_idx (e_loc rfl) e_int rfl rfl) e_str (eqs_f (by decide)))) b_nil)
    apply b_nx (x_iff (t_v' (e_cmp (e_idx (e_loc rfl) e_int rfl rfl) e_str (eqs_f (by decide)))) b_nil)
    apply b_nx (x_iff (t_v' (e_cmp (e_idx (e_loc rfl) e_int rfl rfl) e_str (eqs_f (by decide)))) b_nil)
    apply b_rt
    exact x_ift (t_v' (e_cmp (e_idx (e_loc rfl) e_int rfl rfl) e_str (eqs_t rfl))) (b_rt (x_ret (e_tup (l_cons e_str (l_cons (e_call (l_cons (e_loc rfl) (l_cons e_int l_nil)) hc1) (l_cons (e_call (l_cons (e_loc rfl) (l_cons (e_idx (e_loc rfl) e_int rfl rfl) (l_cons (e_loc rfl) l_nil))) hc2) l_nil))))))
  | row l hl hs =>
    obtain ⟨new, m', z5, z6, z7, g1, g2, g3, g4⟩ := parts_loop (n := n + 3) (so := sv (.row l)) ih (by omega) l 0 [] .un .un .un m hs (by rw [List.length_nil]; omega) hm
    rw [List.nil_append] at g4
    refine ⟨.tup [.str wRow, .tup new], m', g1, .row l new hl (by omega) g2, ?_⟩
    apply c_rt (fn := f__law_inner.fn) rfl rfl
    apply b_nx (x_iff (t_v' (e_cmp (e_idx (e_loc rfl) e_int rfl rfl) e_str (eqs_f (by decide)))) b_nil)
    apply b_nx (x_iff (t_v' (e_cmp (e_idx (e_loc rfl) e_int rfl rfl) e_str (eqs_f (by decide)))) b_nil)
    apply b_nx (x_iff (t_v' (e_cmp (e_idx (e_loc rfl) e_int rfl rfl) e_str (eqs_f (by decide)))) b_nil)
    apply b_nx (x_iff (t_v' (e_cmp (e_idx (e_loc rfl) e_int rfl rfl) e_str (eqs_f (by decide)))) b_nil)
    apply b_rt
    exact x_ift (t_v' (e_cmp (e_idx (e_loc rfl) e_int rfl rfl) e_str (eqs_t rfl))) (b_nx (x_asg (e_lst l_nil)) (b_nx (x_for (i_enu' (x := .tup (svs l)) (e_idx (e_loc rfl) e_int rfl rfl) rfl) g4) (b_rt (x_ret (e_tup (l_cons e_str (l_cons (e_bi (l_cons (e_loc rfl) l_nil) rfl) l_nil)))))))
  | man s a b hs hsz =>
    obtain ⟨t1, m1, hm1, ht1, hc1⟩ := text_t (n + 3) (q := 1) (by decide) hm
    obtain ⟨p, m2, hp, hm2, hc2⟩ := dp_l (n + 4) (l := opnL) (by decide) hm1
    obtain ⟨t2, rfl, ht2⟩ := opnL_mem hp
    obtain ⟨t3, m3, hm3, ht3, hc3⟩ := text_t (n + 3) (q := 1) (by decide) hm2
    obtain ⟨p, m4, hp, hm4, hc4⟩ := dp_l (n + 4) (l := cloL) (by decide) hm3
    obtain ⟨t4, rfl, ht4⟩ := cloL_mem hp
    obtain ⟨f, m5, hm5, hf, hc5⟩ := ih s (n + 8) m4 hs (by omega) hm4
    refine ⟨.tup [.str wMan, .str t1, .str t2, .str t3, .str t4, f], m5, hm5, .man s a b t1 t2 t3 t4 f (txt_mono ht1 (by decide) (by decide)) ht2 (txt_mono ht3 (by decide) (by decide)) ht4 hf, ?_⟩
    apply c_rt (fn := f__law_inner.fn) rfl rfl
    apply b_nx (x_iff (t_v' (e_cmp (e_idx (e_loc rfl) e_int rfl rfl) e_str (eqs_f (by decide)))) b_nil)
    apply b_nx (x_iff (t_v' (e_cmp (e_idx (e_loc rfl) e_int rfl rfl) e_str (eqs_f (by decide)))) b_nil)
    apply b_nx (x_iff (t_v' (e_cmp (e_idx (e_loc rfl) e_int rfl rfl) e_str (eqs_f (by decide)))) b_nil)
    apply b_nx (x_iff (t_v' (e_cmp (e_idx (e_loc rfl) e_int rfl rfl) e_str (eqs_f (by decide)))) b_nil)
    apply b_nx (x_iff (t_v' (e_cmp (e_idx (e_loc rfl) e_int rfl rfl) e_str (eqs_f (by decide)))) b_nil)
    apply b_rt
    exact x_ift (t_v' (e_cmp (e_idx (e_loc rfl) e_int rfl rfl) e_str (eqs_t rfl))) (b_rt (x_ret (e_tup (l_cons e_str (l_cons (e_call (l_cons (e_loc rfl) (l_cons e_int l_nil)) hc1) (l_cons (e_call (l_cons (e_loc rfl) (l_cons rfl l_nil)) hc2) (l_cons (e_call (l_cons (e_loc rfl) (l_cons e_int l_nil)) hc3) (l_cons (e_call (l_cons (e_loc rfl) (l_cons rfl l_nil)) hc4) (l_cons (e_call (l_cons (e_loc rfl) (l_cons (e_idx (e_loc rfl) e_int rfl rfl) (l_cons (e_loc rfl) l_nil))) hc5) l_nil)))))))))
  | cas l hl hs =>
    have hi : evi gv (callN gv F3 (n + 8)) (.val (.idx (.loc 1) (.int 1))) [.va (.ref 0), .va (sv (.cas l)), .va (.int (dp : Int)), .un, .un, .un, .un, .un, .un] m = .ok (l.map sv) [.va (.ref 0), .va (sv (.cas l)), .va (.int (dp : Int)), .un, .un, .un, .un, .un, .un] m := by
      rw [← svs_map]
      exact i_val' (x := .tup (svs l)) (e_idx (e_loc rfl) e_int rfl rfl) rfl
    obtain ⟨fs, m', h1, h2, h3, h4⟩ := e_lcdA sv (own := [6]) (tg := .nm 6) (elt := .call 43 (.cons (.loc 0) (.cons (.loc 6) (.cons (.loc 2) .nil)))) (I := DI ns) (P := fun s f => FormP h s f) (fun x => [.va (.ref 0), .va (sv (.cas l)), .va (.int (dp : Int)), .un, .un, .un, .va x, .un, .un]) hi hm (ble_of (by rw [List.length_map]; omega)) (fun x hx => rfl) (fun s hsm m hm => by
      obtain ⟨f, m2, hm2, hf, hc2⟩ := ih s (n + 8) m (hs s hsm) (by omega) hm
      exact ⟨f, m2, e_call (l_cons (e_loc rfl) (l_cons (e_loc rfl) (l_cons (e_loc rfl) l_nil))) hc2, hm2, hf⟩) (fun x hx => rfl)
    refine ⟨.tup [.str wCas, .tup fs], m', h2, .cas l fs h3 hl h4, ?_⟩
    apply c_rt (fn := f__law_inner.fn) rfl rfl
    apply b_nx (x_iff (t_v' (e_cmp (e_idx (e_loc rfl) e_int rfl rfl) e_str (eqs_f (by decide)))) b_nil)
    apply b_nx (x_iff (t_v' (e_cmp (e_idx (e_loc rfl) e_int rfl rfl) e_str (eqs_f (by decide)))) b_nil)
    apply b_nx (x_iff (t_v' (e_cmp (e_idx (e_loc rfl) e_int rfl rfl) e_str (eqs_f (by decide)))) b_nil)
    apply b_nx (x_iff (t_v' (e_cmp (e_idx (e_loc rfl) e_int rfl rfl) e_str (eqs_f (by decide)))) b_nil)
    apply b_nx (x_iff (t_v' (e_cmp (e_idx (e_loc rfl) e_int rfl rfl) e_str (eqs_f (by decide)))) b_nil)
    apply b_nx (x_iff (t_v' (e_cmp (e_idx (e_loc rfl) e_int rfl rfl) e_str (eqs_f (by decide)))) b_nil)
    apply b_rt
    exact x_ret (e_tup (l_cons e_str (l_cons (e_bi (l_cons h1 l_nil) rfl) l_nil)))
def filL : List PV := [.str [48], .str [32], .str [97]]
theorem filL_mem {p : PV} (h : p ∈ filL) : ∃ c, p = .str [c] ∧ SGN.contains c = true := by
  simp only [filL, List.mem_cons, List.not_mem_nil, or_false] at h
  rcases h with rfl | rfl | rfl <;> exact ⟨_, rfl, by decide +kernel⟩
def sidL : List PV := [.str [60], .str [62], .str [94]]
theorem sidL_mem {p : PV} (h : p ∈ sidL) : ∃ w, p = .str w ∧ (w = [60] ∨ w = [62] ∨ w = [94]) := by
  simp only [sidL, List.mem_cons, List.not_mem_nil, or_false] at h
  rcases h with rfl | rfl | rfl
  · exact ⟨_, rfl, .inl rfl⟩
  · exact ⟨_, rfl, .inr (.inl rfl)⟩
  · exact ⟨_, rfl, .inr (.inr rfl)⟩
def modL : List PV := [.int 2, .int 3, .int 5, .int 7]
theorem modL_mem {p : PV} (h : p ∈ modL) : ∃ d : Nat, p = .int (d : Int) ∧ 2 ≤ d ∧ d ≤ 16 := by
  simp only [modL, List.mem_cons, List.not_mem_nil, or_false] at h
  rcases h with rfl | rfl | rfl | rfl
  · exact ⟨2, rfl, by omega⟩
  · exact ⟨3, rfl, by omega⟩
  · exact ⟨5, rfl, by omega⟩
  · exact ⟨7, rfl, by omega⟩
/-- skip, or a format that is of the sort's kind -/
theorem form_end {d dp h n : Nat} (ih : InnT ns d dp (h + 1)) {s : S} {r : Int} {m : List PV} (hS : SortP d s) (hk : 2 * d + 3 * dp + 7 ≤ n + 8) (hm : DI ns m) : ∃ (f : PV) (m' : List PV), DI ns m' ∧ FormP (h + 1) s f ∧ ∃ st,
    xss gv (callN gv F3 (n + 8)) (tlS (tlS (tlS (tlS b__law_form)))) [.va (.ref 0), .va (sv s), .va (.int (dp : Int)), .va (.int r), .un] m = .ok (.rt f) st m' := by
  by_cases h4 : r = 4
  · obtain ⟨q, m1, hm1, q0, q1, hc1⟩ := dn (n + 5) (b := 4) (by decide) hm
    by_cases h0 : q = 0
    · refine ⟨.tup [.str wSki], m1, hm1, .ski s, ?_⟩
      apply Exists.intro
      apply b_rt
      exact x_ret (e_ift (t_allG (t_v' (e_cmp (e_loc rfl) e_int (eq_t h4))) (t_last (t_v' (e_cmp (e_call (l_cons (e_loc rfl) (l_cons e_int l_nil)) hc1) e_int (eq_t h0))))) (e_tup (l_cons e_str l_nil)))
    · obtain ⟨f, m2, hm2, hf, hc2⟩ := ih s (n + 8) m1 hS hk hm1
      refine ⟨f, m2, hm2, hf, ?_⟩
      apply Exists.intro
      apply b_rt
      exact x_ret (e_iff (t_allG (t_v' (e_cmp (e_loc rfl) e_int (eq_t h4))) (t_last (t_v' (e_cmp (e_call (l_cons (e_loc rfl) (l_cons e_int l_nil)) hc1) e_int (eq_f h0))))) (e_call (l_cons (e_loc rfl) (l_cons (e_loc rfl) (l_cons (e_loc rfl) l_nil))) hc2))
  · obtain ⟨f, m2, hm2, hf, hc2⟩ := ih s (n + 8) m hS hk hm
    refine ⟨f, m2, hm2, hf, ?_⟩
    apply Exists.intro
    apply b_rt
    exact x_ret (e_iff (t_allf (t_v' (e_cmp (e_loc rfl) e_int (eq_f h4)))) (e_call (l_cons (e_loc rfl) (l_cons (e_loc rfl) (l_cons (e_loc rfl) l_nil))) hc2))
theorem form_zero {d h : Nat} (ih : InnT ns d 0 (h + 1)) : FormT ns d 0 (h + 1) := by
  intro s k m hS hk hm
  obtain ⟨n, rfl⟩ : ∃ n, k = n + 9 := ⟨k - 9, by
    cases d with
    | zero => exact hS.elim
    | succ d => omega⟩
  obtain ⟨r, m1, hm1, q0, q1, hc⟩ := dn (n + 5) (b := 12) (by decide) hm
  obtain ⟨f, m', hm', hf, st, h1⟩ := form_end (n := n) (r := r) ih hS (by omega) hm1
  refine ⟨f, m', hm', hf, ?_⟩
  apply c_rt (fn := f__law_form.fn) rfl rfl
  apply b_nx (x_asg (e_call (l_cons (e_loc rfl) (l_cons e_int l_nil)) hc))
  apply b_nx (x_iff (t_allf (t_v' (e_cmp (e_loc rfl) e_int (gt_f (by omega))))) b_nil)
  apply b_nx (x_iff (t_allf (t_v' (e_cmp (e_loc rfl) e_int (gt_f (by omega))))) b_nil)
  apply b_nx (x_iff (t_allf (t_v' (e_cmp (e_loc rfl) e_int (gt_f (by omega))))) b_nil)
  exact h1
theorem form_one {d h : Nat} (ih0 : FormT ns d 0 (h + 1)) (ih : InnT ns d 1 (h + 1 + 1)) : FormT ns d 1 (h + 1 + 1) := by
  intro s k m hS hk hm
  obtain ⟨n, rfl⟩ : ∃ n, k = n + 9 := ⟨k - 9, by omega⟩
  obtain ⟨r, m1, hm1, q0, q1, hc⟩ := dn (n + 5) (b := 12) (by decide) hm
  have hgt : cmp .gt (.int ((1 : Nat) : Int)) (.int 0) = some true := rfl
  have hsub : op2 .sub (.int ((1 : Nat) : Int)) (.int 1) = some (.int ((0 : Nat) : Int)) := rfl
  by_cases h3 : r < 3
  · obtain ⟨w, m2, hm2, w0, w1, hc2⟩ := dn (n + 5) (b := 4) (by decide) hm1
    obtain ⟨w, rfl⟩ : ∃ a : Nat, w = (a : Int) := ⟨w.toNat, by omega⟩
    obtain ⟨p, m3, hp, hm3, hc3⟩ := dp_l (n + 4) (l := filL) (by decide) hm2
    obtain ⟨c, rfl, hcs⟩ := filL_mem hp
    obtain ⟨p, m4, hp, hm4, hc4⟩ := dp_l (n + 4) (l := sidL) (by decide) hm3
    obtain ⟨side, rfl, hsd⟩ := sidL_mem hp
    obtain ⟨f, m5, hm5, hf, hc5⟩ := ih0 s (n + 8) m4 hS (by omega) hm4
    refine ⟨.tup [.str wPad, .int (w : Int), .str [c], .str side, f], m5, hm5, .pad s w c side f (by omega) hcs hsd hf, ?_⟩
    apply c_rt (fn := f__law_form.fn) rfl rfl
    apply b_nx (x_asg (e_call (l_cons (e_loc rfl) (l_cons e_int l_nil)) hc))
    apply b_rt
    exact x_ift (t_allt (t_v' (e_cmp (e_loc rfl) e_int hgt)) (t_allt (t_v' (e_cmp (e_loc rfl) e_int (lt_t h3))) t_allnil)) (b_rt (x_ret (e_tup (l_cons e_str (l_cons (e_call (l_cons (e_loc rfl) (l_cons e_int l_nil)) hc2) (l_cons (e_call (l_cons (e_loc rfl) (l_cons rfl l_nil)) hc3) (l_cons (e_call (l_cons (e_loc rfl) (l_cons rfl l_nil)) hc4) (l_cons (e_call (l_cons (e_loc rfl) (l_cons (e_loc rfl) (l_cons (e_op (e_loc rfl) e_int hsub) l_nil))) hc5) l_nil))))))))
  by_cases h4 : r = 3
  · obtain ⟨w, m2, hm2, w0, w1, hc2⟩ := dn (n + 5) (b := 4) (by decide) hm1
    obtain ⟨w, rfl⟩ : ∃ a : Nat, w = (a : Int) := ⟨w.toNat, by omega⟩
    obtain ⟨f, m5, hm5, hf, hc5⟩ := ih0 s (n + 8) m2 hS (by omega) hm2
    refine ⟨.tup [.str wCut, .int (w : Int), f], m5, hm5, .cut s w f (by omega) hf, ?_⟩
    apply c_rt (fn := f__law_form.fn) rfl rfl
    apply b_nx (x_asg (e_call (l_cons (e_loc rfl) (l_cons e_int l_nil)) hc))
    apply b_nx (x_iff (t_allg (t_v' (e_cmp (e_loc rfl) e_int hgt)) (t_allf (t_v' (e_cmp (e_loc rfl) e_int (lt_f (by omega)))))) b_nil)
    apply b_rt
    exact x_ift (t_allt (t_v' (e_cmp (e_loc rfl) e_int hgt)) (t_allt (t_v' (e_cmp (e_loc rfl) e_int (eq_t h4))) t_allnil)) (b_rt (x_ret (e_tup (l_cons e_str (l_cons (e_call (l_cons (e_loc rfl) (l_cons e_int l_nil)) hc2) (l_cons (e_call (l_cons (e_loc rfl) (l_cons (e_loc rfl) (l_cons (e_op (e_loc rfl) e_int hsub) l_nil))) hc5) l_nil))))))
  by_cases h5 : r = 5
  · obtain ⟨q, m2, hm2, w0, w1, hc2⟩ := dn (n + 5) (b := 2) (by decide) hm1
    by_cases h0 : q = 0
    · obtain ⟨p, m3, hp, hm3, hc3⟩ := dp_l (n + 4) (l := modL) (by decide) hm2
      obtain ⟨e, rfl, he⟩ := modL_mem hp
      obtain ⟨w, m4, hm4, w0, w1, hc4⟩ := dn (n + 5) (b := (e : Int) - 1) (by omega) hm3
      obtain ⟨w, rfl⟩ : ∃ a : Nat, w = (a : Int) := ⟨w.toNat, by omega⟩
      have a0 : op2 .sub (.int (e : Int)) (.int 1) = some (.int ((e : Int) - 1)) := rfl
      have a1 : op2 .add (.int 1) (.int (w : Int)) = some (.int ((1 + w : Nat) : Int)) := by
        show some (PV.int _) = _
        congr 2
      obtain ⟨f, m5, hm5, hf, hc5⟩ := ih0 s (n + 8) m4 hS (by omega) hm4
      refine ⟨.tup [.str wChe, .int (e : Int), .int ((1 + w : Nat) : Int), f], m5, hm5, .che s e (1 + w) f he (by omega) hf, ?_⟩
      apply c_rt (fn := f__law_form.fn) rfl rfl
      apply b_nx (x_asg (e_call (l_cons (e_loc rfl) (l_cons e_int l_nil)) hc))
      apply b_nx (x_iff (t_allg (t_v' (e_cmp (e_loc rfl) e_int hgt)) (t_allf (t_v' (e_cmp (e_loc rfl) e_int (lt_f (by omega)))))) b_nil)
      apply b_nx (x_iff (t_allg (t_v' (e_cmp (e_loc rfl) e_int hgt)) (t_allf (t_v' (e_cmp (e_loc rfl) e_int (eq_f (by omega)))))) b_nil)
      apply b_rt
      exact x_ift (t_allG (t_v' (e_cmp (e_loc rfl) e_int hgt)) (t_allG (t_v' (e_cmp (e_loc rfl) e_int (eq_t h5))) (t_last (t_v' (e_cmp (e_call (l_cons (e_loc rfl) (l_cons e_int l_nil)) hc2) e_int (eq_t h0)))))) (b_nx (x_asg (e_call (l_cons (e_loc rfl) (l_cons rfl l_nil)) hc3)) (b_rt (x_ret (e_tup (l_cons e_str (l_cons (e_loc rfl) (l_cons (e_op e_int (e_call (l_cons (e_loc rfl) (l_cons (e_op (e_loc rfl) e_int a0) l_nil)) hc4) a1) (l_cons (e_call (l_cons (e_loc rfl) (l_cons (e_loc rfl) (l_cons (e_op (e_loc rfl) e_int hsub) l_nil))) hc5) l_nil))))))))
    · obtain ⟨f, m', hm', hf, st, h1⟩ := form_end (n := n) (r := r) ih hS (by omega) hm2
      refine ⟨f, m', hm', hf, ?_⟩
      apply c_rt (fn := f__law_form.fn) rfl rfl
      apply b_nx (x_asg (e_call (l_cons (e_loc rfl) (l_cons e_int l_nil)) hc))
      apply b_nx (x_iff (t_allg (t_v' (e_cmp (e_loc rfl) e_int hgt)) (t_allf (t_v' (e_cmp (e_loc rfl) e_int (lt_f (by omega)))))) b_nil)
      apply b_nx (x_iff (t_allg (t_v' (e_cmp (e_loc rfl) e_int hgt)) (t_allf (t_v' (e_cmp (e_loc rfl) e_int (eq_f (by omega)))))) b_nil)
      apply b_nx (x_iff (t_allG (t_v' (e_cmp (e_loc rfl) e_int hgt)) (t_allG (t_v' (e_cmp (e_loc rfl) e_int (eq_t h5))) (t_last (t_v' (e_cmp (e_call (l_cons (e_loc rfl) (l_cons e_int l_nil)) hc2) e_int (eq_f h0)))))) b_nil)
      exact h1
  · obtain ⟨f, m', hm', hf, st, h1⟩ := form_end (n := n) (r := r) ih hS (by omega) hm1
    refine ⟨f, m', hm', hf, ?_⟩
    apply c_rt (fn := f__law_form.fn) rfl rfl
    apply b_nx (x_asg (e_call (l_cons (e_loc rfl) (l_cons e_int l_nil)) hc))
    apply b_nx (x_iff (t_allg (t_v' (e_cmp (e_loc rfl) e_int hgt)) (t_allf (t_v' (e_cmp (e_loc rfl) e_int (lt_f (by omega)))))) b_nil)
    apply b_nx (x_iff (t_allg (t_v' (e_cmp (e_loc rfl) e_int hgt)) (t_allf (t_v' (e_cmp (e_loc rfl) e_int (eq_f (by omega)))))) b_nil)
    apply b_nx (x_iff (t_allg (t_v' (e_cmp (e_loc rfl) e_int hgt)) (t_allf (t_v' (e_cmp (e_loc rfl) e_int (eq_f h5))))) b_nil)
    exact h1
theorem form_none {dp h : Nat} : FormT ns 0 dp h := fun s k m hS => hS.elim
theorem form_0 : ∀ d, FormT ns d 0 d
  | 0 => form_none
  | d + 1 => form_zero (inner_t (form_0 d))
theorem form_1 : ∀ d, FormT ns d 1 (d + 1)
  | 0 => form_none
  | d + 1 => form_one (form_0 (d + 1)) (inner_t (form_1 d))
end
end RA.St


/-! The law of formats that are taken. -/
namespace RA.St
open PySem
mutual
theorem eqP_refl : ∀ p : PV, isD p = true → eqP p p = true
  | .non, _ => rfl
  | .bl b, _ => by simp [eqP]
  | .int i, _ => by simp [eqP]
  | .str x, _ => by simp [eqP]
  | .tup l, h => by simp only [isD] at h; simp only [eqP]; exact eqPs_refl l h
  | .lst l, h => by simp only [isD] at h; simp only [eqP]; exact eqPs_refl l h
  | .fro _, h => by simp [isD] at h
  | .ref _, h => by simp [isD] at h
  | .exc _ _, h => by simp [isD] at h
  | .dic _ _, h => by simp [isD] at h
  | .fn _, h => by simp [isD] at h
  | .cl _, h => by simp [isD] at h
  | .obj _ _, h => by simp [isD] at h
theorem eqPs_refl : ∀ l : List PV, isDs l = true → eqPs l l = true
  | [], _ => rfl
  | p :: l, h => by
    simp only [isDs, Bool.and_eq_true] at h
    simp only [eqPs, Bool.and_eq_true]
    exact ⟨eqP_refl p h.1, eqPs_refl l h.2⟩
end
theorem ne_self {p : PV} (h : isD p = true) (hd : dep p ≤ 64) : cmp .ne p p = some false := by
  show (eqC p p).map not = _
  unfold eqC
  rw [h, Nat.min_self, eqP_refl p h, Nat.ble_eq_true_of_le hd]
  rfl
theorem deps_le {n : Nat} : ∀ {l : List PV}, (∀ x ∈ l, dep x ≤ n) → deps l ≤ n
  | [], _ => Nat.zero_le _
  | x :: l, h => by
    show max (dep x) (deps l) ≤ n
    exact Nat.max_le.mpr ⟨h x (List.mem_cons_self ..), deps_le fun y hy => h y (List.mem_cons_of_mem _ hy)⟩
section
variable {G : List PV} {cf : Nat → List PV → List PV → CR} {s s1 : List Sl} {m : List PV}
/-- things beside each other -/
inductive R2 (R : PV → PV → Prop) : List PV → List PV → Prop where
  | nil : R2 R [] []
  | cons {x y : PV} {l r : List PV} (h : R x y) (t : R2 R l r) : R2 R (x :: l) (y :: r)
theorem R2.len {R : PV → PV → Prop} {l r : List PV} (h : R2 R l r) : r.length = l.length := by
  induction h with
  | nil => rfl
  | cons _ _ ih => rw [List.length_cons, List.length_cons, ih]
theorem lc_rel {g : PV → List Sl → List PV → Res (Option PV)} {l ys : List PV} (h : R2 (fun x y => g x s m = .ok (some y) s m) l ys) : lcL g l s m = .ok ys s m := by
  induction h with
  | nil => rfl
  | @cons x y l r h1 _ ih =>
    show (g x s m).bnd _ = _
    rw [h1]
    show (lcL g l s m).bnd _ = _
    rw [ih]
    rfl
theorem R2.imp {R Q : PV → PV → Prop} {l r : List PV} (h : R2 R l r) (f : ∀ x y, R x y → Q x y) : R2 Q l r := by
  induction h with
  | nil => exact .nil
  | cons h _ ih => exact .cons (f _ _ h) ih
theorem e_lcr {own : List Nat} {elt : Ex} {tg : Tg} {it : It} {l ys : List PV} (hi : evi G cf it s m = .ok l s1 m) (hz : Nat.ble l.length SZ = true)
    (h : R2 (fun x y => ∃ S, asg tg x (wipe s1 own) = some S ∧ ev G cf elt S m = .ok y S m ∧ wipe S own = wipe s1 own) l ys) :
    ev G cf (.lc own elt tg it .nil) s m = .ok (.lst ys) (rest s1 (wipe s1 own) own) m := by
  apply e_lc hi hz
  apply lc_rel
  refine h.imp fun x y ⟨S, h1, h2, h3⟩ => ?_
  rw [h1]
  show (ev G cf elt S m).bnd _ = _
  rw [h2]
  show Res.ok (some y) (wipe S own) m = _
  rw [h3]
end
def PlT (d : Nat) (s : S) (f : PV) : Prop := FormP d s f ∧ dep f ≤ 4 * d ∧ ∀ (k : Nat) (m : List PV), d + 1 ≤ k → callN gv F3 k 7 [sv s] m = .ok f m ∧ callN gv F3 k 8 [sv s] m = .ok f m
theorem mul_names {k : Nat} (h : 1 ≤ k ∧ k ≤ 3) : op2 .mul (.tup [.str []]) (.int (k : Int)) = some (.tup ((List.replicate k []).map .str)) := by
  obtain rfl | rfl | rfl : k = 1 ∨ k = 2 ∨ k = 3 := by omega
  · rfl
  · rfl
  · rfl
theorem no_txt (n : Nat) (h : n ≤ 1000) : Txt [] n := ⟨Nat.zero_le _, h, rfl⟩
/-- parts, with their formats -/
theorem parts_of {P : S → PV → Prop} : ∀ (l : List S), (∀ s ∈ l, ∃ f, P s f) → ∃ fs : List PV, fs.length = l.length ∧ ∀ (j : Nat) (s : S) (f : PV), l[j]? = some s → fs[j]? = some f → P s f
  | [], _ => ⟨[], rfl, fun j s f h => by simp at h⟩
  | s :: l, h => by
    obtain ⟨f, hf⟩ := h s (List.mem_cons_self ..)
    obtain ⟨fs, h1, h2⟩ := parts_of l fun x hx => h x (List.mem_cons_of_mem _ hx)
    refine ⟨f :: fs, by rw [List.length_cons, List.length_cons, h1], fun j x y hx hy => ?_⟩
    cases j with
    | zero =>
      simp only [List.getElem?_cons_zero, Option.some.injEq] at hx hy
      subst hx hy
      exact hf
    | succ j => exact h2 j x y (by simpa using hx) (by simpa using hy)
def enF (j : Nat) : List PV → List PV
  | [] => []
  | f :: fs => .tup [.int j, f] :: enF (j + 1) fs
theorem enF_len : ∀ (j : Nat) (fs : List PV), (enF j fs).length = fs.length
  | _, [] => rfl
  | j, f :: fs => by show (enF (j + 1) fs).length + 1 = _; rw [enF_len (j + 1) fs]; rfl
theorem enF_dep {n : Nat} : ∀ (j : Nat) (fs : List PV), (∀ f ∈ fs, dep f ≤ n) → deps (enF j fs) ≤ n + 1
  | _, [], _ => Nat.zero_le _
  | j, f :: fs, h => by
    show max (dep (.tup [.int j, f])) (deps (enF (j + 1) fs)) ≤ _
    refine Nat.max_le.mpr ⟨?_, enF_dep (j + 1) fs fun x hx => h x (List.mem_cons_of_mem _ hx)⟩
    show max 0 (max (dep f) 0) + 1 ≤ _
    have := h f (List.mem_cons_self ..)
    omega
theorem rowPs_of {P : S → PV → Prop} : ∀ (l : List S) (fs : List PV) (j : Nat), fs.length = l.length → (∀ (j : Nat) (s : S) (f : PV), l[j]? = some s → fs[j]? = some f → P s f) → RowPs P j l (enF j fs)
  | [], [], j, _, _ => .done j
  | [], _ :: _, _, h, _ => by cases h
  | _ :: _, [], _, h, _ => by cases h
  | s :: l, f :: fs, j, h, hP => .part j s l f _ (hP 0 s f rfl rfl) (rowPs_of l fs (j + 1) (by simpa using h) fun i x y hx hy => hP (i + 1) x y (by simpa using hx) (by simpa using hy))
theorem r2_row {Q : S → PV → Prop} {R : PV → PV → Prop} (hQ : ∀ (j : Nat) s f, Q s f → R (.tup [.int j, sv s]) (.tup [.int j, f])) : ∀ (l : List S) (fs : List PV) (j : Nat), fs.length = l.length → (∀ (j : Nat) (s : S) (f : PV), l[j]? = some s → fs[j]? = some f → Q s f) → R2 R (enum j (svs l)) (enF j fs)
  | [], [], j, _, _ => .nil
  | [], _ :: _, _, h, _ => by cases h
  | _ :: _, [], _, h, _ => by cases h
  | s :: l, f :: fs, j, h, hP => .cons (hQ j s f (hP 0 s f rfl rfl)) (r2_row hQ l fs (j + 1) (by simpa using h) fun i x y hx hy => hP (i + 1) x y (by simpa using hx) (by simpa using hy))
theorem r2_cas {Q : S → PV → Prop} {R : PV → PV → Prop} (hQ : ∀ s f, Q s f → R (sv s) f) : ∀ (l : List S) (fs : List PV), fs.length = l.length → (∀ (j : Nat) (s : S) (f : PV), l[j]? = some s → fs[j]? = some f → Q s f) → R2 R (svs l) fs
  | [], [], _, _ => .nil
  | [], _ :: _, h, _ => by cases h
  | _ :: _, [], h, _ => by cases h
  | s :: l, f :: fs, h, hP => .cons (hQ s f (hP 0 s f rfl rfl)) (r2_cas hQ l fs (by simpa using h) fun i x y hx hy => hP (i + 1) x y (by simpa using hx) (by simpa using hy))
theorem en_len : ∀ (j : Nat) (l : List PV), (enum j l).length = l.length
  | _, [] => rfl
  | j, x :: l => by show (enum (j + 1) l).length + 1 = _; rw [en_len (j + 1) l]; rfl
theorem mem_ix {α : Type} {l : List α} {x : α} (h : x ∈ l) : ∃ j : Nat, l[j]? = some x := by
  obtain ⟨j, hj, e⟩ := List.getElem_of_mem h
  exact ⟨j, by rw [List.getElem?_eq_getElem hj, e]⟩
theorem dep_parts {d : Nat} {l : List S} {fs : List PV} (hl : fs.length = l.length) (h : ∀ (j : Nat) (s : S) (f : PV), l[j]? = some s → fs[j]? = some f → PlT d s f) : ∀ f ∈ fs, dep f ≤ 4 * d := fun f hf => by
  obtain ⟨j, hj⟩ := mem_ix hf
  have hlt : j < l.length := by rw [← hl]; exact (List.getElem?_eq_some_iff.mp hj).1
  exact (h j _ f (List.getElem?_eq_getElem hlt) hj).2.1
theorem plain_all : ∀ d s, SortP d s → ∃ f, PlT d s f
  | 0, s, h => h.elim
  | d + 1, s, h => by
    have ih := plain_all d
    cases (show SortQ (SortP d) s from h) with
    | int lo hi =>
      refine ⟨.tup [.str wFig, .int 10, .str [45], .int 1, .int 0, .str [], .str []], .fig lo hi 10 1 0 [45] [] [] (by decide) (by decide) (.inl rfl) (.inl ⟨rfl, rfl⟩) (no_txt 4 (by decide)), by show 1 ≤ _; omega, fun k m hk => ?_⟩
      obtain ⟨n, rfl⟩ : ∃ n, k = n + 1 := ⟨k - 1, by omega⟩
      constructor
      · apply c_rt (fn := f_plain_format.fn) rfl rfl
        apply b_rt
        exact x_mat (e_idx (e_loc rfl) e_int rfl rfl) (m_yes rfl  (b_rt (x_ret (e_glo rfl))))
      · apply c_rt (fn := f__law_plain.fn) rfl rfl
        apply b_rt
        exact x_ift (t_v' (e_cmp (e_idx (e_loc rfl) e_int rfl rfl) e_str (eqs_t rfl))) (b_rt (x_ret rfl))
    | wor le a b hl hs =>
      refine ⟨.tup [.str wPla], .pla le a b, by show 1 ≤ _; omega, fun k m hk => ?_⟩
      obtain ⟨n, rfl⟩ : ∃ n, k = n + 1 := ⟨k - 1, by omega⟩
      constructor
      · apply c_rt (fn := f_plain_format.fn) rfl rfl
        apply b_rt
        exact x_mat (e_idx (e_loc rfl) e_int rfl rfl) (m_no rfl (m_yes rfl  (b_rt (x_ret (e_tup (l_cons e_str l_nil))))))
      · apply c_rt (fn := f__law_plain.fn) rfl rfl
        apply b_nx (x_iff (t_v' (e_cmp (e_idx (e_loc rfl) e_int rfl rfl) e_str (eqs_f (by decide)))) b_nil)
        apply b_rt
        exact x_ift (t_v' (e_cmp (e_idx (e_loc rfl) e_int rfl rfl) e_str (eqs_t rfl))) (b_rt (x_ret rfl))
    | one k hk =>
      refine ⟨.tup [.str wNam, .tup ((List.replicate k []).map .str)], .nam k (List.replicate k []) (List.length_replicate) (by omega) (fun t ht => by rw [(List.mem_replicate.1 ht).2]; exact no_txt 8 (by decide)), ?_, fun j m hj => ?_⟩
      · show max 0 (max (deps _ + 1) 0) + 1 ≤ _
        have : deps ((List.replicate k []).map PV.str) ≤ 0 := deps_le fun x hx => by
          obtain ⟨y, _, rfl⟩ := List.mem_map.1 hx
          exact Nat.le_refl _
        omega
      obtain ⟨n, rfl⟩ : ∃ n, j = n + 1 := ⟨j - 1, by omega⟩
      constructor
      · apply c_rt (fn := f_plain_format.fn) rfl rfl
        apply b_rt
        exact x_mat (e_idx (e_loc rfl) e_int rfl rfl) (m_no rfl (m_no rfl (m_yes rfl  (b_rt (x_ret (e_tup (l_cons e_str (l_cons (e_op (e_tup (l_cons e_str l_nil)) (e_idx (e_loc rfl) e_int rfl rfl) (mul_names hk)) l_nil))))))))
      · apply c_rt (fn := f__law_plain.fn) rfl rfl
        apply b_nx (x_iff (t_v' (e_cmp (e_idx (e_loc rfl) e_int rfl rfl) e_str (eqs_f (by decide)))) b_nil)
        apply b_nx (x_iff (t_v' (e_cmp (e_idx (e_loc rfl) e_int rfl rfl) e_str (eqs_f (by decide)))) b_nil)
        apply b_rt
        exact x_ift (t_v' (e_cmp (e_idx (e_loc rfl) e_int rfl rfl) e_str (eqs_t rfl))) (b_rt (x_ret (e_tup (l_cons e_str (l_cons (e_op (e_tup (l_cons e_str l_nil)) (e_idx (e_loc rfl) e_int rfl rfl) (mul_names hk)) l_nil)))))
    | may s hs =>
      obtain ⟨f, h1, h2, h3⟩ := ih s hs
      refine ⟨.tup [.str wMay, .str [], f], .may s [] f (no_txt 8 (by decide)) h1, by show max 0 (max 0 (max (dep f) 0)) + 1 ≤ _; omega, fun k m hk => ?_⟩
      obtain ⟨n, rfl⟩ : ∃ n, k = n + 1 := ⟨k - 1, by omega⟩
      obtain ⟨c1, c2⟩ := h3 n m (by omega)
      constructor
      · apply c_rt (fn := f_plain_format.fn) rfl rfl
        apply b_rt
        exact x_mat (e_idx (e_loc rfl) e_int rfl rfl) (m_no rfl (m_no rfl (m_no rfl (m_yes rfl  (b_rt (x_ret (e_tup (l_cons e_str (l_cons e_str (l_cons (e_call (l_cons (e_idx (e_loc rfl) e_int rfl rfl) l_nil) c1) l_nil))))))))))
      · apply c_rt (fn := f__law_plain.fn) rfl rfl
        apply b_nx (x_iff (t_v' (e_cmp (e_idx (e_loc rfl) e_int rfl rfl) e_str (eqs_f (by decide)))) b_nil)
        apply b_nx (x_iff (t_v' (e_cmp (e_idx (e_loc rfl) e_int rfl rfl) e_str (eqs_f (by decide)))) b_nil)
        apply b_nx (x_iff (t_v' (e_cmp (e_idx (e_loc rfl) e_int rfl rfl) e_str (eqs_f (by decide)))) b_nil)
        apply b_rt
        exact x_ift (t_v' (e_cmp (e_idx (e_loc rfl) e_int rfl rfl) e_str (eqs_t rfl))) (b_rt (x_ret (e_tup (l_cons e_str (l_cons e_str (l_cons (e_call (l_cons (e_idx (e_loc rfl) e_int rfl rfl) l_nil) c2) l_nil))))))
    | row l hl hs =>
      obtain ⟨fs, h1, h2⟩ := parts_of l fun s hm => ih s (hs s hm)
      have hd := dep_parts h1 h2
      refine ⟨.tup [.str wRow, .tup (enF 0 fs)], .row l _ hl (by rw [enF_len]; omega) (rowPs_of l fs 0 h1 fun j s f a b => (h2 j s f a b).1), by show max 0 (max (deps (enF 0 fs) + 1) 0) + 1 ≤ _; have := enF_dep 0 fs hd; omega, fun k m hk => ?_⟩
      obtain ⟨n, rfl⟩ : ∃ n, k = n + 1 := ⟨k - 1, by omega⟩
      have hz : Nat.ble (enum 0 (svs l)).length SZ = true := by rw [en_len, svs_len]; exact Nat.ble_eq_true_of_le (by show _ ≤ (16777216 : Nat); omega)
      constructor
      · apply c_rt (fn := f_plain_format.fn) rfl rfl
        apply b_rt
        refine x_mat (e_idx (e_loc rfl) e_int rfl rfl) (m_no rfl (m_no rfl (m_no rfl (m_no rfl (m_yes rfl  (b_rt (x_ret (e_tup (l_cons e_str (l_cons (e_bi (l_cons (e_lcr (i_enu' (e_idx (e_loc rfl) e_int rfl rfl) rfl) hz (r2_row ?h l fs 0 h1 h2)) l_nil) rfl) l_nil))))))))))
        case h =>
          intro j s f ⟨_, _, q⟩
          exact ⟨_, rfl, e_tup (l_cons (e_loc rfl) (l_cons (e_call (l_cons (e_loc rfl) l_nil) (q n m (by omega)).1) l_nil)), rfl⟩
      · apply c_rt (fn := f__law_plain.fn) rfl rfl
        apply b_nx (x_iff (t_v' (e_cmp (e_idx (e_loc rfl) e_int rfl rfl) e_str (eqs_f (by decide)))) b_nil)
        apply b_nx (x_iff (t_v' (e_cmp (e_idx (e_loc rfl) e_int rfl rfl) e_str (eqs_f (by decide)))) b_nil)
        apply b_nx (x_iff (t_v' (e_cmp (e_idx (e_loc rfl) e_int rfl rfl) e_str (eqs_f (by decide)))) b_nil)
        apply b_nx (x_iff (t_v' (e_cmp (e_idx (e_loc rfl) e_int rfl rfl) e_str (eqs_f (by decide)))) b_nil)
        apply b_nx (x_iff (t_v' (e_cmp (e_idx (e_loc rfl) e_int rfl rfl) e_str (eqs_f (by decide)))) b_nil)
        apply b_nx (x_iff (t_v' (e_cmp (e_idx (e_loc rfl) e_int rfl rfl) e_str (eqs_f (by decide)))) b_nil)
        apply b_rt
        refine x_ret (e_tup (l_cons e_str (l_cons (e_bi (l_cons (e_lcr (i_enu' (e_idx (e_loc rfl) e_int rfl rfl) rfl) hz (r2_row ?h l fs 0 h1 h2)) l_nil) rfl) l_nil)))
        case h =>
          intro j s f ⟨_, _, q⟩
          exact ⟨_, rfl, e_tup (l_cons (e_loc rfl) (l_cons (e_call (l_cons (e_loc rfl) l_nil) (q n m (by omega)).2) l_nil)), rfl⟩
    | man s a b hs hz =>
      obtain ⟨f, h1, h2, h3⟩ := ih s hs
      refine ⟨.tup [.str wMan, .str [], .str [], .str [], .str [], f], .man s a b [] [] [] [] f (no_txt 4 (by decide)) (no_txt 4 (by decide)) (no_txt 4 (by decide)) (no_txt 4 (by decide)) h1, by show max 0 (max 0 (max 0 (max 0 (max 0 (max (dep f) 0))))) + 1 ≤ _; omega, fun k m hk => ?_⟩
      obtain ⟨n, rfl⟩ : ∃ n, k = n + 1 := ⟨k - 1, by omega⟩
      obtain ⟨c1, c2⟩ := h3 n m (by omega)
      constructor
      · apply c_rt (fn := f_plain_format.fn) rfl rfl
        apply b_rt
        exact x_mat (e_idx (e_loc rfl) e_int rfl rfl) (m_no rfl (m_no rfl (m_no rfl (m_no rfl (m_no rfl (m_yes rfl  (b_rt (x_ret (e_tup (l_cons e_str (l_cons e_str (l_cons e_str (l_cons e_str (l_cons e_str (l_cons (e_call (l_cons (e_idx (e_loc rfl) e_int rfl rfl) l_nil) c1) l_nil)))))))))))))))
      · apply c_rt (fn := f__law_plain.fn) rfl rfl
        apply b_nx (x_iff (t_v' (e_cmp (e_idx (e_loc rfl) e_int rfl rfl) e_str (eqs_f (by decide)))) b_nil)
        apply b_nx (x_iff (t_v' (e_cmp (e_idx (e_loc rfl) e_int rfl rfl) e_str (eqs_f (by decide)))) b_nil)
        apply b_nx (x_iff (t_v' (e_cmp (e_idx (e_loc rfl) e_int rfl rfl) e_str (eqs_f (by decide)))) b_nil)
        apply b_nx (x_iff (t_v' (e_cmp (e_idx (e_loc rfl) e_int rfl rfl) e_str (eqs_f (by decide)))) b_nil)
        apply b_rt
        exact x_ift (t_v' (e_cmp (e_idx (e_loc rfl) e_int rfl rfl) e_str (eqs_t rfl))) (b_rt (x_ret (e_tup (l_cons e_str (l_cons e_str (l_cons e_str (l_cons e_str (l_cons e_str (l_cons (e_call (l_cons (e_idx (e_loc rfl) e_int rfl rfl) l_nil) c2) l_nil)))))))))
    | cas l hl hs =>
      obtain ⟨fs, h1, h2⟩ := parts_of l fun s hm => ih s (hs s hm)
      have hd := dep_parts h1 h2
      refine ⟨.tup [.str wCas, .tup fs], .cas l fs h1 hl fun j s f a b => (h2 j s f a b).1, by show max 0 (max (deps fs + 1) 0) + 1 ≤ _; have := deps_le hd; omega, fun k m hk => ?_⟩
      obtain ⟨n, rfl⟩ : ∃ n, k = n + 1 := ⟨k - 1, by omega⟩
      have hz : Nat.ble (svs l).length SZ = true := by rw [svs_len]; exact Nat.ble_eq_true_of_le (by show _ ≤ (16777216 : Nat); omega)
      constructor
      · apply c_rt (fn := f_plain_format.fn) rfl rfl
        apply b_nx (x_mat (e_idx (e_loc rfl) e_int rfl rfl) (m_no rfl (m_no rfl (m_no rfl (m_no rfl (m_no rfl (m_no rfl m_nil)))))))
        apply b_rt
        refine x_ret (e_tup (l_cons e_str (l_cons (e_bi (l_cons (e_lcr (i_val' (e_idx (e_loc rfl) e_int rfl rfl) rfl) hz (r2_cas ?h l fs h1 h2)) l_nil) rfl) l_nil)))
        case h =>
          intro s f ⟨_, _, q⟩
          exact ⟨_, rfl, e_call (l_cons (e_loc rfl) l_nil) (q n m (by omega)).1, rfl⟩
      · apply c_rt (fn := f__law_plain.fn) rfl rfl
        apply b_nx (x_iff (t_v' (e_cmp (e_idx (e_loc rfl) e_int rfl rfl) e_str (eqs_f (by decide)))) b_nil)
        apply b_nx (x_iff (t_v' (e_cmp (e_idx (e_loc rfl) e_int rfl rfl) e_str (eqs_f (by decide)))) b_nil)
        apply b_nx (x_iff (t_v' (e_cmp (e_idx (e_loc rfl) e_int rfl rfl) e_str (eqs_f (by decide)))) b_nil)
        apply b_nx (x_iff (t_v' (e_cmp (e_idx (e_loc rfl) e_int rfl rfl) e_str (eqs_f (by decide)))) b_nil)
        apply b_nx (x_iff (t_v' (e_cmp (e_idx (e_loc rfl) e_int rfl rfl) e_str (eqs_f (by decide)))) b_nil)
        apply b_rt
        refine x_ift (t_v' (e_cmp (e_idx (e_loc rfl) e_int rfl rfl) e_str (eqs_t rfl))) (b_rt (x_ret (e_tup (l_cons e_str (l_cons (e_bi (l_cons (e_lcr (i_val' (e_idx (e_loc rfl) e_int rfl rfl) rfl) hz (r2_cas ?h l fs h1 h2)) l_nil) rfl) l_nil)))))
        case h =>
          intro s f ⟨_, _, q⟩
          exact ⟨_, rfl, e_call (l_cons (e_loc rfl) l_nil) (q n m (by omega)).2, rfl⟩
def isOkT : CR → Bool
  | .ok (.bl true) [] => true
  | _ => false
theorem ref_known : isOkT (callN gv F3 59 11 [] []) = true := by decide +kernel
theorem ref_known' : callN gv F3 59 11 [] [] = .ok (.bl true) [] := by
  have h := ref_known
  generalize callN gv F3 59 11 [] [] = r at h
  unfold isOkT at h
  split at h
  · rfl
  · cases h
def retM : Res Fl → Option (PV × List PV)
  | .ok (.rt p) _ m => some (p, m)
  | _ => none
theorem ret_of {r : Res Fl} {p : PV} {m : List PV} (h : retM r = some (p, m)) : ∃ s, r = .ok (.rt p) s m := by
  unfold retM at h
  split at h
  · cases h; exact ⟨_, rfl⟩
  · cases h
theorem law_tail (a b c d : PV) (m : List PV) : retM (xss gv (callN gv F3 59) (tlS (tlS (tlS (tlS (tlS (tlS b_law)))))) [.va a, .va b, .va c, .va d, .un, .un, .un, .un, .un, .un, .un, .un, .un] m) = some (.bl true, m) := by kernel_rfl
theorem c_nx {n f : Nat} {fn : Fn} {as m m1 : List PV} {s1 : List Sl} (h : F3[f]? = some fn) (hl : as.length = fn.np) (hb : xss gv (callN gv F3 n) fn.body (as.map .va ++ List.replicate (fn.ns - fn.np) .un) m = .ok .nx s1 m1) : callN gv F3 (n + 1) f as m = .ok .non m1 := by
  rw [callN_at h hl, hb]
theorem x_exp {cf : Nat → List PV → List PV → CR} {e : Ex} {x : PV} {s s1 : List Sl} {m m1 : List PV} (h : ev gv cf e s m = .ok x s1 m1) : xs gv cf (.exp e) s m = .ok .nx s1 m1 := by show (ev gv cf e s m).bnd _ = _; rw [h]; rfl
theorem law_t (ns : List Int) : ∃ m, callN gv F3 60 52 [.fro ns] [] = .ok (.bl true) m := by
  generalize hns : RA.cut ns none (some 63) = us
  have hcut : sliP (.fro ns) none (some 63) = some (.lst (us.map .int)) := by rw [← hns]; rfl
  have hm0 : DI us [.lst [.lst (us.map .int), .int 0, .int 0]] := ⟨0, rfl⟩
  obtain ⟨s, m1, hm1, hS, hc1⟩ := sort_all (ns := us) 2 59 _ (by decide) hm0
  obtain ⟨f, m2, hm2, hF, hc2⟩ := form_1 (ns := us) 3 s 59 m1 hS (by decide) hm1
  have hc3 := is_format_t (h := 4) (k := 58) (m := m2) (by decide) (by decide) hF
  have hc4 := is_format_t (h := 4) (k := 59) (m := m2) (by decide) (by decide) hF
  have hc5 : callN gv F3 59 6 [sv s, f] m2 = .ok .non m2 := by
    apply c_nx (fn := f_check_format.fn) rfl rfl
    exact b_nx (x_iff (t_nf (t_v' (e_call (l_cons (e_loc rfl) (l_cons (e_loc rfl) l_nil)) hc3))) b_nil) b_nil
  obtain ⟨p, hp, hd, hpl⟩ := plain_all 3 s hS
  obtain ⟨q1, q2⟩ := hpl 59 m2 (by decide)
  have hpD : isD p = true := form_isD 3 _ _ hp
  have hc6 := is_format_t (h := 3) (k := 59) (m := m2) (by decide) (by decide) hp
  obtain ⟨st, ht⟩ := ret_of (law_tail (.fro ns) (.ref 0) (sv s) f m2)
  refine ⟨m2, ?_⟩
  apply c_rt (fn := f_law.fn) rfl rfl
  have first : ∃ st, xs gv (callN gv F3 59) (.ift (.all (.cons (.v (.cmp .lt (.bi .len (.cons (.loc 0) .nil)) (.int 3))) (.cons (.nt (.v (.call 11 .nil))) .nil))) (.cons (.ret (.bl false)) .nil) .nil) [.va (.fro ns), .un, .un, .un, .un, .un, .un, .un, .un, .un, .un, .un, .un] [] = .ok .nx [.va (.fro ns), .un, .un, .un, .un, .un, .un, .un, .un, .un, .un, .un, .un] st ∧ st = [] := by
    refine ⟨[], ?_, rfl⟩
    by_cases h3 : (ns.length : Int) < 3
    · exact x_iff (t_allg (t_v' (e_cmp (e_bi (l_cons (e_loc rfl) l_nil) rfl) e_int (lt_t h3))) (t_allf (t_nf (t_v' (e_call l_nil ref_known'))))) b_nil
    · exact x_iff (t_allf (t_v' (e_cmp (e_bi (l_cons (e_loc rfl) l_nil) rfl) e_int (lt_f (by omega))))) b_nil
  obtain ⟨st0, hf, rfl⟩ := first
  apply b_nx hf
  apply b_nx (x_cell (l_cons (e_sli (e_loc rfl) o_no (o_so e_int) hcut) (l_cons e_int (l_cons e_int l_nil))))
  apply b_nx (x_asg (e_call (l_cons (e_loc rfl) (l_cons e_int l_nil)) hc1))
  apply b_nx (x_asg (e_call (l_cons (e_loc rfl) (l_cons (e_loc rfl) (l_cons e_int l_nil))) hc2))
  apply b_nx (x_exp (e_call (l_cons (e_loc rfl) (l_cons (e_loc rfl) l_nil)) hc5))
  apply b_nx (x_iff (t_anyf (t_nf (t_v' (e_call (l_cons (e_loc rfl) (l_cons (e_loc rfl) l_nil)) hc4))) (t_anyf (t_v' (e_cmp (e_call (l_cons (e_loc rfl) l_nil) q1) (e_call (l_cons (e_loc rfl) l_nil) q2) (ne_self hpD (by omega)))) (t_anyf (t_nf (t_v' (e_call (l_cons (e_loc rfl) (l_cons (e_call (l_cons (e_loc rfl) l_nil) q1) l_nil)) hc6))) t_anynil))) b_nil)
  exact ht
end RA.St
namespace RA
theorem law_true (ns : List Int) (_ : ns.length ≤ 63) : ∃ m, callN gv (fis.map FI.fn) 60 52 [.fro ns] [] = .ok (.bl true) m := St.law_t ns
end RA

namespace RA
open PySem L2
set_option maxHeartbeats 8000000 in
theorem pg_mk {P : Program} {w : World} {K : PySem.W.Frag} {h : Heap} {mg : Str → Option Value} (X : K.In h) (G : h.Ns mainGlobals mg)
    {f0 : Addr} {od0 an0 : Option Addr} {sl0 : Array (Option Value)} {oc0 kV0 dc0 pm0 cd0 ct0 : Value}
    {f1 : Addr} {od1 an1 : Option Addr} {sl1 : Array (Option Value)} {oc1 kV1 dc1 pm1 cd1 ct1 : Value}
    {f2 : Addr} {od2 an2 : Option Addr} {sl2 : Array (Option Value)} {oc2 kV2 dc2 pm2 cd2 ct2 : Value}
    {f3 : Addr} {od3 an3 : Option Addr} {sl3 : Array (Option Value)} {oc3 kV3 dc3 pm3 cd3 ct3 : Value}
    {f4 : Addr} {od4 an4 : Option Addr} {sl4 : Array (Option Value)} {oc4 kV4 dc4 pm4 cd4 ct4 : Value}
    {f5 : Addr} {od5 an5 : Option Addr} {sl5 : Array (Option Value)} {oc5 kV5 dc5 pm5 cd5 ct5 : Value}
    {f6 : Addr} {od6 an6 : Option Addr} {sl6 : Array (Option Value)} {oc6 kV6 dc6 pm6 cd6 ct6 : Value}
    {f7 : Addr} {od7 an7 : Option Addr} {sl7 : Array (Option Value)} {oc7 kV7 dc7 pm7 cd7 ct7 : Value}
    {f8 : Addr} {od8 an8 : Option Addr} {sl8 : Array (Option Value)} {oc8 kV8 dc8 pm8 cd8 ct8 : Value}
    {f9 : Addr} {od9 an9 : Option Addr} {sl9 : Array (Option Value)} {oc9 kV9 dc9 pm9 cd9 ct9 : Value}
    {f10 : Addr} {od10 an10 : Option Addr} {sl10 : Array (Option Value)} {oc10 kV10 dc10 pm10 cd10 ct10 : Value}
    {f11 : Addr} {od11 an11 : Option Addr} {sl11 : Array (Option Value)} {oc11 kV11 dc11 pm11 cd11 ct11 : Value}
    {f12 : Addr} {od12 an12 : Option Addr} {sl12 : Array (Option Value)} {oc12 kV12 dc12 pm12 cd12 ct12 : Value}
    {f13 : Addr} {od13 an13 : Option Addr} {sl13 : Array (Option Value)} {oc13 kV13 dc13 pm13 cd13 ct13 : Value}
    {f14 : Addr} {od14 an14 : Option Addr} {sl14 : Array (Option Value)} {oc14 kV14 dc14 pm14 cd14 ct14 : Value}
    {f15 : Addr} {od15 an15 : Option Addr} {sl15 : Array (Option Value)} {oc15 kV15 dc15 pm15 cd15 ct15 : Value}
    {f16 : Addr} {od16 an16 : Option Addr} {sl16 : Array (Option Value)} {oc16 kV16 dc16 pm16 cd16 ct16 : Value}
    {f17 : Addr} {od17 an17 : Option Addr} {sl17 : Array (Option Value)} {oc17 kV17 dc17 pm17 cd17 ct17 : Value}
    {f18 : Addr} {od18 an18 : Option Addr} {sl18 : Array (Option Value)} {oc18 kV18 dc18 pm18 cd18 ct18 : Value}
    {f19 : Addr} {od19 an19 : Option Addr} {sl19 : Array (Option Value)} {oc19 kV19 dc19 pm19 cd19 ct19 : Value}
    {f20 : Addr} {od20 an20 : Option Addr} {sl20 : Array (Option Value)} {oc20 kV20 dc20 pm20 cd20 ct20 : Value}
    {f21 : Addr} {od21 an21 : Option Addr} {sl21 : Array (Option Value)} {oc21 kV21 dc21 pm21 cd21 ct21 : Value}
    {f22 : Addr} {od22 an22 : Option Addr} {sl22 : Array (Option Value)} {oc22 kV22 dc22 pm22 cd22 ct22 : Value}
    {f23 : Addr} {od23 an23 : Option Addr} {sl23 : Array (Option Value)} {oc23 kV23 dc23 pm23 cd23 ct23 : Value}
    {f24 : Addr} {od24 an24 : Option Addr} {sl24 : Array (Option Value)} {oc24 kV24 dc24 pm24 cd24 ct24 : Value}
    {f25 : Addr} {od25 an25 : Option Addr} {sl25 : Array (Option Value)} {oc25 kV25 dc25 pm25 cd25 ct25 : Value}
    {f26 : Addr} {od26 an26 : Option Addr} {sl26 : Array (Option Value)} {oc26 kV26 dc26 pm26 cd26 ct26 : Value}
    {f27 : Addr} {od27 an27 : Option Addr} {sl27 : Array (Option Value)} {oc27 kV27 dc27 pm27 cd27 ct27 : Value}
    {f28 : Addr} {od28 an28 : Option Addr} {sl28 : Array (Option Value)} {oc28 kV28 dc28 pm28 cd28 ct28 : Value}
    {f29 : Addr} {od29 an29 : Option Addr} {sl29 : Array (Option Value)} {oc29 kV29 dc29 pm29 cd29 ct29 : Value}
    {f30 : Addr} {od30 an30 : Option Addr} {sl30 : Array (Option Value)} {oc30 kV30 dc30 pm30 cd30 ct30 : Value}
    {f31 : Addr} {od31 an31 : Option Addr} {sl31 : Array (Option Value)} {oc31 kV31 dc31 pm31 cd31 ct31 : Value}
    {f32 : Addr} {od32 an32 : Option Addr} {sl32 : Array (Option Value)} {oc32 kV32 dc32 pm32 cd32 ct32 : Value}
    {f33 : Addr} {od33 an33 : Option Addr} {sl33 : Array (Option Value)} {oc33 kV33 dc33 pm33 cd33 ct33 : Value}
    {f34 : Addr} {od34 an34 : Option Addr} {sl34 : Array (Option Value)} {oc34 kV34 dc34 pm34 cd34 ct34 : Value}
    {f35 : Addr} {od35 an35 : Option Addr} {sl35 : Array (Option Value)} {oc35 kV35 dc35 pm35 cd35 ct35 : Value}
    {f36 : Addr} {od36 an36 : Option Addr} {sl36 : Array (Option Value)} {oc36 kV36 dc36 pm36 cd36 ct36 : Value}
    {f37 : Addr} {od37 an37 : Option Addr} {sl37 : Array (Option Value)} {oc37 kV37 dc37 pm37 cd37 ct37 : Value}
    {f38 : Addr} {od38 an38 : Option Addr} {sl38 : Array (Option Value)} {oc38 kV38 dc38 pm38 cd38 ct38 : Value}
    {f39 : Addr} {od39 an39 : Option Addr} {sl39 : Array (Option Value)} {oc39 kV39 dc39 pm39 cd39 ct39 : Value}
    {f40 : Addr} {od40 an40 : Option Addr} {sl40 : Array (Option Value)} {oc40 kV40 dc40 pm40 cd40 ct40 : Value}
    {f41 : Addr} {od41 an41 : Option Addr} {sl41 : Array (Option Value)} {oc41 kV41 dc41 pm41 cd41 ct41 : Value}
    {f42 : Addr} {od42 an42 : Option Addr} {sl42 : Array (Option Value)} {oc42 kV42 dc42 pm42 cd42 ct42 : Value}
    {f43 : Addr} {od43 an43 : Option Addr} {sl43 : Array (Option Value)} {oc43 kV43 dc43 pm43 cd43 ct43 : Value}
    {f44 : Addr} {od44 an44 : Option Addr} {sl44 : Array (Option Value)} {oc44 kV44 dc44 pm44 cd44 ct44 : Value}
    {f45 : Addr} {od45 an45 : Option Addr} {sl45 : Array (Option Value)} {oc45 kV45 dc45 pm45 cd45 ct45 : Value}
    {f46 : Addr} {od46 an46 : Option Addr} {sl46 : Array (Option Value)} {oc46 kV46 dc46 pm46 cd46 ct46 : Value}
    {f47 : Addr} {od47 an47 : Option Addr} {sl47 : Array (Option Value)} {oc47 kV47 dc47 pm47 cd47 ct47 : Value}
    {f48 : Addr} {od48 an48 : Option Addr} {sl48 : Array (Option Value)} {oc48 kV48 dc48 pm48 cd48 ct48 : Value}
    {f49 : Addr} {od49 an49 : Option Addr} {sl49 : Array (Option Value)} {oc49 kV49 dc49 pm49 cd49 ct49 : Value}
    {f50 : Addr} {od50 an50 : Option Addr} {sl50 : Array (Option Value)} {oc50 kV50 dc50 pm50 cd50 ct50 : Value}
    {f51 : Addr} {od51 an51 : Option Addr} {sl51 : Array (Option Value)} {oc51 kV51 dc51 pm51 cd51 ct51 : Value}
    {f52 : Addr} {od52 an52 : Option Addr} {sl52 : Array (Option Value)} {oc52 kV52 dc52 pm52 cd52 ct52 : Value}
    {gt0 : Tok}
    {gt1 : Tok}
    {gt2 : Tok}
    {gt3 : Tok}
    {gt4 : Tok}
    {gt5 : Tok}
    {gt6 : Tok}
    {gt7 : Tok}
    {gt8 : Tok}
    {gt9 : Tok}
    {gt10 : Tok}
    {ga11 : Addr} {gn11 : Nat} {gs11 : Array (Option Value)} {gt11_0 gt11_1 gt11_2 : Tok}
    {ga12 : Addr} {gn12 : Nat} {gs12 : Array (Option Value)} {gt12_0 gt12_1 gt12_2 : Tok}
    {gt13 : Tok}
    {ga14 : Addr} {gn14 : Nat} {gs14 : Array (Option Value)} {gt14_0 gt14_1 gt14_2 gt14_3 gt14_4 gt14_5 gt14_6 : Tok}
    {C0 fi0 cc0 cda0 Nn0 : Addr} {nm0 qn0 : Str} {bs0 bm0 sb0 : List Value} {sn0 : List Str} {ab0 : Bool} {col0 : Option Bool} {dd0 xod0 xan0 cdd0 cld0 : Option Addr} {k0_0 k1_0 k2_0 k3_0 k5_0 : Option Value} {xoc0 xkV0 xdc0 xpm0 xct0 ccl0 xcl0 : Value} {osl0 ccs0 csl0 : Array (Option Value)} {vs0 : Array Value} {fi_0 : Str} {tf0 : Tok} {cdD0 : ClassData}
    (a0 : PySem.W.nsIn K mainGlobals "is_whole" = some (some (.ref f0)))
    (l0 : K.lookup f0 = some ⟨oc0, od0, .func (PySem.W.fnOf "is_whole" "is_whole" (defArgs (top 6)) (defBody (top 6)) (defScope (top 6)) .none kV0 dc0 pm0 an0 cd0 ct0), sl0⟩)
    (c0 : PySem.W.codeIn K cd0 "is_whole" = true)
    (k0 : PySem.W.keepIn K (.ref f0) = true)
    (a1 : PySem.W.nsIn K mainGlobals "is_from" = some (some (.ref f1)))
    (l1 : K.lookup f1 = some ⟨oc1, od1, .func (PySem.W.fnOf "is_from" "is_from" (defArgs (top 7)) (defBody (top 7)) (defScope (top 7)) .none kV1 dc1 pm1 an1 cd1 ct1), sl1⟩)
    (c1 : PySem.W.codeIn K cd1 "is_from" = true)
    (k1 : PySem.W.keepIn K (.ref f1) = true)
    (a2 : PySem.W.nsIn K mainGlobals "is_text" = some (some (.ref f2)))
    (l2 : K.lookup f2 = some ⟨oc2, od2, .func (PySem.W.fnOf "is_text" "is_text" (defArgs (top 8)) (defBody (top 8)) (defScope (top 8)) .none kV2 dc2 pm2 an2 cd2 ct2), sl2⟩)
    (c2 : PySem.W.codeIn K cd2 "is_text" = true)
    (k2 : PySem.W.keepIn K (.ref f2) = true)
    (a3 : PySem.W.nsIn K mainGlobals "is_sign" = some (some (.ref f3)))
    (l3 : K.lookup f3 = some ⟨oc3, od3, .func (PySem.W.fnOf "is_sign" "is_sign" (defArgs (top 9)) (defBody (top 9)) (defScope (top 9)) .none kV3 dc3 pm3 an3 cd3 ct3), sl3⟩)
    (c3 : PySem.W.codeIn K cd3 "is_sign" = true)
    (k3 : PySem.W.keepIn K (.ref f3) = true)
    (a4 : PySem.W.nsIn K mainGlobals "is_row" = some (some (.ref f4)))
    (l4 : K.lookup f4 = some ⟨oc4, od4, .func (PySem.W.fnOf "is_row" "is_row" (defArgs (top 10)) (defBody (top 10)) (defScope (top 10)) .none kV4 dc4 pm4 an4 cd4 ct4), sl4⟩)
    (c4 : PySem.W.codeIn K cd4 "is_row" = true)
    (k4 : PySem.W.keepIn K (.ref f4) = true)
    (a5 : PySem.W.nsIn K mainGlobals "are_rising" = some (some (.ref f5)))
    (l5 : K.lookup f5 = some ⟨oc5, od5, .func (PySem.W.fnOf "are_rising" "are_rising" (defArgs (top 11)) (defBody (top 11)) (defScope (top 11)) .none kV5 dc5 pm5 an5 cd5 ct5), sl5⟩)
    (c5 : PySem.W.codeIn K cd5 "are_rising" = true)
    (k5 : PySem.W.keepIn K (.ref f5) = true)
    (a6 : PySem.W.nsIn K mainGlobals "check_format" = some (some (.ref f6)))
    (l6 : K.lookup f6 = some ⟨oc6, od6, .func (PySem.W.fnOf "check_format" "check_format" (defArgs (top 37)) (defBody (top 37)) (defScope (top 37)) .none kV6 dc6 pm6 an6 cd6 ct6), sl6⟩)
    (c6 : PySem.W.codeIn K cd6 "check_format" = true)
    (k6 : PySem.W.keepIn K (.ref f6) = true)
    (a7 : PySem.W.nsIn K mainGlobals "plain_format" = some (some (.ref f7)))
    (l7 : K.lookup f7 = some ⟨oc7, od7, .func (PySem.W.fnOf "plain_format" "plain_format" (defArgs (top 38)) (defBody (top 38)) (defScope (top 38)) .none kV7 dc7 pm7 an7 cd7 ct7), sl7⟩)
    (c7 : PySem.W.codeIn K cd7 "plain_format" = true)
    (k7 : PySem.W.keepIn K (.ref f7) = true)
    (a8 : PySem.W.nsIn K mainGlobals "_law_plain" = some (some (.ref f8)))
    (l8 : K.lookup f8 = some ⟨oc8, od8, .func (PySem.W.fnOf "_law_plain" "_law_plain" (defArgs (top 50)) (defBody (top 50)) (defScope (top 50)) .none kV8 dc8 pm8 an8 cd8 ct8), sl8⟩)
    (c8 : PySem.W.codeIn K cd8 "_law_plain" = true)
    (k8 : PySem.W.keepIn K (.ref f8) = true)
    (a9 : PySem.W.nsIn K mainGlobals "_law_figures_wrong" = some (some (.ref f9)))
    (l9 : K.lookup f9 = some ⟨oc9, od9, .func (PySem.W.fnOf "_law_figures_wrong" "_law_figures_wrong" (defArgs (top 51)) (defBody (top 51)) (defScope (top 51)) .none kV9 dc9 pm9 an9 cd9 ct9), sl9⟩)
    (c9 : PySem.W.codeIn K cd9 "_law_figures_wrong" = true)
    (k9 : PySem.W.keepIn K (.ref f9) = true)
    (a10 : PySem.W.nsIn K mainGlobals "_law_wrong" = some (some (.ref f10)))
    (l10 : K.lookup f10 = some ⟨oc10, od10, .func (PySem.W.fnOf "_law_wrong" "_law_wrong" (defArgs (top 52)) (defBody (top 52)) (defScope (top 52)) .none kV10 dc10 pm10 an10 cd10 ct10), sl10⟩)
    (c10 : PySem.W.codeIn K cd10 "_law_wrong" = true)
    (k10 : PySem.W.keepIn K (.ref f10) = true)
    (a11 : PySem.W.nsIn K mainGlobals "_law_refuses_known" = some (some (.ref f11)))
    (l11 : K.lookup f11 = some ⟨oc11, od11, .func (PySem.W.fnOf "_law_refuses_known" "_law_refuses_known" (defArgs (top 53)) (defBody (top 53)) (defScope (top 53)) .none kV11 dc11 pm11 an11 cd11 ct11), sl11⟩)
    (c11 : PySem.W.codeIn K cd11 "_law_refuses_known" = true)
    (k11 : PySem.W.keepIn K (.ref f11) = true)
    (a12 : PySem.W.nsIn K mainGlobals "is_whole" = some (some (.ref f12)))
    (l12 : K.lookup f12 = some ⟨oc12, od12, .func (PySem.W.fnOf "is_whole" "is_whole" (defArgs (top 6)) (defBody (top 6)) (defScope (top 6)) .none kV12 dc12 pm12 an12 cd12 ct12), sl12⟩)
    (c12 : PySem.W.codeIn K cd12 "is_whole" = true)
    (k12 : PySem.W.keepIn K (.ref f12) = true)
    (a13 : PySem.W.nsIn K mainGlobals "is_whole" = some (some (.ref f13)))
    (l13 : K.lookup f13 = some ⟨oc13, od13, .func (PySem.W.fnOf "is_whole" "is_whole" (defArgs (top 6)) (defBody (top 6)) (defScope (top 6)) .none kV13 dc13 pm13 an13 cd13 ct13), sl13⟩)
    (c13 : PySem.W.codeIn K cd13 "is_whole" = true)
    (k13 : PySem.W.keepIn K (.ref f13) = true)
    (a14 : PySem.W.nsIn K mainGlobals "is_whole" = some (some (.ref f14)))
    (l14 : K.lookup f14 = some ⟨oc14, od14, .func (PySem.W.fnOf "is_whole" "is_whole" (defArgs (top 6)) (defBody (top 6)) (defScope (top 6)) .none kV14 dc14 pm14 an14 cd14 ct14), sl14⟩)
    (c14 : PySem.W.codeIn K cd14 "is_whole" = true)
    (k14 : PySem.W.keepIn K (.ref f14) = true)
    (a15 : PySem.W.nsIn K mainGlobals "is_whole" = some (some (.ref f15)))
    (l15 : K.lookup f15 = some ⟨oc15, od15, .func (PySem.W.fnOf "is_whole" "is_whole" (defArgs (top 6)) (defBody (top 6)) (defScope (top 6)) .none kV15 dc15 pm15 an15 cd15 ct15), sl15⟩)
    (c15 : PySem.W.codeIn K cd15 "is_whole" = true)
    (k15 : PySem.W.keepIn K (.ref f15) = true)
    (a16 : PySem.W.nsIn K mainGlobals "is_whole" = some (some (.ref f16)))
    (l16 : K.lookup f16 = some ⟨oc16, od16, .func (PySem.W.fnOf "is_whole" "is_whole" (defArgs (top 6)) (defBody (top 6)) (defScope (top 6)) .none kV16 dc16 pm16 an16 cd16 ct16), sl16⟩)
    (c16 : PySem.W.codeIn K cd16 "is_whole" = true)
    (k16 : PySem.W.keepIn K (.ref f16) = true)
    (a17 : PySem.W.nsIn K mainGlobals "is_whole" = some (some (.ref f17)))
    (l17 : K.lookup f17 = some ⟨oc17, od17, .func (PySem.W.fnOf "is_whole" "is_whole" (defArgs (top 6)) (defBody (top 6)) (defScope (top 6)) .none kV17 dc17 pm17 an17 cd17 ct17), sl17⟩)
    (c17 : PySem.W.codeIn K cd17 "is_whole" = true)
    (k17 : PySem.W.keepIn K (.ref f17) = true)
    (a18 : PySem.W.nsIn K mainGlobals "is_whole" = some (some (.ref f18)))
    (l18 : K.lookup f18 = some ⟨oc18, od18, .func (PySem.W.fnOf "is_whole" "is_whole" (defArgs (top 6)) (defBody (top 6)) (defScope (top 6)) .none kV18 dc18 pm18 an18 cd18 ct18), sl18⟩)
    (c18 : PySem.W.codeIn K cd18 "is_whole" = true)
    (k18 : PySem.W.keepIn K (.ref f18) = true)
    (a19 : PySem.W.nsIn K mainGlobals "is_whole" = some (some (.ref f19)))
    (l19 : K.lookup f19 = some ⟨oc19, od19, .func (PySem.W.fnOf "is_whole" "is_whole" (defArgs (top 6)) (defBody (top 6)) (defScope (top 6)) .none kV19 dc19 pm19 an19 cd19 ct19), sl19⟩)
    (c19 : PySem.W.codeIn K cd19 "is_whole" = true)
    (k19 : PySem.W.keepIn K (.ref f19) = true)
    (a20 : PySem.W.nsIn K mainGlobals "is_whole" = some (some (.ref f20)))
    (l20 : K.lookup f20 = some ⟨oc20, od20, .func (PySem.W.fnOf "is_whole" "is_whole" (defArgs (top 6)) (defBody (top 6)) (defScope (top 6)) .none kV20 dc20 pm20 an20 cd20 ct20), sl20⟩)
    (c20 : PySem.W.codeIn K cd20 "is_whole" = true)
    (k20 : PySem.W.keepIn K (.ref f20) = true)
    (a21 : PySem.W.nsIn K mainGlobals "is_figures" = some (some (.ref f21)))
    (l21 : K.lookup f21 = some ⟨oc21, od21, .func (PySem.W.fnOf "is_figures" "is_figures" (defArgs (top 26)) (defBody (top 26)) (defScope (top 26)) .none kV21 dc21 pm21 an21 cd21 ct21), sl21⟩)
    (c21 : PySem.W.codeIn K cd21 "is_figures" = true)
    (k21 : PySem.W.keepIn K (.ref f21) = true)
    (a22 : PySem.W.nsIn K mainGlobals "is_powers" = some (some (.ref f22)))
    (l22 : K.lookup f22 = some ⟨oc22, od22, .func (PySem.W.fnOf "is_powers" "is_powers" (defArgs (top 27)) (defBody (top 27)) (defScope (top 27)) .none kV22 dc22 pm22 an22 cd22 ct22), sl22⟩)
    (c22 : PySem.W.codeIn K cd22 "is_powers" = true)
    (k22 : PySem.W.keepIn K (.ref f22) = true)
    (a23 : PySem.W.nsIn K mainGlobals "is_spelled" = some (some (.ref f23)))
    (l23 : K.lookup f23 = some ⟨oc23, od23, .func (PySem.W.fnOf "is_spelled" "is_spelled" (defArgs (top 28)) (defBody (top 28)) (defScope (top 28)) .none kV23 dc23 pm23 an23 cd23 ct23), sl23⟩)
    (c23 : PySem.W.codeIn K cd23 "is_spelled" = true)
    (k23 : PySem.W.keepIn K (.ref f23) = true)
    (a24 : PySem.W.nsIn K mainGlobals "is_quoted" = some (some (.ref f24)))
    (l24 : K.lookup f24 = some ⟨oc24, od24, .func (PySem.W.fnOf "is_quoted" "is_quoted" (defArgs (top 29)) (defBody (top 29)) (defScope (top 29)) .none kV24 dc24 pm24 an24 cd24 ct24), sl24⟩)
    (c24 : PySem.W.codeIn K cd24 "is_quoted" = true)
    (k24 : PySem.W.keepIn K (.ref f24) = true)
    (a25 : PySem.W.nsIn K mainGlobals "is_around" = some (some (.ref f25)))
    (l25 : K.lookup f25 = some ⟨oc25, od25, .func (PySem.W.fnOf "is_around" "is_around" (defArgs (top 30)) (defBody (top 30)) (defScope (top 30)) .none kV25 dc25 pm25 an25 cd25 ct25), sl25⟩)
    (c25 : PySem.W.codeIn K cd25 "is_around" = true)
    (k25 : PySem.W.keepIn K (.ref f25) = true)
    (a26 : PySem.W.nsIn K mainGlobals "is_row_told" = some (some (.ref f26)))
    (l26 : K.lookup f26 = some ⟨oc26, od26, .func (PySem.W.fnOf "is_row_told" "is_row_told" (defArgs (top 31)) (defBody (top 31)) (defScope (top 31)) .none kV26 dc26 pm26 an26 cd26 ct26), sl26⟩)
    (c26 : PySem.W.codeIn K cd26 "is_row_told" = true)
    (k26 : PySem.W.keepIn K (.ref f26) = true)
    (a27 : PySem.W.nsIn K mainGlobals "is_many_told" = some (some (.ref f27)))
    (l27 : K.lookup f27 = some ⟨oc27, od27, .func (PySem.W.fnOf "is_many_told" "is_many_told" (defArgs (top 32)) (defBody (top 32)) (defScope (top 32)) .none kV27 dc27 pm27 an27 cd27 ct27), sl27⟩)
    (c27 : PySem.W.codeIn K cd27 "is_many_told" = true)
    (k27 : PySem.W.keepIn K (.ref f27) = true)
    (a28 : PySem.W.nsIn K mainGlobals "is_told" = some (some (.ref f28)))
    (l28 : K.lookup f28 = some ⟨oc28, od28, .func (PySem.W.fnOf "is_told" "is_told" (defArgs (top 33)) (defBody (top 33)) (defScope (top 33)) .none kV28 dc28 pm28 an28 cd28 ct28), sl28⟩)
    (c28 : PySem.W.codeIn K cd28 "is_told" = true)
    (k28 : PySem.W.keepIn K (.ref f28) = true)
    (a29 : PySem.W.nsIn K mainGlobals "within" = some (some (.ref f29)))
    (l29 : K.lookup f29 = some ⟨oc29, od29, .func (PySem.W.fnOf "within" "within" (defArgs (top 34)) (defBody (top 34)) (defScope (top 34)) .none kV29 dc29 pm29 an29 cd29 ct29), sl29⟩)
    (c29 : PySem.W.codeIn K cd29 "within" = true)
    (k29 : PySem.W.keepIn K (.ref f29) = true)
    (a30 : PySem.W.nsIn K mainGlobals "count_of" = some (some (.ref f30)))
    (l30 : K.lookup f30 = some ⟨oc30, od30, .func (PySem.W.fnOf "count_of" "count_of" (defArgs (top 35)) (defBody (top 35)) (defScope (top 35)) .none kV30 dc30 pm30 an30 cd30 ct30), sl30⟩)
    (c30 : PySem.W.codeIn K cd30 "count_of" = true)
    (k30 : PySem.W.keepIn K (.ref f30) = true)
    (a31 : PySem.W.nsIn K mainGlobals "is_format" = some (some (.ref f31)))
    (l31 : K.lookup f31 = some ⟨oc31, od31, .func (PySem.W.fnOf "is_format" "is_format" (defArgs (top 36)) (defBody (top 36)) (defScope (top 36)) .none kV31 dc31 pm31 an31 cd31 ct31), sl31⟩)
    (c31 : PySem.W.codeIn K cd31 "is_format" = true)
    (k31 : PySem.W.keepIn K (.ref f31) = true)
    (a32 : PySem.W.nsIn K mainGlobals "is_whole" = some (some (.ref f32)))
    (l32 : K.lookup f32 = some ⟨oc32, od32, .func (PySem.W.fnOf "is_whole" "is_whole" (defArgs (top 6)) (defBody (top 6)) (defScope (top 6)) .none kV32 dc32 pm32 an32 cd32 ct32), sl32⟩)
    (c32 : PySem.W.codeIn K cd32 "is_whole" = true)
    (k32 : PySem.W.keepIn K (.ref f32) = true)
    (a33 : PySem.W.nsIn K mainGlobals "is_whole" = some (some (.ref f33)))
    (l33 : K.lookup f33 = some ⟨oc33, od33, .func (PySem.W.fnOf "is_whole" "is_whole" (defArgs (top 6)) (defBody (top 6)) (defScope (top 6)) .none kV33 dc33 pm33 an33 cd33 ct33), sl33⟩)
    (c33 : PySem.W.codeIn K cd33 "is_whole" = true)
    (k33 : PySem.W.keepIn K (.ref f33) = true)
    (a34 : PySem.W.nsIn K mainGlobals "_law_cell_at" = some (some (.ref f34)))
    (l34 : K.lookup f34 = some ⟨oc34, od34, .func (PySem.W.fnOf "_law_cell_at" "_law_cell_at" (defArgs (top 40)) (defBody (top 40)) (defScope (top 40)) .none kV34 dc34 pm34 an34 cd34 ct34), sl34⟩)
    (c34 : PySem.W.codeIn K cd34 "_law_cell_at" = true)
    (k34 : PySem.W.keepIn K (.ref f34) = true)
    (a35 : PySem.W.nsIn K mainGlobals "_law_draw" = some (some (.ref f35)))
    (l35 : K.lookup f35 = some ⟨oc35, od35, .func (PySem.W.fnOf "_law_draw" "_law_draw" (defArgs (top 41)) (defBody (top 41)) (defScope (top 41)) .none kV35 dc35 pm35 an35 cd35 ct35), sl35⟩)
    (c35 : PySem.W.codeIn K cd35 "_law_draw" = true)
    (k35 : PySem.W.keepIn K (.ref f35) = true)
    (a36 : PySem.W.nsIn K mainGlobals "_law_number" = some (some (.ref f36)))
    (l36 : K.lookup f36 = some ⟨oc36, od36, .func (PySem.W.fnOf "_law_number" "_law_number" (defArgs (top 42)) (defBody (top 42)) (defScope (top 42)) .none kV36 dc36 pm36 an36 cd36 ct36), sl36⟩)
    (c36 : PySem.W.codeIn K cd36 "_law_number" = true)
    (k36 : PySem.W.keepIn K (.ref f36) = true)
    (a37 : PySem.W.nsIn K mainGlobals "_law_next" = some (some (.ref f37)))
    (l37 : K.lookup f37 = some ⟨oc37, od37, .func (PySem.W.fnOf "_law_next" "_law_next" (defArgs (top 43)) (defBody (top 43)) (defScope (top 43)) .none kV37 dc37 pm37 an37 cd37 ct37), sl37⟩)
    (c37 : PySem.W.codeIn K cd37 "_law_next" = true)
    (k37 : PySem.W.keepIn K (.ref f37) = true)
    (a38 : PySem.W.nsIn K mainGlobals "_law_pick" = some (some (.ref f38)))
    (l38 : K.lookup f38 = some ⟨oc38, od38, .func (PySem.W.fnOf "_law_pick" "_law_pick" (defArgs (top 44)) (defBody (top 44)) (defScope (top 44)) .none kV38 dc38 pm38 an38 cd38 ct38), sl38⟩)
    (c38 : PySem.W.codeIn K cd38 "_law_pick" = true)
    (k38 : PySem.W.keepIn K (.ref f38) = true)
    (a39 : PySem.W.nsIn K mainGlobals "_law_sort" = some (some (.ref f39)))
    (l39 : K.lookup f39 = some ⟨oc39, od39, .func (PySem.W.fnOf "_law_sort" "_law_sort" (defArgs (top 45)) (defBody (top 45)) (defScope (top 45)) .none kV39 dc39 pm39 an39 cd39 ct39), sl39⟩)
    (c39 : PySem.W.codeIn K cd39 "_law_sort" = true)
    (k39 : PySem.W.keepIn K (.ref f39) = true)
    (a40 : PySem.W.nsIn K mainGlobals "_law_text" = some (some (.ref f40)))
    (l40 : K.lookup f40 = some ⟨oc40, od40, .func (PySem.W.fnOf "_law_text" "_law_text" (defArgs (top 46)) (defBody (top 46)) (defScope (top 46)) .none kV40 dc40 pm40 an40 cd40 ct40), sl40⟩)
    (c40 : PySem.W.codeIn K cd40 "_law_text" = true)
    (k40 : PySem.W.keepIn K (.ref f40) = true)
    (a41 : PySem.W.nsIn K mainGlobals "_law_figures" = some (some (.ref f41)))
    (l41 : K.lookup f41 = some ⟨oc41, od41, .func (PySem.W.fnOf "_law_figures" "_law_figures" (defArgs (top 47)) (defBody (top 47)) (defScope (top 47)) .none kV41 dc41 pm41 an41 cd41 ct41), sl41⟩)
    (c41 : PySem.W.codeIn K cd41 "_law_figures" = true)
    (k41 : PySem.W.keepIn K (.ref f41) = true)
    (a42 : PySem.W.nsIn K mainGlobals "_law_inner" = some (some (.ref f42)))
    (l42 : K.lookup f42 = some ⟨oc42, od42, .func (PySem.W.fnOf "_law_inner" "_law_inner" (defArgs (top 48)) (defBody (top 48)) (defScope (top 48)) .none kV42 dc42 pm42 an42 cd42 ct42), sl42⟩)
    (c42 : PySem.W.codeIn K cd42 "_law_inner" = true)
    (k42 : PySem.W.keepIn K (.ref f42) = true)
    (a43 : PySem.W.nsIn K mainGlobals "_law_form" = some (some (.ref f43)))
    (l43 : K.lookup f43 = some ⟨oc43, od43, .func (PySem.W.fnOf "_law_form" "_law_form" (defArgs (top 49)) (defBody (top 49)) (defScope (top 49)) .none kV43 dc43 pm43 an43 cd43 ct43), sl43⟩)
    (c43 : PySem.W.codeIn K cd43 "_law_form" = true)
    (k43 : PySem.W.keepIn K (.ref f43) = true)
    (a44 : PySem.W.nsIn K mainGlobals "is_whole" = some (some (.ref f44)))
    (l44 : K.lookup f44 = some ⟨oc44, od44, .func (PySem.W.fnOf "is_whole" "is_whole" (defArgs (top 6)) (defBody (top 6)) (defScope (top 6)) .none kV44 dc44 pm44 an44 cd44 ct44), sl44⟩)
    (c44 : PySem.W.codeIn K cd44 "is_whole" = true)
    (k44 : PySem.W.keepIn K (.ref f44) = true)
    (a45 : PySem.W.nsIn K mainGlobals "is_whole" = some (some (.ref f45)))
    (l45 : K.lookup f45 = some ⟨oc45, od45, .func (PySem.W.fnOf "is_whole" "is_whole" (defArgs (top 6)) (defBody (top 6)) (defScope (top 6)) .none kV45 dc45 pm45 an45 cd45 ct45), sl45⟩)
    (c45 : PySem.W.codeIn K cd45 "is_whole" = true)
    (k45 : PySem.W.keepIn K (.ref f45) = true)
    (a46 : PySem.W.nsIn K mainGlobals "is_whole" = some (some (.ref f46)))
    (l46 : K.lookup f46 = some ⟨oc46, od46, .func (PySem.W.fnOf "is_whole" "is_whole" (defArgs (top 6)) (defBody (top 6)) (defScope (top 6)) .none kV46 dc46 pm46 an46 cd46 ct46), sl46⟩)
    (c46 : PySem.W.codeIn K cd46 "is_whole" = true)
    (k46 : PySem.W.keepIn K (.ref f46) = true)
    (a47 : PySem.W.nsIn K mainGlobals "is_whole" = some (some (.ref f47)))
    (l47 : K.lookup f47 = some ⟨oc47, od47, .func (PySem.W.fnOf "is_whole" "is_whole" (defArgs (top 6)) (defBody (top 6)) (defScope (top 6)) .none kV47 dc47 pm47 an47 cd47 ct47), sl47⟩)
    (c47 : PySem.W.codeIn K cd47 "is_whole" = true)
    (k47 : PySem.W.keepIn K (.ref f47) = true)
    (a48 : PySem.W.nsIn K mainGlobals "is_whole" = some (some (.ref f48)))
    (l48 : K.lookup f48 = some ⟨oc48, od48, .func (PySem.W.fnOf "is_whole" "is_whole" (defArgs (top 6)) (defBody (top 6)) (defScope (top 6)) .none kV48 dc48 pm48 an48 cd48 ct48), sl48⟩)
    (c48 : PySem.W.codeIn K cd48 "is_whole" = true)
    (k48 : PySem.W.keepIn K (.ref f48) = true)
    (a49 : PySem.W.nsIn K mainGlobals "is_whole" = some (some (.ref f49)))
    (l49 : K.lookup f49 = some ⟨oc49, od49, .func (PySem.W.fnOf "is_whole" "is_whole" (defArgs (top 6)) (defBody (top 6)) (defScope (top 6)) .none kV49 dc49 pm49 an49 cd49 ct49), sl49⟩)
    (c49 : PySem.W.codeIn K cd49 "is_whole" = true)
    (k49 : PySem.W.keepIn K (.ref f49) = true)
    (a50 : PySem.W.nsIn K mainGlobals "is_whole" = some (some (.ref f50)))
    (l50 : K.lookup f50 = some ⟨oc50, od50, .func (PySem.W.fnOf "is_whole" "is_whole" (defArgs (top 6)) (defBody (top 6)) (defScope (top 6)) .none kV50 dc50 pm50 an50 cd50 ct50), sl50⟩)
    (c50 : PySem.W.codeIn K cd50 "is_whole" = true)
    (k50 : PySem.W.keepIn K (.ref f50) = true)
    (a51 : PySem.W.nsIn K mainGlobals "is_whole" = some (some (.ref f51)))
    (l51 : K.lookup f51 = some ⟨oc51, od51, .func (PySem.W.fnOf "is_whole" "is_whole" (defArgs (top 6)) (defBody (top 6)) (defScope (top 6)) .none kV51 dc51 pm51 an51 cd51 ct51), sl51⟩)
    (c51 : PySem.W.codeIn K cd51 "is_whole" = true)
    (k51 : PySem.W.keepIn K (.ref f51) = true)
    (a52 : PySem.W.nsIn K mainGlobals "law" = some (some (.ref f52)))
    (l52 : K.lookup f52 = some ⟨oc52, od52, .func (PySem.W.fnOf "law" "law" (defArgs (top 54)) (defBody (top 54)) (defScope (top 54)) .none kV52 dc52 pm52 an52 cd52 ct52), sl52⟩)
    (c52 : PySem.W.codeIn K cd52 "law" = true)
    (k52 : PySem.W.keepIn K (.ref f52) = true)
    (qg0 : PySem.W.nsIn K mainGlobals "SIGNS" = some (some (.str (PySem.Str.ofString " !\"#$&'()*+,-./0123456789:;<=>?@ABCDEFGHIJKLMNOPQRSTUVWXYZ[\\]^_`abcdefghijklmnopqrstuvwxyz{|}~") gt0)))
    (qg1 : PySem.W.nsIn K mainGlobals "FIGURES" = some (some (.str (PySem.Str.ofString "0123456789abcdef") gt1)))
    (qg2 : PySem.W.nsIn K mainGlobals "MOST_BASE" = some (some (.int 16 gt2)))
    (qg3 : PySem.W.nsIn K mainGlobals "MOST_POWER_BASE" = some (some (.int 10 gt3)))
    (qg4 : PySem.W.nsIn K mainGlobals "MOST_LEAST" = some (some (.int 12 gt4)))
    (qg5 : PySem.W.nsIn K mainGlobals "MOST_SHORT" = some (some (.int 4 gt5)))
    (qg6 : PySem.W.nsIn K mainGlobals "MOST_TEXT" = some (some (.int 8 gt6)))
    (qg7 : PySem.W.nsIn K mainGlobals "MOST_WIDTH" = some (some (.int 8 gt7)))
    (qg8 : PySem.W.nsIn K mainGlobals "MOST_IN_ROW" = some (some (.int 13 gt8)))
    (qg9 : PySem.W.nsIn K mainGlobals "MOST_DEEP" = some (some (.int 7 gt9)))
    (qg10 : PySem.W.nsIn K mainGlobals "MOST_FORMATS" = some (some (.int 32 gt10)))
    (qg11 : PySem.W.nsIn K mainGlobals "WRITTEN" = some (some (.ref ga11)))
    (ql11 : K.lookup ga11 = some ⟨.type "tuple", none, .seq #[.str (PySem.Str.ofString "-") gt11_0, .str (PySem.Str.ofString "+") gt11_1, .str (PySem.Str.ofString " ") gt11_2] gn11, gs11⟩)
    (qg12 : PySem.W.nsIn K mainGlobals "SIDES" = some (some (.ref ga12)))
    (ql12 : K.lookup ga12 = some ⟨.type "tuple", none, .seq #[.str (PySem.Str.ofString "<") gt12_0, .str (PySem.Str.ofString ">") gt12_1, .str (PySem.Str.ofString "^") gt12_2] gn12, gs12⟩)
    (qg13 : PySem.W.nsIn K mainGlobals "MOST_MODULUS" = some (some (.int 16 gt13)))
    (qg14 : PySem.W.nsIn K mainGlobals "PLAIN_FIGURES" = some (some (.ref ga14)))
    (ql14 : K.lookup ga14 = some ⟨.type "tuple", none, .seq #[.str (PySem.Str.ofString "figures") gt14_0, .int 10 gt14_1, .str (PySem.Str.ofString "-") gt14_2, .int 1 gt14_3, .int 0 gt14_4, .str (PySem.Str.ofString "") gt14_5, .str (PySem.Str.ofString "") gt14_6] gn14, gs14⟩)
    (z0 : PySem.W.nsIn K mainGlobals "len" = some none)
    (z1 : PySem.W.nsIn K mainGlobals "all" = some none)
    (z2 : PySem.W.nsIn K mainGlobals "any" = some none)
    (z3 : PySem.W.nsIn K mainGlobals "sum" = some none)
    (z4 : PySem.W.nsIn K mainGlobals "min" = some none)
    (z5 : PySem.W.nsIn K mainGlobals "max" = some none)
    (z6 : PySem.W.nsIn K mainGlobals "list" = some none)
    (z7 : PySem.W.nsIn K mainGlobals "tuple" = some none)
    (z8 : PySem.W.nsIn K mainGlobals "str" = some none)
    (z9 : PySem.W.nsIn K mainGlobals "abs" = some none)
    (z10 : PySem.W.nsIn K mainGlobals "int" = some none)
    (z11 : PySem.W.nsIn K mainGlobals "bool" = some none)
    (z12 : PySem.W.nsIn K mainGlobals "isinstance" = some none)
    (z13 : PySem.W.nsIn K mainGlobals "range" = some none)
    (z14 : PySem.W.nsIn K mainGlobals "enumerate" = some none)
    (z15 : PySem.W.nsIn K mainGlobals "zip" = some none)
    (z16 : PySem.W.nsIn K mainGlobals "dict" = some none)
    (z17 : PySem.W.nsIn K mainGlobals "repr" = some none)
    (sg : PySem.W.nsIn K mainGlobals "super" = some none)
    (tp : (P.main.scope.names.lookup ("super" : Str)).isSome = false)
    (nt : PySem.W.nsIn K cStatics "thirdparty.any" = some none)
    (cn : PySem.W.specialIn K (.builtin "object.__class__") "__get__" = some (some (.builtin "getset_descriptor.__get__")))
    (ctk : PySem.W.takesIn K (.builtin "object.__class__") = some true)
    (xa0 : PySem.W.nsIn K mainGlobals "BadFormat" = some (some (.ref C0)))
    (xl0 : K.lookup C0 = some (excClassObj nm0 qn0 C0 Nn0 bs0 bm0 true sn0 sb0 ab0 col0 dd0 k0_0 k1_0 k2_0 k3_0 k5_0 "ValueError.__new__"))
    (xr0 : PySem.HandSPX.refsVE bm0 = true)
    (xs0 : PySem.W.findIn K (.ref C0) "__setattr__" = some (some (.builtin "object.__setattr__")))
    (xe0 : PySem.W.subIn K (.ref C0) (.type "BaseException") = some true)
    (xt0 : PySem.W.typeIn K (.ref C0) = some (.type "type"))
    (xk0 : PySem.W.keepIn K (.ref C0) = true)
    (ia0 : PySem.W.findIn K (.ref C0) "__init__" = some (some (.ref fi0)))
    (it0 : PySem.W.typeIn K (.ref fi0) = some (.type "function"))
    (il0 : K.lookup fi0 = some ⟨xoc0, xod0, .func (PySem.W.ksFn "__init__" "BadFormat.__init__" (defArgs (inn 2 0)) (defBody (inn 2 0)) (defScope (inn 2 0)) .none xkV0 xdc0 xpm0 xan0 (.ref cda0) xct0 cc0), osl0⟩)
    (ic0 : PySem.W.codeIn K (.ref cda0) "BadFormat.__init__" = true)
    (dl0 : K.lookup cda0 = some ⟨ccl0, cdd0, .fields vs0, ccs0⟩)
    (dv0 : vs0[2]? = some (.str fi_0 tf0))
    (df0 : ((P.main.file : Str) == fi_0) = true)
    (ce0 : K.lookup cc0 = some ⟨xcl0, cld0, .cell (some (.ref C0)), csl0⟩)
    (hD0 : PySem.W.clsIn K C0 = some cdD0)
    (mr0 : PySem.W.mroIn K C0 (.ref C0) = some true)
    (su0 : PySem.W.ks_superIn K C0 C0 "__init__" = some (some (.builtin "ValueError.__init__")))
    (ve0 : PySem.W.subIn K (.ref C0) (.type "ValueError") = some true)
    (ga_0 : PySem.W.findIn K (.ref C0) "__getattribute__" = some (some (.builtin "BaseException.__getattribute__")))
    (gg0 : PySem.W.findIn K (.ref C0) "__getattr__" = some none)
    (hd0 : PySem.W.hasDictIn K C0 = true)
    (ca0 : PySem.W.findIn K (.ref C0) "__class__" = some (some (.builtin "object.__class__")))
    (cm0 : PySem.W.mroIn K C0 (.type "object") = some true)
    (fn0_thing : PySem.W.findIn K (.ref C0) "thing" = some none)
    (em0_0 : PySem.W.subIn K (.ref C0) (.ref C0) = some true) : PgOk P w K mg (ctb fis tx K) (ccl fis tx K) gv fis tx := by
  have bltH : ∀ y ∈ bNames, mg y = none := fun x hx => by
    simp only [bNames, List.mem_cons, List.not_mem_nil, or_false] at hx
    rcases hx with rfl | rfl | rfl | rfl | rfl | rfl | rfl | rfl | rfl | rfl | rfl | rfl | rfl | rfl | rfl | rfl | rfl | rfl
    · exact PySem.W.mg_none_of X G z0
    · exact PySem.W.mg_none_of X G z1
    · exact PySem.W.mg_none_of X G z2
    · exact PySem.W.mg_none_of X G z3
    · exact PySem.W.mg_none_of X G z4
    · exact PySem.W.mg_none_of X G z5
    · exact PySem.W.mg_none_of X G z6
    · exact PySem.W.mg_none_of X G z7
    · exact PySem.W.mg_none_of X G z8
    · exact PySem.W.mg_none_of X G z9
    · exact PySem.W.mg_none_of X G z10
    · exact PySem.W.mg_none_of X G z11
    · exact PySem.W.mg_none_of X G z12
    · exact PySem.W.mg_none_of X G z13
    · exact PySem.W.mg_none_of X G z14
    · exact PySem.W.mg_none_of X G z15
    · exact PySem.W.mg_none_of X G z16
    · exact PySem.W.mg_none_of X G z17
  have xcaH0 : (ctb fis tx K).xca 0 = C0 := by
    show (nsA K "BadFormat").getD 0 = C0
    rw [nsA_of xa0]; all_goals rfl
  exact {
  hK := rfl
  xs := rfl
  nx := rfl
  fns := fun f I hI => match f, I, hI with
    | 0, I, h => by
      cases h
      exact fok_mk (I := f_is_whole) X G rfl rfl a0 l0 c0 k0 fun _ _ _ _ _ _ us hl => match us, hl with | [_], _ => rfl
    | 1, I, h => by
      cases h
      exact fok_mk (I := f_is_from) X G rfl rfl a1 l1 c1 k1 fun _ _ _ _ _ _ us hl => match us, hl with | [_, _, _], _ => rfl
    | 2, I, h => by
      cases h
      exact fok_mk (I := f_is_text) X G rfl rfl a2 l2 c2 k2 fun _ _ _ _ _ _ us hl => match us, hl with | [_, _], _ => rfl
    | 3, I, h => by
      cases h
      exact fok_mk (I := f_is_sign) X G rfl rfl a3 l3 c3 k3 fun _ _ _ _ _ _ us hl => match us, hl with | [_], _ => rfl
    | 4, I, h => by
      cases h
      exact fok_mk (I := f_is_row) X G rfl rfl a4 l4 c4 k4 fun _ _ _ _ _ _ us hl => match us, hl with | [_, _], _ => rfl
    | 5, I, h => by
      cases h
      exact fok_mk (I := f_are_rising) X G rfl rfl a5 l5 c5 k5 fun _ _ _ _ _ _ us hl => match us, hl with | [_], _ => rfl
    | 6, I, h => by
      cases h
      exact fok_mk (I := f_check_format) X G rfl rfl a6 l6 c6 k6 fun _ _ _ _ _ _ us hl => match us, hl with | [_, _], _ => rfl
    | 7, I, h => by
      cases h
      exact fok_mk (I := f_plain_format) X G rfl rfl a7 l7 c7 k7 fun _ _ _ _ _ _ us hl => match us, hl with | [_], _ => rfl
    | 8, I, h => by
      cases h
      exact fok_mk (I := f__law_plain) X G rfl rfl a8 l8 c8 k8 fun _ _ _ _ _ _ us hl => match us, hl with | [_], _ => rfl
    | 9, I, h => by
      cases h
      exact fok_mk (I := f__law_figures_wrong) X G rfl rfl a9 l9 c9 k9 fun _ _ _ _ _ _ us hl => match us, hl with | [], _ => rfl
    | 10, I, h => by
      cases h
      exact fok_mk (I := f__law_wrong) X G rfl rfl a10 l10 c10 k10 fun _ _ _ _ _ _ us hl => match us, hl with | [_], _ => rfl
    | 11, I, h => by
      cases h
      exact fok_mk (I := f__law_refuses_known) X G rfl rfl a11 l11 c11 k11 fun _ _ _ _ _ _ us hl => match us, hl with | [], _ => rfl
    | 12, I, h => by
      cases h
      exact fok_mk (I := f_is_whole) X G rfl rfl a12 l12 c12 k12 fun _ _ _ _ _ _ us hl => match us, hl with | [_], _ => rfl
    | 13, I, h => by
      cases h
      exact fok_mk (I := f_is_whole) X G rfl rfl a13 l13 c13 k13 fun _ _ _ _ _ _ us hl => match us, hl with | [_], _ => rfl
    | 14, I, h => by
      cases h
      exact fok_mk (I := f_is_whole) X G rfl rfl a14 l14 c14 k14 fun _ _ _ _ _ _ us hl => match us, hl with | [_], _ => rfl
    | 15, I, h => by
      cases h
      exact fok_mk (I := f_is_whole) X G rfl rfl a15 l15 c15 k15 fun _ _ _ _ _ _ us hl => match us, hl with | [_], _ => rfl
    | 16, I, h => by
      cases h
      exact fok_mk (I := f_is_whole) X G rfl rfl a16 l16 c16 k16 fun _ _ _ _ _ _ us hl => match us, hl with | [_], _ => rfl
    | 17, I, h => by
      cases h
      exact fok_mk (I := f_is_whole) X G rfl rfl a17 l17 c17 k17 fun _ _ _ _ _ _ us hl => match us, hl with | [_], _ => rfl
    | 18, I, h => by
      cases h
      exact fok_mk (I := f_is_whole) X G rfl rfl a18 l18 c18 k18 fun _ _ _ _ _ _ us hl => match us, hl with | [_], _ => rfl
    | 19, I, h => by
      cases h
      exact fok_mk (I := f_is_whole) X G rfl rfl a19 l19 c19 k19 fun _ _ _ _ _ _ us hl => match us, hl with | [_], _ => rfl
    | 20, I, h => by
      cases h
      exact fok_mk (I := f_is_whole) X G rfl rfl a20 l20 c20 k20 fun _ _ _ _ _ _ us hl => match us, hl with | [_], _ => rfl
    | 21, I, h => by
      cases h
      exact fok_mk (I := f_is_figures) X G rfl rfl a21 l21 c21 k21 fun _ _ _ _ _ _ us hl => match us, hl with | [_], _ => rfl
    | 22, I, h => by
      cases h
      exact fok_mk (I := f_is_powers) X G rfl rfl a22 l22 c22 k22 fun _ _ _ _ _ _ us hl => match us, hl with | [_, _], _ => rfl
    | 23, I, h => by
      cases h
      exact fok_mk (I := f_is_spelled) X G rfl rfl a23 l23 c23 k23 fun _ _ _ _ _ _ us hl => match us, hl with | [_], _ => rfl
    | 24, I, h => by
      cases h
      exact fok_mk (I := f_is_quoted) X G rfl rfl a24 l24 c24 k24 fun _ _ _ _ _ _ us hl => match us, hl with | [_], _ => rfl
    | 25, I, h => by
      cases h
      exact fok_mk (I := f_is_around) X G rfl rfl a25 l25 c25 k25 fun _ _ _ _ _ _ us hl => match us, hl with | [_, _, _], _ => rfl
    | 26, I, h => by
      cases h
      exact fok_mk (I := f_is_row_told) X G rfl rfl a26 l26 c26 k26 fun _ _ _ _ _ _ us hl => match us, hl with | [_, _, _], _ => rfl
    | 27, I, h => by
      cases h
      exact fok_mk (I := f_is_many_told) X G rfl rfl a27 l27 c27 k27 fun _ _ _ _ _ _ us hl => match us, hl with | [_, _, _], _ => rfl
    | 28, I, h => by
      cases h
      exact fok_mk (I := f_is_told) X G rfl rfl a28 l28 c28 k28 fun _ _ _ _ _ _ us hl => match us, hl with | [_, _, _], _ => rfl
    | 29, I, h => by
      cases h
      exact fok_mk (I := f_within) X G rfl rfl a29 l29 c29 k29 fun _ _ _ _ _ _ us hl => match us, hl with | [_], _ => rfl
    | 30, I, h => by
      cases h
      exact fok_mk (I := f_count_of) X G rfl rfl a30 l30 c30 k30 fun _ _ _ _ _ _ us hl => match us, hl with | [_], _ => rfl
    | 31, I, h => by
      cases h
      exact fok_mk (I := f_is_format) X G rfl rfl a31 l31 c31 k31 fun _ _ _ _ _ _ us hl => match us, hl with | [_, _], _ => rfl
    | 32, I, h => by
      cases h
      exact fok_mk (I := f_is_whole) X G rfl rfl a32 l32 c32 k32 fun _ _ _ _ _ _ us hl => match us, hl with | [_], _ => rfl
    | 33, I, h => by
      cases h
      exact fok_mk (I := f_is_whole) X G rfl rfl a33 l33 c33 k33 fun _ _ _ _ _ _ us hl => match us, hl with | [_], _ => rfl
    | 34, I, h => by
      cases h
      exact fok_mk (I := f__law_cell_at) X G rfl rfl a34 l34 c34 k34 fun _ _ _ _ _ _ us hl => match us, hl with | [_, _], _ => rfl
    | 35, I, h => by
      cases h
      exact fok_mk (I := f__law_draw) X G rfl rfl a35 l35 c35 k35 fun _ _ _ _ _ _ us hl => match us, hl with | [_, _, _], _ => rfl
    | 36, I, h => by
      cases h
      exact fok_mk (I := f__law_number) X G rfl rfl a36 l36 c36 k36 fun _ _ _ _ _ _ us hl => match us, hl with | [_, _, _], _ => rfl
    | 37, I, h => by
      cases h
      exact fok_mk (I := f__law_next) X G rfl rfl a37 l37 c37 k37 fun _ _ _ _ _ _ us hl => match us, hl with | [_, _], _ => rfl
    | 38, I, h => by
      cases h
      exact fok_mk (I := f__law_pick) X G rfl rfl a38 l38 c38 k38 fun _ _ _ _ _ _ us hl => match us, hl with | [_, _], _ => rfl
    | 39, I, h => by
      cases h
      exact fok_mk (I := f__law_sort) X G rfl rfl a39 l39 c39 k39 fun _ _ _ _ _ _ us hl => match us, hl with | [_, _], _ => rfl
    | 40, I, h => by
      cases h
      exact fok_mk (I := f__law_text) X G rfl rfl a40 l40 c40 k40 fun _ _ _ _ _ _ us hl => match us, hl with | [_, _], _ => rfl
    | 41, I, h => by
      cases h
      exact fok_mk (I := f__law_figures) X G rfl rfl a41 l41 c41 k41 fun _ _ _ _ _ _ us hl => match us, hl with | [_, _], _ => rfl
    | 42, I, h => by
      cases h
      exact fok_mk (I := f__law_inner) X G rfl rfl a42 l42 c42 k42 fun _ _ _ _ _ _ us hl => match us, hl with | [_, _, _], _ => rfl
    | 43, I, h => by
      cases h
      exact fok_mk (I := f__law_form) X G rfl rfl a43 l43 c43 k43 fun _ _ _ _ _ _ us hl => match us, hl with | [_, _, _], _ => rfl
    | 44, I, h => by
      cases h
      exact fok_mk (I := f_is_whole) X G rfl rfl a44 l44 c44 k44 fun _ _ _ _ _ _ us hl => match us, hl with | [_], _ => rfl
    | 45, I, h => by
      cases h
      exact fok_mk (I := f_is_whole) X G rfl rfl a45 l45 c45 k45 fun _ _ _ _ _ _ us hl => match us, hl with | [_], _ => rfl
    | 46, I, h => by
      cases h
      exact fok_mk (I := f_is_whole) X G rfl rfl a46 l46 c46 k46 fun _ _ _ _ _ _ us hl => match us, hl with | [_], _ => rfl
    | 47, I, h => by
      cases h
      exact fok_mk (I := f_is_whole) X G rfl rfl a47 l47 c47 k47 fun _ _ _ _ _ _ us hl => match us, hl with | [_], _ => rfl
    | 48, I, h => by
      cases h
      exact fok_mk (I := f_is_whole) X G rfl rfl a48 l48 c48 k48 fun _ _ _ _ _ _ us hl => match us, hl with | [_], _ => rfl
    | 49, I, h => by
      cases h
      exact fok_mk (I := f_is_whole) X G rfl rfl a49 l49 c49 k49 fun _ _ _ _ _ _ us hl => match us, hl with | [_], _ => rfl
    | 50, I, h => by
      cases h
      exact fok_mk (I := f_is_whole) X G rfl rfl a50 l50 c50 k50 fun _ _ _ _ _ _ us hl => match us, hl with | [_], _ => rfl
    | 51, I, h => by
      cases h
      exact fok_mk (I := f_is_whole) X G rfl rfl a51 l51 c51 k51 fun _ _ _ _ _ _ us hl => match us, hl with | [_], _ => rfl
    | 52, I, h => by
      cases h
      exact fok_mk (I := f_law) X G rfl rfl a52 l52 c52 k52 fun _ _ _ _ _ _ us hl => match us, hl with | [_], _ => rfl
    | f + 53, I, h => by simp [fis] at h
  fa := fun f a h => fa_lt h
  sc := sc_all
  chk := chk_all
  chkH := chkH_all
  glob := fun g x hx => by
    have key : ∀ (g : Nat) x, gn[g]? = some x → ∃ p, gv[g]? = some p ∧ ∃ u v, mg x = some u ∧ RelV v u ∧ ∀ w, WOk w → RepV (ctb fis tx K) w p v := fun g x hx => match g, x, hx with
      | 0, x, h => by
        cases h
        exact ⟨_, rfl, gStr X G qg0 (by decide +kernel) (by decide +kernel)⟩
      | 1, x, h => by
        cases h
        exact ⟨_, rfl, gStr X G qg1 (by decide +kernel) (by decide +kernel)⟩
      | 2, x, h => by
        cases h
        exact ⟨_, rfl, gInt X G qg2⟩
      | 3, x, h => by
        cases h
        exact ⟨_, rfl, gInt X G qg3⟩
      | 4, x, h => by
        cases h
        exact ⟨_, rfl, gInt X G qg4⟩
      | 5, x, h => by
        cases h
        exact ⟨_, rfl, gInt X G qg5⟩
      | 6, x, h => by
        cases h
        exact ⟨_, rfl, gInt X G qg6⟩
      | 7, x, h => by
        cases h
        exact ⟨_, rfl, gInt X G qg7⟩
      | 8, x, h => by
        cases h
        exact ⟨_, rfl, gInt X G qg8⟩
      | 9, x, h => by
        cases h
        exact ⟨_, rfl, gInt X G qg9⟩
      | 10, x, h => by
        cases h
        exact ⟨_, rfl, gInt X G qg10⟩
      | 11, x, h => by
        cases h
        exact ⟨_, rfl, gTup (ys := [[45], [43], [32]]) rfl X G qg11 ql11 (.cons ⟨_, str_of (by decide +kernel)⟩ (.cons ⟨_, str_of (by decide +kernel)⟩ (.cons ⟨_, str_of (by decide +kernel)⟩ .nil))) (by show 3 ≤ sizeLine; rw [sizeLine_eq]; omega) (by decide +kernel)⟩
      | 12, x, h => by
        cases h
        exact ⟨_, rfl, gTup (ys := [[60], [62], [94]]) rfl X G qg12 ql12 (.cons ⟨_, str_of (by decide +kernel)⟩ (.cons ⟨_, str_of (by decide +kernel)⟩ (.cons ⟨_, str_of (by decide +kernel)⟩ .nil))) (by show 3 ≤ sizeLine; rw [sizeLine_eq]; omega) (by decide +kernel)⟩
      | 13, x, h => by
        cases h
        exact ⟨_, rfl, gInt X G qg13⟩
      | 14, x, h => by
        cases h
        exact ⟨_, rfl, gTupM (ps := [(.str [102, 105, 103, 117, 114, 101, 115]), (.int 10), (.str [45]), (.int 1), (.int 0), (.str []), (.str [])]) rfl X G qg14 ql14 (.cons ⟨_, str_of (by decide +kernel)⟩ (.cons ⟨_, rfl⟩ (.cons ⟨_, str_of (by decide +kernel)⟩ (.cons ⟨_, rfl⟩ (.cons ⟨_, rfl⟩ (.cons ⟨_, str_of (by decide +kernel)⟩ (.cons ⟨_, str_of (by decide +kernel)⟩ .nil))))))) (by show 7 ≤ sizeLine; rw [sizeLine_eq]; omega) (by decide +kernel)⟩
      | g + 15, x, h => by simp [gn] at h
    obtain ⟨p, hp, u, v, h1, h2, h3⟩ := key g x hx
    exact ⟨u, v, p, h1, h2, hp, h3⟩
  nom := fun I h => by
    simp only [fis, List.mem_cons, List.not_mem_nil, or_false] at h
    rcases h with rfl | rfl | rfl | rfl | rfl | rfl | rfl | rfl | rfl | rfl | rfl | rfl | rfl | rfl | rfl | rfl | rfl | rfl | rfl | rfl | rfl | rfl | rfl | rfl | rfl | rfl | rfl | rfl | rfl | rfl | rfl | rfl | rfl | rfl | rfl | rfl | rfl | rfl | rfl | rfl | rfl | rfl | rfl | rfl | rfl | rfl | rfl | rfl | rfl | rfl | rfl | rfl | rfl
    all_goals rfl
  cln := rfl
  atn := rfl
  xcs := fun c x ks h => by
    have key : ∀ (c : Nat) x ks, tx.xcn[c]? = some (x, ks) → XcAt P w K mg (ctb fis tx K) (ccl fis tx K) c x ks := fun c x ks h => match c, x, ks, h with
      | 0, x, ks, h => by
        cases h
        have hx : (ctb fis tx K).xca 0 = C0 := by
          show (nsA K "BadFormat").getD 0 = C0
          rw [nsA_of xa0]; all_goals rfl
        exact xc_mk (st := inn 2 0) (sup := sup0) (L := [("thing", 1)]) (N := ["self", "thing"]) (ps := ["self", "thing"]) X G rfl bltH xa0 xl0 xr0 xs0 xe0 xt0 xk0 ia0 it0 il0 ic0 dl0 dv0 df0 ce0 hD0 sg tp nt mr0 su0 ve0 ga_0 gg0 hd0 ca0 cn ctk cm0
          (fun q hq => by simp only [List.mem_cons, List.not_mem_nil, or_false] at hq; rcases hq with rfl <;> assumption) rfl
          ⟨rfl, rfl, rfl, by decide +kernel, rfl, by decide +kernel, by decide +kernel, by decide +kernel, rfl, rfl⟩ rfl rfl rfl rfl rfl rfl rfl (by simp) (by decide) (by decide +kernel)
          (fun _ _ _ _ _ _ => ⟨_, _, rfl, ⟨"thing", _, _, _, _, rfl, rfl, .inl rfl, by decide, by decide⟩, rfl⟩) (by decide +kernel) (fun us _ => ⟨_, rfl, by decide⟩) (fun _ => rfl) (fun _ _ => rfl) _ (fun _ => rfl)
          (fun _ _ _ _ _ _ _ us hl => match us, hl with | [_, _], _ => rfl) hx (congrArg Value.ref hx)
      | c + 1, x, ks, h => by simp [tx] at h
    exact key c x ks h
  exm := fun c c' h1 h2 => by
    have h1 : c < 1 := h1
    simp only [tx, List.mem_cons, List.not_mem_nil, or_false] at h2
    have h3 : c = 0 := by omega
    rcases h3 with rfl <;> rcases h2 with rfl
    · rw [show ccl fis tx K 0 = .ref C0 from congrArg Value.ref xcaH0]; exact PySem.W.exm_ref xe0 hd0 xt0 em0_0
  xfl := fun c ns h => by
    show (tx.xfl[c]?).getD [] = ns
    rw [h]; rfl
  icl := fun k y tb h => by
    have key : ∀ (k : Nat) y tb, tx.icl[k]? = some (y, tb) → ∃ (v : V) (cv : Value), RelV v cv ∧ (∀ u, RelV v u → u = cv) ∧ (mg y = some cv ∨ (mg y = none ∧ bootBuiltins y = some cv)) ∧ ∀ p ∈ tb, p.1 < tx.xcn.length ∧ PySem.W.kitOne K (.ref ((ctb fis tx K).xca p.1)) cv = some p.2 := fun k y tb h => match k, y, tb, h with

      | k + 0, y, tb, h => by simp [tx] at h
    exact key k y tb h
  blt := bltH }
theorem bind_law {K : PySem.W.Frag} (s : Shared) (v : Value) {a : Addr} (fd : FuncData) (F : L2.Fun K f_law.name f_law.name f_law.st a fd) : BindsTo s fd ⟨[v], []⟩ [("script", v)] := by
  obtain ⟨oc, od, kV, doc, pm, an, cdv, ct, osl, hfd, hlk, hcd⟩ := F.ex
  subst hfd
  exact .of_eq rfl
end RA
open PySem PySem.W PyProof.Rows
set_option maxHeartbeats 0 in
theorem PySem.Challenge.cw_readagain_k02_taken_formats_holds : PySem.Challenge.rw_readagain_k02_taken_formats.Holds := by
  w_on; o_law; k_head; (case hw => w_witness2)
  k_fill
  refine RA.law_walk (Is := RA.fis) (tx := RA.tx) (gv := RA.gv) (n := 52) (I := RA.f_law) (l := PySem.Challenge.rw_readagain_k02_taken_formats) rfl rfl rfl rfl rfl (fun w h Y => PySem.W.kIn_of Y) ?F rfl (fun w s v {a} fd F => RA.bind_law s v fd F) RA.law_true
  case F =>
    intro w mg fa h KX G hmg
    refine' RA.pg_mk KX G ?a0 ?l0 ?c0 ?k0 ?a1 ?l1 ?c1 ?k1 ?a2 ?l2 ?c2 ?k2 ?a3 ?l3 ?c3 ?k3 ?a4 ?l4 ?c4 ?k4 ?a5 ?l5 ?c5 ?k5 ?a6 ?l6 ?c6 ?k6 ?a7 ?l7 ?c7 ?k7 ?a8 ?l8 ?c8 ?k8 ?a9 ?l9 ?c9 ?k9 ?a10 ?l10 ?c10 ?k10 ?a11 ?l11 ?c11 ?k11 ?a12 ?l12 ?c12 ?k12 ?a13 ?l13 ?c13 ?k13 ?a14 ?l14 ?c14 ?k14 ?a15 ?l15 ?c15 ?k15 ?a16 ?l16 ?c16 ?k16 ?a17 ?l17 ?c17 ?k17 ?a18 ?l18 ?c18 ?k18 ?a19 ?l19 ?c19 ?k19 ?a20 ?l20 ?c20 ?k20 ?a21 ?l21 ?c21 ?k21 ?a22 ?l22 ?c22 ?k22 ?a23 ?l23 ?c23 ?k23 ?a24 ?l24 ?c24 ?k24 ?a25 ?l25 ?c25 ?k25 ?a26 ?l26 ?c26 ?k26 ?a27 ?l27 ?c27 ?k27 ?a28 ?l28 ?c28 ?k28 ?a29 ?l29 ?c29 ?k29 ?a30 ?l30 ?c30 ?k30 ?a31 ?l31 ?c31 ?k31 ?a32 ?l32 ?c32 ?k32 ?a33 ?l33 ?c33 ?k33 ?a34 ?l34 ?c34 ?k34 ?a35 ?l35 ?c35 ?k35 ?a36 ?l36 ?c36 ?k36 ?a37 ?l37 ?c37 ?k37 ?a38 ?l38 ?c38 ?k38 ?a39 ?l39 ?c39 ?k39 ?a40 ?l40 ?c40 ?k40 ?a41 ?l41 ?c41 ?k41 ?a42 ?l42 ?c42 ?k42 ?a43 ?l43 ?c43 ?k43 ?a44 ?l44 ?c44 ?k44 ?a45 ?l45 ?c45 ?k45 ?a46 ?l46 ?c46 ?k46 ?a47 ?l47 ?c47 ?k47 ?a48 ?l48 ?c48 ?k48 ?a49 ?l49 ?c49 ?k49 ?a50 ?l50 ?c50 ?k50 ?a51 ?l51 ?c51 ?k51 ?a52 ?l52 ?c52 ?k52 ?qg0 ?qg1 ?qg2 ?qg3 ?qg4 ?qg5 ?qg6 ?qg7 ?qg8 ?qg9 ?qg10 ?qg11 ?ql11 ?qg12 ?ql12 ?qg13 ?qg14 ?ql14 ?z0 ?z1 ?z2 ?z3 ?z4 ?z5 ?z6 ?z7 ?z8 ?z9 ?z10 ?z11 ?z12 ?z13 ?z14 ?z15 ?z16 ?z17 ?sg ?tp ?nt ?cn ?ctk ?xa0 ?xl0 ?xr0 ?xs0 ?xe0 ?xt0 ?xk0 ?ia0 ?it0 ?il0 ?ic0 ?dl0 ?dv0 ?df0 ?ce0 ?hD0 ?mr0 ?su0 ?ve0 ?ga_0 ?gg0 ?hd0 ?ca0 ?cm0 ?fn0_thing ?em0_0
    (case a0 => k_is)
    (case l0 => k_is)
    (case c0 => k_is)
    (case k0 => k_is)
    (case a1 => k_is)
    (case l1 => k_is)
    (case c1 => k_is)
    (case k1 => k_is)
    (case a2 => k_is)
    (case l2 => k_is)
    (case c2 => k_is)
    (case k2 => k_is)
    (case a3 => k_is)
    (case l3 => k_is)
    (case c3 => k_is)
    (case k3 => k_is)
    (case a4 => k_is)
    (case l4 => k_is)
    (case c4 => k_is)
    (case k4 => k_is)
    (case a5 => k_is)
    (case l5 => k_is)
    (case c5 => k_is)
    (case k5 => k_is)
    (case a6 => k_is)
    (case l6 => k_is)
    (case c6 => k_is)
    (case k6 => k_is)
    (case a7 => k_is)
    (case l7 => k_is)
    (case c7 => k_is)
    (case k7 => k_is)
    (case a8 => k_is)
    (case l8 => k_is)
    (case c8 => k_is)
    (case k8 => k_is)
    (case a9 => k_is)
    (case l9 => k_is)
    (case c9 => k_is)
    (case k9 => k_is)
    (case a10 => k_is)
    (case l10 => k_is)
    (case c10 => k_is)
    (case k10 => k_is)
    (case a11 => k_is)
    (case l11 => k_is)
    (case c11 => k_is)
    (case k11 => k_is)
    (case a12 => k_is)
    (case l12 => k_is)
    (case c12 => k_is)
    (case k12 => k_is)
    (case a13 => k_is)
    (case l13 => k_is)
    (case c13 => k_is)
    (case k13 => k_is)
    (case a14 => k_is)
    (case l14 => k_is)
    (case c14 => k_is)
    (case k14 => k_is)
    (case a15 => k_is)
    (case l15 => k_is)
    (case c15 => k_is)
    (case k15 => k_is)
    (case a16 => k_is)
    (case l16 => k_is)
    (case c16 => k_is)
    (case k16 => k_is)
    (case a17 => k_is)
    (case l17 => k_is)
    (case c17 => k_is)
    (case k17 => k_is)
    (case a18 => k_is)
    (case l18 => k_is)
    (case c18 => k_is)
    (case k18 => k_is)
    (case a19 => k_is)
    (case l19 => k_is)
    (case c19 => k_is)
    (case k19 => k_is)
    (case a20 => k_is)
    (case l20 => k_is)
    (case c20 => k_is)
    (case k20 => k_is)
    (case a21 => k_is)
    (case l21 => k_is)
    (case c21 => k_is)
    (case k21 => k_is)
    (case a22 => k_is)
    (case l22 => k_is)
    (case c22 => k_is)
    (case k22 => k_is)
    (case a23 => k_is)
    (case l23 => k_is)
    (case c23 => k_is)
    (case k23 => k_is)
    (case a24 => k_is)
    (case l24 => k_is)
    (case c24 => k_is)
    (case k24 => k_is)
    (case a25 => k_is)
    (case l25 => k_is)
    (case c25 => k_is)
    (case k25 => k_is)
    (case a26 => k_is)
    (case l26 => k_is)
    (case c26 => k_is)
    (case k26 => k_is)
    (case a27 => k_is)
    (case l27 => k_is)
    (case c27 => k_is)
    (case k27 => k_is)
    (case a28 => k_is)
    (case l28 => k_is)
    (case c28 => k_is)
    (case k28 => k_is)
    (case a29 => k_is)
    (case l29 => k_is)
    (case c29 => k_is)
    (case k29 => k_is)
    (case a30 => k_is)
    (case l30 => k_is)
    (case c30 => k_is)
    (case k30 => k_is)
    (case a31 => k_is)
    (case l31 => k_is)
    (case c31 => k_is)
    (case k31 => k_is)
    (case a32 => k_is)
    (case l32 => k_is)
    (case c32 => k_is)
    (case k32 => k_is)
    (case a33 => k_is)
    (case l33 => k_is)
    (case c33 => k_is)
    (case k33 => k_is)
    (case a34 => k_is)
    (case l34 => k_is)
    (case c34 => k_is)
    (case k34 => k_is)
    (case a35 => k_is)
    (case l35 => k_is)
    (case c35 => k_is)
    (case k35 => k_is)
    (case a36 => k_is)
    (case l36 => k_is)
    (case c36 => k_is)
    (case k36 => k_is)
    (case a37 => k_is)
    (case l37 => k_is)
    (case c37 => k_is)
    (case k37 => k_is)
    (case a38 => k_is)
    (case l38 => k_is)
    (case c38 => k_is)
    (case k38 => k_is)
    (case a39 => k_is)
    (case l39 => k_is)
    (case c39 => k_is)
    (case k39 => k_is)
    (case a40 => k_is)
    (case l40 => k_is)
    (case c40 => k_is)
    (case k40 => k_is)
    (case a41 => k_is)
    (case l41 => k_is)
    (case c41 => k_is)
    (case k41 => k_is)
    (case a42 => k_is)
    (case l42 => k_is)
    (case c42 => k_is)
    (case k42 => k_is)
    (case a43 => k_is)
    (case l43 => k_is)
    (case c43 => k_is)
    (case k43 => k_is)
    (case a44 => k_is)
    (case l44 => k_is)
    (case c44 => k_is)
    (case k44 => k_is)
    (case a45 => k_is)
    (case l45 => k_is)
    (case c45 => k_is)
    (case k45 => k_is)
    (case a46 => k_is)
    (case l46 => k_is)
    (case c46 => k_is)
    (case k46 => k_is)
    (case a47 => k_is)
    (case l47 => k_is)
    (case c47 => k_is)
    (case k47 => k_is)
    (case a48 => k_is)
    (case l48 => k_is)
    (case c48 => k_is)
    (case k48 => k_is)
    (case a49 => k_is)
    (case l49 => k_is)
    (case c49 => k_is)
    (case k49 => k_is)
    (case a50 => k_is)
    (case l50 => k_is)
    (case c50 => k_is)
    (case k50 => k_is)
    (case a51 => k_is)
    (case l51 => k_is)
    (case c51 => k_is)
    (case k51 => k_is)
    (case a52 => k_is)
    (case l52 => k_is)
    (case c52 => k_is)
    (case k52 => k_is)
    (case qg0 => k_is)
    (case qg1 => k_is)
    (case qg2 => k_is)
    (case qg3 => k_is)
    (case qg4 => k_is)
    (case qg5 => k_is)
    (case qg6 => k_is)
    (case qg7 => k_is)
    (case qg8 => k_is)
    (case qg9 => k_is)
    (case qg10 => k_is)
    (case qg11 => k_is)
    (case ql11 => k_is)
    (case qg12 => k_is)
    (case ql12 => k_is)
    (case qg13 => k_is)
    (case qg14 => k_is)
    (case ql14 => k_is)
    (case z0 => k_is)
    (case z1 => k_is)
    (case z2 => k_is)
    (case z3 => k_is)
    (case z4 => k_is)
    (case z5 => k_is)
    (case z6 => k_is)
    (case z7 => k_is)
    (case z8 => k_is)
    (case z9 => k_is)
    (case z10 => k_is)
    (case z11 => k_is)
    (case z12 => k_is)
    (case z13 => k_is)
    (case z14 => k_is)
    (case z15 => k_is)
    (case z16 => k_is)
    (case z17 => k_is)
    (case sg => k_is)
    (case tp => first | rfl | decide +kernel)
    (case nt => k_is)
    (case cn => k_is)
    (case ctk => k_is)
    (case xa0 => k_is)
    (case xl0 => k_is)
    (case xr0 => first | rfl | decide +kernel)
    (case xs0 => k_is)
    (case xe0 => k_is)
    (case xt0 => k_is)
    (case xk0 => k_is)
    (case ia0 => k_is)
    (case it0 => k_is)
    (case il0 => k_is)
    (case ic0 => k_is)
    (case dl0 => k_is)
    (case dv0 => exact rfl)
    (case df0 => first | rfl | decide +kernel)
    (case ce0 => k_is)
    (case hD0 => k_is)
    (case mr0 => k_is)
    (case su0 => ks_is)
    (case ve0 => k_is)
    (case ga_0 => k_is)
    (case gg0 => k_is)
    (case hd0 => k_is)
    (case ca0 => k_is)
    (case cm0 => k_is)
    (case fn0_thing => k_is)
    (case em0_0 => k_is)

