import PyProof.Rows.All
import Wide.All
import OpenK.AllK
import Wide.FinOn
import HandS.ForMost
import HandS.ForExc
import HandS.IsInst
import HandS.Zip
import HandS.Strs
import HandS.Style
import HandS.TupAny
import HandS.TupMul
import HandS.Deep
import KE.GoesEnum
import HandS.CallSlots
import HandS.Defaults
import HandS.HeadHook1
import HandS.HeadHook2
import HandS.IterVal
import KE.DataMinMax
import HandS.Dict
import HandS.Iter
import PySem.Challenge.RW_carwires_k15_whole_cheapest_gauges
import KE.KStateDown
import Lean
import HandS.Ends
import HandS.More
import HandS.Words
import HandS.WordsExc
import HandS.Head0
import HandS.Head1
import HandS.Head2
import HandS.HeadEnd
import KE.SortData
section
set_option Elab.async false
set_option linter.all false
set_option maxRecDepth 100000
set_option maxHeartbeats 4000000
/-! DPT: new tuples with their objects told (so that their methods may be called); methods of such tuples. -/
namespace DP
open PySem PySem.Spec PyProof.Rows L2
/-- a tuple whose object is told -/
abbrev tupO (us : List Value) : Obj := { cls := .type "tuple", data := .seq us.toArray }
def TupF (H : Hp) (p : Addr) (xs : List V) : Prop := ∃ o : Obj, o.dict = none ∧ H p = some (.frz o (.tup xs))
theorem TupF.sq {K : PySem.W.Frag} {H : Hp} {p : Addr} {xs : List V} (h : TupF H p xs) : SqT K H p xs := by
  obtain ⟨o, _, h⟩ := h
  exact .inl (.inr ⟨o, h⟩)
section
variable {X : Cx}
theorem Inv.newT {pins : List (Addr × Obj)} {σ : L2.St} {H : Hp} {s : Shared} {xs : List V} {us : List Value} {t' : Nat} (I : Inv X pins σ H s) (z : xs.length ≤ sizeLine) (r : Vals xs us) :
    Inv X pins σ (upd H s.heap.objs.size (.frz (tupO us) (.tup xs))) { s with heap := s.heap.push (tupO us), toks := t' } :=
  I.laid (t' := t') (fun b u e => Heap.get?_push_of_some _ e) (Nat.le_refl _) ⟨Heap.get?_push_size _ rfl, z, us, r, IsTup.new _ _⟩
def kT (H : Hp) (xs : List V) (Q : VK) : Prop := ∀ (p : Addr) (o : Obj), H p = none → o.dict = none → Q (.ref p) (upd H p (.frz o (.tup xs)))
def tTupF (t : TA) : TE := fun σ H Q => t σ H fun xs H1 => xs.length ≤ sizeLine ∧ kT H1 xs Q
theorem pe_tupF {es : List Expr} {t : TA} {pos : Pos} {x1} (h : PA X es t) : PE X (.Tuple es x1 pos) (tTupF t) := by
  refine ⟨fun pins s σ H Q I hq => ?_⟩
  refine wpAny_Tuple_spliced (thn (h.run pos pins s σ H _ I hq) fun us s1 ⟨xs, H1, I1, r, z, q⟩ => ⟨by rw [← r.length]; exact z, ?_⟩)
  exact ⟨.ref s1.heap.objs.size, _, Inv.newT (t' := s1.toks) I1 z r, rfl, q _ _ (I1.hok.fresh (Nat.le_refl _)) rfl⟩
def rSlF (K : PySem.W.Frag) : V → Option Int → Option Int → Hp → VK → Prop := fun x lo hi H Q => ∃ a xs, x = .ref a ∧ SqT K H a xs ∧
  (HT.sIx xs.length 0 lo = 0 ∧ HT.sIx xs.length xs.length hi = xs.length → Q (.ref a) H) ∧ (¬ (HT.sIx xs.length 0 lo = 0 ∧ HT.sIx xs.length xs.length hi = xs.length) → kT H (cutV xs lo hi) Q)
theorem sl_tupF : SlR X (rSlF X.K) := by
  intro pins s σ H x v vl vu lo hi sl Q I rx hs pl pu h
  obtain ⟨a, xs, rfl, hx, q1, q2⟩ := h
  cases rx
  obtain ⟨its, r, ht, hz⟩ := I.tuple hx
  have hlen : its.toArray.size = xs.length := by rw [List.size_toArray]; exact r.length.symm
  refine ⟨"tuple", _, PyProof.Rows.slot_tuple_getitem.lookup, ht.typeIs, ?_⟩
  by_cases hw : HT.sIx xs.length 0 lo = 0 ∧ HT.sIx xs.length xs.length hi = xs.length
  · exact getItem_tuple_whole ht hs pl pu (by rw [hlen]; exact hw) ⟨.ref a, H, I, rfl, q1 hw⟩
  · refine HT.getItem_tuple_cut ht hs pl pu (by rw [hlen]; exact hw) ?_ (by rw [hlen]; exact hz)
    rw [hlen]
    exact ⟨.ref s.heap.objs.size, _, Inv.newT (t' := s.toks) I (Nat.le_trans (cutV_length xs lo hi) hz) ((r.drop (HT.sIx xs.length 0 lo)).take (HT.sIx xs.length xs.length hi - HT.sIx xs.length 0 lo)), rfl, q2 hw _ _ (I.hok.fresh (Nat.le_refl _)) rfl⟩
def rCatF (K : PySem.W.Frag) : R2 := fun x y H Q => ∃ a b xs ys, x = .ref a ∧ y = .ref b ∧ SqT K H a xs ∧ SqT K H b ys ∧ xs.length + ys.length ≤ sizeLine ∧
  (xs = [] → Q (.ref b) H) ∧ (xs ≠ [] → ys = [] → Q (.ref a) H) ∧ (xs ≠ [] → ys ≠ [] → kT H (xs ++ ys) Q)
theorem op_catF : OpR X (binaryOp .Add) (rCatF X.K) := by
  intro pins s σ H x y v u Q I rx ry h
  obtain ⟨a, b, xs, ys, rfl, rfl, ha, hb, hz, q0, q1, q2⟩ := h
  cases rx
  cases ry
  obtain ⟨its, r1, p1, _⟩ := I.tuple ha
  obtain ⟨its2, r2, p2, _⟩ := I.tuple hb
  by_cases hx : xs = []
  · subst hx
    cases r1
    exact cat_tup0 p1 p2 ⟨.ref b, H, I, rfl, q0 rfl⟩
  · refine HT.cat_tup p1 p2 (fun z => hx (r1.nil_iff.mp z)) (fun z => ⟨.ref a, H, I, rfl, q1 hx (r2.nil_iff.mp z)⟩) (fun z => ?_) (by rw [← r1.length, ← r2.length]; exact hz)
    exact ⟨.ref s.heap.objs.size, _, Inv.newT (t' := s.toks) I (by rw [List.length_append]; exact hz) (r1.append r2), rfl, q2 hx (fun w => z (r2.nil_iff.mpr w)) _ _ (I.hok.fresh (Nat.le_refl _)) rfl⟩
def rRepF (K : PySem.W.Frag) : R2 := fun x y H Q => ∃ l k xs, x = .ref l ∧ y = .int k ∧ SqT K H l xs ∧ xs ≠ [] ∧ 2 ≤ k ∧ k ≤ 1000 ∧ xs.length ≤ 1000 ∧ kT H (List.replicate k.toNat xs).flatten Q
theorem op_repF : OpR X (binaryOp .Mult) (rRepF X.K) := by
  intro pins s σ H x y v u Q I rx ry h
  obtain ⟨l, k, xs, rfl, rfl, hT, hne, h1, h2, hz, q⟩ := h
  cases rx
  obtain ⟨t, rfl⟩ := ry
  obtain ⟨its, r, ⟨⟨cls, dd, data, sl⟩, ho, hc, n, hd⟩, hs⟩ := I.tuple hT
  simp only at hc hd
  subst hc hd
  have hle : its.length = xs.length := r.length.symm
  have hn : its ≠ [] := fun e => hne (by
    rw [e] at hle
    exact List.eq_nil_of_length_eq_zero hle.symm)
  have hi : its.toArray.isEmpty = false := by
    cases its with
    | nil => exact absurd rfl hn
    | cons a b => rfl
  have hsz0 : its.toArray.size = xs.length := by rw [List.size_toArray, hle]
  have hm : ((its.toArray.size : Nat) : Int) * k ≤ 1000000 := by
    rw [hsz0]
    have a1 : ((xs.length : Nat) : Int) * k ≤ 1000 * k := Int.mul_le_mul_of_nonneg_right (by omega) (by omega)
    omega
  have flen : (List.replicate k.toNat its).flatten.length ≤ sizeLine := by
    rw [PyProof.Rows.lm_len_rep_flat, hle, sizeLine_eq]
    have a1 : k.toNat * xs.length ≤ 1000 * 1000 := Nat.mul_le_mul (by omega) hz
    omega
  have c0 : (decide (k < -(2 ^ 63)) || decide (k ≥ 2 ^ 63)) = false := by
    rw [decide_eq_false (by omega), decide_eq_false (by omega)] <;> rfl
  have c1 : (its.toArray.isEmpty || k == 1) = false := by
    rw [hi, Bool.false_or]
    exact beq_eq_false_iff_ne.mpr (by omega)
  have c2 : (decide (k ≤ 0) || its.toArray.isEmpty) = false := by
    rw [hi, Bool.or_false]
    exact decide_eq_false (by omega)
  have c4 : Builtin.Tuple.tupleTooMany (((its.toArray.size : Nat) : Int) * k) = false := by
    unfold Builtin.Tuple.tupleTooMany
    rw [sizeLine_eq]
    exact decide_eq_false (by omega)
  refine wpAny_binaryOp_repeat_ref (T := "tuple") (U := "int") (by decide) ⟨_, ho, rfl⟩ (fun s' => typeIs_int s' k t) noFill_tuple_mul F.fills_int_mul F.slot_int_rmul repeat_tuple F.slot_int_index.lookup
    (call_meets F.slot_int_rmul (typeIs_int s k t) F.entry_int_rmul (F.args_int_rmul_2 _ _) (int_rmul_tuple k t l its.toArray n dd sl)
      ⟨ho, rfl, ⟨_, ho, rfl⟩, call_meets F.slot_tuple_mul ⟨_, ho, rfl⟩ F.entry_tuple_mul (F.args_tuple_mul_2 _ _) (tuple_mulW l its.toArray n dd sl k t c0 c1 c2 (by omega) c4 (by rw [size_rep, List.size_toArray]; exact flen)) ⟨ho, ?_⟩⟩)
  rw [size_rep]
  exact ⟨.ref s.heap.objs.size, _, Inv.newT (t' := s.toks) I (by rw [PyProof.Rows.lm_len_rep_flat, sizeLine_eq]; have a1 : k.toNat * xs.length ≤ 1000 * 1000 := Nat.mul_le_mul (by omega) hz; omega) (r.rep k.toNat), rfl, q _ _ (I.hok.fresh (Nat.le_refl _)) rfl⟩
theorem call_tupF : CallR X (.type "tuple") (fun xs H Q => ∃ p ys, xs = [.ref p] ∧ ((SqL X.K H p ys ∧ kT H ys Q) ∨ (SqT X.K H p ys ∧ Q (.ref p) H))) := by
  intro pins s σ H xs us Q I r h
  obtain ⟨p, ys, rfl, h⟩ := h
  obtain ⟨u, rfl, rx⟩ := vals1 r
  cases rx
  rcases h with ⟨hq, q⟩ | ⟨hq, q⟩
  · obtain ⟨its, r', pl, hz⟩ := I.list hq
    have hlen := r'.length
    refine call_tuple_list pl.isList (fun h' kp => ?_) (by simp only [List.size_toArray] <;> omega)
    have I1 : Inv X pins σ H { s with heap := h' } := I.kept (t' := s.toks) kp
    exact ⟨.ref h'.objs.size, _, Inv.newT (t' := s.toks) I1 hz r', rfl, q _ _ (I1.hok.fresh (Nat.le_refl _)) rfl⟩
  · obtain ⟨its, r', pl, hz⟩ := I.tuple hq
    exact call_tuple_same pl ⟨.ref p, H, I, rfl, q⟩
/-! ### methods of tuples -/
def TupM (K : PySem.W.Frag) (H : Hp) (p : Addr) : Prop := (∃ xs, TupF H p xs) ∨ ∃ o, K.lookup p = some o ∧ o.cls = .type "tuple" ∧ o.dict = none
theorem TupM.is {pins : List (Addr × Obj)} {σ : L2.St} {H : Hp} {s : Shared} {p : Addr} (I : Inv X pins σ H s) (h : TupM X.K H p) : s.TypeIs (.ref p) "tuple" ∧ ∀ a, (Value.ref p) = .ref a → ∃ ob, s.heap.get? a = some ob ∧ ob.dict = none := by
  rcases h with ⟨xs, o, hd, h⟩ | ⟨o, hk, hc, hd⟩
  · obtain ⟨e, _, _, _, o2, h1, h2, _⟩ := (show ObjOk X.prog X.w H s.heap p (.frz o (.tup xs)) from I.hok p _ h)
    rw [e] at h1; cases h1
    exact ⟨⟨o, e, h2⟩, fun a ea => by cases ea; exact ⟨o, e, hd⟩⟩
  · exact ⟨⟨o, I.kIn p o hk, hc⟩, fun a ea => by cases ea; exact ⟨o, I.kIn _ o hk, hd⟩⟩
def tTM (K : PySem.W.Frag) (r : V → List V → Hp → VK → Prop) (to : TE) (t : TA) : TE := fun σ H Q => to σ H fun x H1 => ∃ p, x = .ref p ∧ TupM K H1 p ∧ t σ H1 fun xs H2 => r x xs H2 Q
theorem pe_tm {o e : Expr} {es : List Expr} {to : TE} {t : TA} {name : Str} {apos cpos : Pos} {id : String} {r : V → List V → Hp → VK → Prop} (slot : Slot "tuple" name id) (hty : typeOf (.builtin id) = pure (.type "method_descriptor")) (hm : MtR X id r) (ho : PE X o to) (ha : PA X (e :: es) t)
    (hbase : attributeBase o name X.env (eval o X.env) = eval o X.env := by rfl)
    (hfew : ((backTo cpos (starEach (e :: es) X.env)).all (fun x => !x.1) && (backToKw cpos (keywordEach [] X.env)).all (fun x => x.1.isSome)
      && decide ((e :: es).length + ([] : List Keyword).length + (if ([] : List Keyword).isEmpty then 0 else 1) < 30)) = true := by rfl)
    (hline : (apos.endLine == cpos.line) = true := by rfl) (hs : starEach (e :: es) X.env = (false, eval e X.env) :: starEach es X.env := by rfl) (hplain : (backTo cpos (starEach es X.env)).any (·.1) = false := by rfl) :
    PE X (.Call (.Attribute o name apos) (e :: es) [] cpos) (tTM X.K r to t) := by
  refine ⟨fun pins s σ H Q I h => ?_⟩
  refine wpAny_Call_method_late hbase hfew hline rfl (thn (ho.run pins s σ H _ I h) fun v s1 ⟨x, H1, I1, r1, p, ex, ty, q1⟩ => ?_)
  subst ex
  cases r1
  obtain ⟨h1, h2⟩ := TupM.is I1 ty
  refine ⟨"tuple", id, PySem.F.plainAttrs_tuple, slot, hty, h1, h2, ?_⟩
  have hA := ha.run cpos pins s1 σ H1 _ I1 q1
  rw [hs] at hA ⊢
  refine Calls.callWith_builtin (by show (false || (backTo cpos (starEach es X.env)).any (·.1)) = false; rw [hplain] <;> rfl) (Calls.evalArgs_plain ?_)
  exact thn hA fun us s2 ⟨vs, H2, I2, r2, q2⟩ => hm pins s2 σ H2 (.ref p) vs _ us Q I2 rfl r2 q2
/-- t.index(x), data -/
def rIndexP (K : PySem.W.Frag) : V → List V → Hp → VK → Prop := fun x xs H Q => ∃ (y : V) (d : PyData) (ds : List PyData) (j : Nat) (z : PyData), xs = [y] ∧ Dp K H x (.tuple ds) ∧ Dp K H y d ∧ PyData.canLayAll0 ds = true ∧ d.canLay0 = true ∧ d.depth ≤ 60 ∧
  ds[j]? = some z ∧ PyData.eqv z d = true ∧ (∀ (m : Nat) (z' : PyData), m < j → ds[m]? = some z' → PyData.eqv z' d = false) ∧ Q (.int (j : Nat)) H
theorem mt_indexP (hu : X.A.units + 64 < cLine) : MtR X "tuple.index" (rIndexP X.K) := by
  intro pins s σ H x xs v us Q I rx rs h
  obtain ⟨y, d, ds, j, z, rfl, hx, hy, c1, c2, c3, hj, hit, hno, q⟩ := h
  obtain ⟨u, rfl, ru⟩ := vals1 rs
  obtain ⟨as, r1⟩ := Dp.reads I _ x v hx rx
  obtain ⟨bs, r2⟩ := Dp.reads I d y u hy ru
  cases r1 with
  | @tuple a o its n _ _ h1 h2 h3 h4 =>
    obtain ⟨cls, dd, dt, sl⟩ := o
    simp only at h2 h3
    subst h2 h3
    have e := SeqAt.readsAll_map ds _ _ c1 h4
    have at' : ∀ (m : Nat) (hm : m < its.size), ds[m]? = some (SeqAt.readOf s.heap its[m]) := fun m hm => by
      rw [← e, List.getElem?_map]
      simp [hm]
    have hlen : its.size = ds.length := by rw [← e]; simp
    have hjl : j < its.size := by rw [hlen]; exact (List.getElem?_eq_some_iff.mp hj).1
    refine call_meets PySem.F.slot_tuple_index ⟨_, h1, rfl⟩ PySem.F.entry_tuple_index (PySem.F.args_tuple_index_2 _ _) (TI.tuple_indexAt a its n dd sl u (fun y => PyData.eqv (SeqAt.readOf s.heap y) d) j hjl ?_ ?_)
      ⟨h1, SeqAt.items_eqAt h4 r2 c1 c2 (by have := Nat.min_le_right (PyData.depthAll ds) d.depth; show X.A.units + 1 + _ < cLine; omega), ⟨.int (j : Nat), H, I.tok _, ⟨_, rfl⟩, q⟩⟩
    · have q := at' j hjl
      rw [hj] at q
      cases q
      exact hit
    · intro m hm hmj
      exact hno m _ hmj (at' m hm)
end
end DP
end
section
set_option Elab.async false
set_option linter.all false
set_option maxRecDepth 100000
set_option maxHeartbeats 4000000
/-! DP0: trees of data, how the abstract heap bears them, steps of the heap. -/
namespace DP
open PySem PySem.Spec PyProof.Rows L2

/-- data that never change -/
inductive D where
  | non | bl (b : Bool) | int (i : Int) | str (x : Str) | ty (n : String) | fn (n : String) | cls (n : String)
  | tup (ds : List D) | lst (ds : List D)
  | ins (c : String) (fs : List (String × D))
  | dic (kvs : List (Key × D))
  | scr (ns : List Int)
  deriving Inhabited
/-- one thing that its slot alone holds, so that it may change -/
inductive OD where
  | lst (ds : List D) | dic (kvs : List (Key × D)) | ins (c : String) (fs : List (String × D))
def fz : OD → D
  | .lst ds => .lst ds
  | .dic kvs => .dic kvs
  | .ins c fs => .ins c fs
/-- where classes and functions stand -/
structure Tb where
  cls : String → Option Addr
  fnA : String → Option Addr
  pin : Nat → V := fun _ => .non

abbrev AP := Addr → Prop
def FzL (F : AP) (H : Hp) (a : Addr) (xs : List V) : Prop := F a ∧ H a = some (.lst xs)
def FzT (K : PySem.W.Frag) (F : AP) (H : Hp) (a : Addr) (xs : List V) : Prop := (F a ∧ TupF H a xs) ∨
    ∃ (o : Obj) (its : Array Value) (n : Nat), K.lookup a = some o ∧ o.cls = .type "tuple" ∧ o.dict = none ∧ o.data = .seq its n ∧ its.size ≤ sizeLine ∧ Vals xs its.toList
theorem FzL.sq {K : PySem.W.Frag} {F : AP} {H : Hp} {a : Addr} {xs : List V} (h : FzL F H a xs) : SqL K H a xs := .inl (.inl h.2)
theorem FzT.sq {K : PySem.W.Frag} {F : AP} {H : Hp} {a : Addr} {xs : List V} (h : FzT K F H a xs) : SqT K H a xs := by
  rcases h with h | ⟨o, its, n, h1, h2, _, h3, h4, h5⟩
  · exact h.2.sq
  · exact .inr ⟨o, its, n, h1, h2, h3, h4, h5⟩
theorem FzT.tm {K : PySem.W.Frag} {F : AP} {H : Hp} {a : Addr} {xs : List V} (h : FzT K F H a xs) : TupM K H a := by
  rcases h with h | ⟨o, its, n, h1, h2, h0, _⟩
  · exact .inl ⟨_, h.2⟩
  · exact .inr ⟨o, h1, h2, h0⟩
def ScrAt (K : PySem.W.Frag) (F : AP) (H : Hp) (a : Addr) (xs : List V) : Prop := (F a ∧ ∃ o, H a = some (.frz o (.lst xs))) ∨
    ∃ (o : Obj) (its : Array Value) (n : Nat), K.lookup a = some o ∧ o.cls = .type "list" ∧ o.dict = none ∧ o.data = .seq its n ∧ its.size ≤ sizeLine ∧ Vals xs its.toList
theorem ScrAt.sq {K : PySem.W.Frag} {F : AP} {H : Hp} {a : Addr} {xs : List V} (h : ScrAt K F H a xs) : SqL K H a xs := by
  rcases h with ⟨_, o, h⟩ | h
  · exact .inl (.inr ⟨o, h⟩)
  · exact .inr h
mutual
inductive RD (K : PySem.W.Frag) (T : Tb) (F : AP) (H : Hp) : V → D → Prop
  | non : RD K T F H .non .non
  | bl (b : Bool) : RD K T F H (.bl b) (.bl b)
  | int (i : Int) : RD K T F H (.int i) (.int i)
  | str (x : Str) : RD K T F H (.str x) (.str x)
  | ty (n : String) : RD K T F H (.ty n) (.ty n)
  | fn {n : String} {a : Addr} (h : T.fnA n = some a) : RD K T F H (.ref a) (.fn n)
  | cls {n : String} {a : Addr} (h : T.cls n = some a) : RD K T F H (.ref a) (.cls n)
  | tup {a : Addr} {xs : List V} {ds : List D} (h : FzT K F H a xs) (hs : RDs K T F H xs ds) : RD K T F H (.ref a) (.tup ds)
  | lst {a : Addr} {xs : List V} {ds : List D} (h : FzL F H a xs) (hs : RDs K T F H xs ds) : RD K T F H (.ref a) (.lst ds)
  | ins {a C dx : Addr} {c : String} {vs : List (Str × V)} {fs : List (String × D)} (hf : F a) (hc : T.cls c = some C) (h : H a = some (.ins C dx vs)) (hs : RFs K T F H vs fs) : RD K T F H (.ref a) (.ins c fs)
  | dic {a : Addr} {vs : List (Key × V)} {kvs : List (Key × D)} (hf : F a) (h : Rd H a (.dK vs)) (hs : RKs K T F H vs kvs) : RD K T F H (.ref a) (.dic kvs)
  | scr {a : Addr} {ns : List Int} (h : ScrAt K F H a (ns.map V.int)) : RD K T F H (.ref a) (.scr ns)
inductive RDs (K : PySem.W.Frag) (T : Tb) (F : AP) (H : Hp) : List V → List D → Prop
  | nil : RDs K T F H [] []
  | cons {v : V} {vs : List V} {d : D} {ds : List D} (h : RD K T F H v d) (hs : RDs K T F H vs ds) : RDs K T F H (v :: vs) (d :: ds)
inductive RFs (K : PySem.W.Frag) (T : Tb) (F : AP) (H : Hp) : List (Str × V) → List (String × D) → Prop
  | nil : RFs K T F H [] []
  | cons {f : String} {v : V} {vs : List (Str × V)} {d : D} {ds : List (String × D)} (h : RD K T F H v d) (hs : RFs K T F H vs ds) : RFs K T F H ((Str.ofString f, v) :: vs) ((f, d) :: ds)
inductive RKs (K : PySem.W.Frag) (T : Tb) (F : AP) (H : Hp) : List (Key × V) → List (Key × D) → Prop
  | nil : RKs K T F H [] []
  | cons {f : Key} {v : V} {vs : List (Key × V)} {d : D} {ds : List (Key × D)} (h : RD K T F H v d) (hs : RKs K T F H vs ds) : RKs K T F H ((f, v) :: vs) ((f, d) :: ds)
end

section
variable {K : PySem.W.Frag} {T : Tb} {F F' : AP} {H H' : Hp}
def NoTbl (o : HO) : Prop := ∀ ps, o ≠ .tbl ps
theorem Rd.mono' {a : Addr} {u : HO} (hu : NoTbl u) (k : ∀ o, H a = some o → NoTbl o → H' a = some o) (h : Rd H a u) : Rd H' a u := by
  rcases h with h | ⟨o, h⟩
  · exact .inl (k _ h hu)
  · exact .inr ⟨o, k _ h (fun ps z => by cases z)⟩
mutual
theorem RD.mono (hF : ∀ a, F a → F' a) (k : ∀ a o, F a → H a = some o → NoTbl o → H' a = some o) : ∀ (d : D) (v : V), RD K T F H v d → RD K T F' H' v d
  | .non, _, h => by cases h; exact .non
  | .bl _, _, h => by cases h; exact .bl _
  | .int _, _, h => by cases h; exact .int _
  | .str _, _, h => by cases h; exact .str _
  | .ty _, _, h => by cases h; exact .ty _
  | .fn _, _, h => by cases h with | fn h => exact .fn h
  | .cls _, _, h => by cases h with | cls h => exact .cls h
  | .tup ds, _, h => by
    cases h with
    | tup h hs =>
      refine .tup ?_ (RDs.mono hF k ds _ hs)
      rcases h with ⟨f, o, hd, h⟩ | h
      · exact .inl ⟨hF _ f, o, hd, k _ _ f h (fun ps z => by cases z)⟩
      · exact .inr h
  | .lst ds, _, h => by
    cases h with
    | lst h hs => exact .lst ⟨hF _ h.1, k _ _ h.1 h.2 (fun ps z => by cases z)⟩ (RDs.mono hF k ds _ hs)
  | .ins c fs, _, h => by
    cases h with
    | ins hf hc h hs => exact .ins (hF _ hf) hc (k _ _ hf h (fun ps z => by cases z)) (RFs.mono hF k fs _ hs)
  | .dic kvs, _, h => by
    cases h with
    | dic hf h hs => exact .dic (hF _ hf) (Rd.mono' (fun ps z => by cases z) (fun o e n => k _ o hf e n) h) (RKs.mono hF k kvs _ hs)
  | .scr ns, _, h => by
    cases h with
    | scr h =>
      refine .scr ?_
      rcases h with ⟨f, o, h⟩ | h
      · exact .inl ⟨hF _ f, o, k _ _ f h (fun ps z => by cases z)⟩
      · exact .inr h
theorem RDs.mono (hF : ∀ a, F a → F' a) (k : ∀ a o, F a → H a = some o → NoTbl o → H' a = some o) : ∀ (ds : List D) (vs : List V), RDs K T F H vs ds → RDs K T F' H' vs ds
  | [], _, h => by cases h; exact .nil
  | d :: ds, _, h => by cases h with | cons h hs => exact .cons (RD.mono hF k d _ h) (RDs.mono hF k ds _ hs)
theorem RFs.mono (hF : ∀ a, F a → F' a) (k : ∀ a o, F a → H a = some o → NoTbl o → H' a = some o) : ∀ (ds : List (String × D)) (vs : List (Str × V)), RFs K T F H vs ds → RFs K T F' H' vs ds
  | [], _, h => by cases h; exact .nil
  | (_, d) :: ds, _, h => by cases h with | cons h hs => exact .cons (RD.mono hF k d _ h) (RFs.mono hF k ds _ hs)
theorem RKs.mono (hF : ∀ a, F a → F' a) (k : ∀ a o, F a → H a = some o → NoTbl o → H' a = some o) : ∀ (ds : List (Key × D)) (vs : List (Key × V)), RKs K T F H vs ds → RKs K T F' H' vs ds
  | [], _, h => by cases h; exact .nil
  | (_, d) :: ds, _, h => by cases h with | cons h hs => exact .cons (RD.mono hF k d _ h) (RKs.mono hF k ds _ hs)
end

/-- one owned thing at its address -/
inductive RO (K : PySem.W.Frag) (T : Tb) (F : AP) (H : Hp) : V → OD → List Addr → Prop
  | lst {a : Addr} {xs : List V} {ds : List D} (h : H a = some (.lst xs)) (hs : RDs K T F H xs ds) : RO K T F H (.ref a) (.lst ds) [a]
  | dic {a : Addr} {vs : List (Key × V)} {kvs : List (Key × D)} (h : H a = some (.dK vs)) (hs : RKs K T F H vs kvs) : RO K T F H (.ref a) (.dic kvs) [a]
  | ins {a C dx : Addr} {c : String} {vs : List (Str × V)} {fs : List (String × D)} (hc : T.cls c = some C) (h : H a = some (.ins C dx vs)) (hs : RFs K T F H vs fs) : RO K T F H (.ref a) (.ins c fs) [a]
theorem RO.mono {v : V} {od : OD} {own : List Addr} (hF : ∀ a, F a → F' a) (k : ∀ a o, (F a ∨ a ∈ own) → H a = some o → NoTbl o → H' a = some o) (h : RO K T F H v od own) : RO K T F' H' v od own := by
  cases h with
  | lst h hs => exact .lst (k _ _ (.inr (by simp)) h (fun ps z => by cases z)) (RDs.mono hF (fun a o f => k a o (.inl f)) _ _ hs)
  | dic h hs => exact .dic (k _ _ (.inr (by simp)) h (fun ps z => by cases z)) (RKs.mono hF (fun a o f => k a o (.inl f)) _ _ hs)
  | ins hc h hs => exact .ins hc (k _ _ (.inr (by simp)) h (fun ps z => by cases z)) (RFs.mono hF (fun a o f => k a o (.inl f)) _ _ hs)
theorem RO.there {v : V} {od : OD} {own : List Addr} (h : RO K T F H v od own) : ∀ a ∈ own, H a ≠ none := by
  intro a ha
  cases h with
  | lst h hs => simp at ha; subst ha; rw [h]; simp
  | dic h hs => simp at ha; subst ha; rw [h]; simp
  | ins hc h hs => simp at ha; subst ha; rw [h]; simp
theorem RO.nodup {v : V} {od : OD} {own : List Addr} (h : RO K T F H v od own) : own.Nodup := by
  cases h <;> simp
/-- what is owned is given up: from now on it never changes -/
theorem RO.freeze {v : V} {od : OD} {own : List Addr} (h : RO K T F H v od own) (hF : ∀ a, F a → F' a) (ho : ∀ a ∈ own, F' a) : RD K T F' H v (fz od) := by
  cases h with
  | lst h hs => exact .lst ⟨ho _ (by simp), h⟩ (RDs.mono hF (fun a o _ e _ => e) _ _ hs)
  | dic h hs => exact .dic (ho _ (by simp)) (.inl h) (RKs.mono hF (fun a o _ e _ => e) _ _ hs)
  | ins hc h hs => exact .ins (ho _ (by simp)) hc h (RFs.mono hF (fun a o _ e _ => e) _ _ hs)

/-- a step: F what never changes, O what may be changed -/
structure Ext (F : AP) (O : List Addr) (H : Hp) (F' : AP) (O' : List Addr) (H' : Hp) : Prop where
  fz : ∀ a, F a → F' a
  keep : ∀ a o, H a = some o → a ∉ O → NoTbl o → H' a = some o
  newF : ∀ a, F' a → F a ∨ a ∈ O ∨ H a = none
  newO : ∀ a ∈ O', a ∈ O ∨ H a = none
  dom : ∀ a, H a ≠ none → H' a ≠ none
theorem Ext.refl {O : List Addr} : Ext F O H F O H := ⟨fun _ h => h, fun _ _ e _ _ => e, fun _ h => .inl h, fun _ h => .inl h, fun _ h => h⟩
theorem Ext.trans {F1 F2 F3 : AP} {O1 O2 O3 : List Addr} {H1 H2 H3 : Hp} (a : Ext F1 O1 H1 F2 O2 H2) (b : Ext F2 O2 H2 F3 O3 H3) : Ext F1 O1 H1 F3 O3 H3 where
  fz := fun x h => b.fz x (a.fz x h)
  keep := fun x o e n t => b.keep x o (a.keep x o e n t) (fun z => by
    rcases a.newO x z with q | q
    · exact n q
    · rw [e] at q; cases q) t
  newF := fun x h => by
    rcases b.newF x h with q | q | q
    · exact a.newF x q
    · rcases a.newO x q with z | z
      · exact .inr (.inl z)
      · exact .inr (.inr z)
    · refine .inr (.inr ?_)
      cases e : H1 x with
      | none => rfl
      | some o => exact absurd q (a.dom x (by rw [e]; simp))
  newO := fun x h => by
    rcases b.newO x h with q | q
    · exact a.newO x q
    · refine .inr ?_
      cases e : H1 x with
      | none => rfl
      | some o => exact absurd q (a.dom x (by rw [e]; simp))
  dom := fun x h => b.dom x (a.dom x h)
theorem Ext.rd {O O' : List Addr} {v : V} {d : D} (x : Ext F O H F' O' H') (nf : ∀ a ∈ O, ¬ F a) (h : RD K T F H v d) : RD K T F' H' v d :=
  RD.mono x.fz (fun a o f e t => x.keep a o e (fun z => nf a z f) t) _ _ h
theorem Ext.rds {O O' : List Addr} {v : List V} {d : List D} (x : Ext F O H F' O' H') (nf : ∀ a ∈ O, ¬ F a) (h : RDs K T F H v d) : RDs K T F' H' v d :=
  RDs.mono x.fz (fun a o f e t => x.keep a o e (fun z => nf a z f) t) _ _ h
theorem Ext.ro {O O' own : List Addr} {v : V} {od : OD} (x : Ext F O H F' O' H') (nf : ∀ a ∈ O, ¬ F a) (h : RO K T F H v od own) (hn : ∀ a ∈ own, a ∉ O) : RO K T F' H' v od own :=
  h.mono x.fz fun a o q e t => x.keep a o e (fun z => by
    rcases q with f | q
    · exact nf a z f
    · exact hn a q z) t

/-- slots -/
inductive Sl where
  | no | d (x : D) | o (t : Option Nat) (x : OD)
abbrev St := List Sl
inductive SL (K : PySem.W.Frag) (T : Tb) (F : AP) (H : Hp) : L2.St → St → List Addr → Prop
  | nil : SL K T F H [] [] []
  | no {v : Option V} {σ : L2.St} {st : St} {O : List Addr} (h : SL K T F H σ st O) : SL K T F H (v :: σ) (.no :: st) O
  | d {v : V} {x : D} {σ : L2.St} {st : St} {O : List Addr} (hv : RD K T F H v x) (h : SL K T F H σ st O) : SL K T F H (some v :: σ) (.d x :: st) O
  | o {v : V} {t : Option Nat} {x : OD} {own : List Addr} {σ : L2.St} {st : St} {O : List Addr} (ht : ∀ j, t = some j → T.pin j = v) (hv : RO K T F H v x own) (h : SL K T F H σ st O) : SL K T F H (some v :: σ) (.o t x :: st) (own ++ O)
structure SRel (K : PySem.W.Frag) (T : Tb) (F : AP) (O : List Addr) (H : Hp) (σ : L2.St) (st : St) : Prop where
  sl : SL K T F H σ st O
  nd : O.Nodup
  nf : ∀ a ∈ O, ¬ F a
  fd : ∀ a, F a → H a ≠ none
theorem SL.mono {σ : L2.St} {st : St} {O : List Addr} (hF : ∀ a, F a → F' a) (k : ∀ a o, (F a ∨ a ∈ O) → H a = some o → NoTbl o → H' a = some o) (h : SL K T F H σ st O) : SL K T F' H' σ st O := by
  induction h with
  | nil => exact .nil
  | no h ih => exact .no (ih k)
  | d hv h ih => exact .d (RD.mono hF (fun a o f => k a o (.inl f)) _ _ hv) (ih k)
  | o ht hv h ih =>
    refine .o ht (hv.mono hF fun a o q => k a o ?_) (ih fun a o q => k a o ?_)
    · rcases q with f | q
      · exact .inl f
      · exact .inr (List.mem_append_left _ q)
    · rcases q with f | q
      · exact .inl f
      · exact .inr (List.mem_append_right _ q)
theorem SL.there {σ : L2.St} {st : St} {O : List Addr} (h : SL K T F H σ st O) : ∀ a ∈ O, H a ≠ none := by
  induction h with
  | nil => intro a ha; simp at ha
  | no h ih => exact ih
  | d hv h ih => exact ih
  | o ht hv h ih =>
    intro a ha
    rcases List.mem_append.mp ha with q | q
    · exact hv.there a q
    · exact ih a q
theorem SL.len {σ : L2.St} {st : St} {O : List Addr} (h : SL K T F H σ st O) : σ.length = st.length := by
  induction h <;> simp_all
/-- nothing is changed, things may be new or given up -/
theorem SRel.grow {O : List Addr} {σ : L2.St} {st : St} (h : SRel K T F O H σ st) (hF : ∀ a, F a → F' a) (k : ∀ a o, H a = some o → NoTbl o → H' a = some o) (nf : ∀ a ∈ O, ¬ F' a) (fd : ∀ a, F' a → H' a ≠ none) : SRel K T F' O H' σ st :=
  ⟨h.sl.mono hF (fun a o _ => k a o), h.nd, nf, fd⟩
theorem SL.get_d : ∀ {σ : L2.St} {st : St} {O : List Addr} {i : Nat} {x : D}, SL K T F H σ st O → st[i]? = some (.d x) → ∃ v, σ[i]? = some (some v) ∧ RD K T F H v x
  | _, _, _, i, x, .nil, e => by simp at e
  | _, _, _, 0, x, .no h, e => by simp at e
  | _, _, _, i + 1, x, .no h, e => by simpa using SL.get_d (i := i) h (by simpa using e)
  | _, _, _, 0, x, .d hv h, e => by simp at e; subst e; exact ⟨_, rfl, hv⟩
  | _, _, _, i + 1, x, .d hv h, e => by simpa using SL.get_d (i := i) h (by simpa using e)
  | _, _, _, 0, x, .o ht hv h, e => by simp at e
  | _, _, _, i + 1, x, .o ht hv h, e => by simpa using SL.get_d (i := i) h (by simpa using e)
theorem SL.get_o : ∀ {σ : L2.St} {st : St} {O : List Addr} {i : Nat} {t : Option Nat} {x : OD}, SL K T F H σ st O → st[i]? = some (.o t x) → ∃ v own, σ[i]? = some (some v) ∧ (∀ j, t = some j → T.pin j = v) ∧ RO K T F H v x own ∧ ∀ a ∈ own, a ∈ O
  | _, _, _, i, t, x, .nil, e => by simp at e
  | _, _, _, 0, t, x, .no h, e => by simp at e
  | _, _, _, i + 1, t, x, .no h, e => by simpa using SL.get_o (i := i) h (by simpa using e)
  | _, _, _, 0, t, x, .d hv h, e => by simp at e
  | _, _, _, i + 1, t, x, .d hv h, e => by simpa using SL.get_o (i := i) h (by simpa using e)
  | _, _, _, 0, t, x, .o ht hv h, e => by simp at e; obtain ⟨rfl, rfl⟩ := e; exact ⟨_, _, rfl, ht, hv, fun a ha => List.mem_append_left _ ha⟩
  | _, _, _, i + 1, t, x, .o ht hv h, e => by
    obtain ⟨v, own, h1, h0, h2, h3⟩ := SL.get_o (i := i) h (by simpa using e)
    exact ⟨v, own, by simpa using h1, h0, h2, fun a ha => List.mem_append_right _ (h3 a ha)⟩
theorem SL.set_d : ∀ {σ : L2.St} {st : St} {O : List Addr} (i : Nat) {v : V} {x : D}, SL K T F H σ st O → RD K T F H v x → ∃ O', SL K T F H (σ.set i (some v)) (st.set i (.d x)) O' ∧ O'.Sublist O
  | _, _, _, _, _, _, .nil, _ => ⟨[], .nil, List.Sublist.refl _⟩
  | _, _, _, 0, _, _, .no h, r => ⟨_, .d r h, List.Sublist.refl _⟩
  | _, _, _, 0, _, _, .d hv h, r => ⟨_, .d r h, List.Sublist.refl _⟩
  | _, _, _, 0, _, _, .o ht hv h, r => ⟨_, .d r h, List.sublist_append_right _ _⟩
  | _, _, _, i + 1, _, _, .no h, r => let ⟨O', a, b⟩ := SL.set_d i h r; ⟨O', .no a, b⟩
  | _, _, _, i + 1, _, _, .d hv h, r => let ⟨O', a, b⟩ := SL.set_d i h r; ⟨O', .d hv a, b⟩
  | _, _, _, i + 1, _, _, .o ht hv h, r => let ⟨O', a, b⟩ := SL.set_d i h r; ⟨_ ++ O', .o ht hv a, List.Sublist.append (List.Sublist.refl _) b⟩
theorem SL.set_no : ∀ {σ : L2.St} {st : St} {O : List Addr} (i : Nat) (v : Option V), SL K T F H σ st O → ∃ O', SL K T F H (σ.set i v) (st.set i .no) O' ∧ O'.Sublist O
  | _, _, _, _, _, .nil => ⟨[], .nil, List.Sublist.refl _⟩
  | _, _, _, 0, _, .no h => ⟨_, .no h, List.Sublist.refl _⟩
  | _, _, _, 0, _, .d hv h => ⟨_, .no h, List.Sublist.refl _⟩
  | _, _, _, 0, _, .o ht hv h => ⟨_, .no h, List.sublist_append_right _ _⟩
  | _, _, _, i + 1, v, .no h => let ⟨O', a, b⟩ := SL.set_no i v h; ⟨O', .no a, b⟩
  | _, _, _, i + 1, v, .d hv h => let ⟨O', a, b⟩ := SL.set_no i v h; ⟨O', .d hv a, b⟩
  | _, _, _, i + 1, v, .o ht hv h => let ⟨O', a, b⟩ := SL.set_no i v h; ⟨_ ++ O', .o ht hv a, List.Sublist.append (List.Sublist.refl _) b⟩
theorem nodup_app {α : Type} {l m : List α} : (l ++ m).Nodup ↔ l.Nodup ∧ m.Nodup ∧ ∀ a ∈ l, a ∉ m := by
  rw [List.nodup_append]
  constructor
  · rintro ⟨a, b, c⟩; exact ⟨a, b, fun x hx hy => c x hx x hy rfl⟩
  · rintro ⟨a, b, c⟩; exact ⟨a, b, fun x hx y hy e => c x hx (e ▸ hy)⟩
theorem SL.set_o : ∀ {σ : L2.St} {st : St} {O own : List Addr} (i : Nat) {v : V} {t : Option Nat} {x : OD}, SL K T F H σ st O → O.Nodup → (∀ j, t = some j → T.pin j = v) → RO K T F H v x own → (∀ a ∈ own, a ∉ O) →
    ∃ O', SL K T F H (σ.set i (some v)) (st.set i (.o t x)) O' ∧ (∀ a ∈ O', a ∈ O ∨ a ∈ own) ∧ O'.Nodup
  | _, _, _, _, _, _, _, _, .nil, n, _, _, _ => ⟨[], .nil, by simp, n⟩
  | _, _, _, _, 0, _, _, _, .no h, n, ht, r, dj => ⟨_, .o ht r h, fun a ha => (List.mem_append.mp ha).elim .inr .inl, nodup_app.mpr ⟨r.nodup, n, dj⟩⟩
  | _, _, _, _, 0, _, _, _, .d hv h, n, ht, r, dj => ⟨_, .o ht r h, fun a ha => (List.mem_append.mp ha).elim .inr .inl, nodup_app.mpr ⟨r.nodup, n, dj⟩⟩
  | _, _, _, _, 0, _, _, _, .o ht0 hv h, n, ht, r, dj => ⟨_, .o ht r h, fun a ha => (List.mem_append.mp ha).elim .inr (fun z => .inl (List.mem_append_right _ z)),
      nodup_app.mpr ⟨r.nodup, (nodup_app.mp n).2.1, fun a ha z => dj a ha (List.mem_append_right _ z)⟩⟩
  | _, _, _, _, i + 1, _, _, _, .no h, n, ht, r, dj => let ⟨O', a, b, c⟩ := SL.set_o i h n ht r dj; ⟨O', .no a, b, c⟩
  | _, _, _, _, i + 1, _, _, _, .d hv h, n, ht, r, dj => let ⟨O', a, b, c⟩ := SL.set_o i h n ht r dj; ⟨O', .d hv a, b, c⟩
  | _, _, _, own, i + 1, _, _, _, .o (own := o1) (O := O1) ht0 hv h, n, ht, r, dj => by
    obtain ⟨n1, n2, n3⟩ := nodup_app.mp n
    obtain ⟨O', a, b, c⟩ := SL.set_o i h n2 ht r (fun x hx z => dj x hx (List.mem_append_right _ z))
    refine ⟨o1 ++ O', .o ht0 hv a, fun x hx => ?_, nodup_app.mpr ⟨n1, c, fun x hx z => ?_⟩⟩
    · rcases List.mem_append.mp hx with q | q
      · exact .inl (List.mem_append_left _ q)
      · exact (b x q).elim (fun z => .inl (List.mem_append_right _ z)) .inr
    · rcases b x z with q | q
      · exact n3 x hx q
      · exact dj x q (List.mem_append_left _ hx)
/-- the owned thing of a slot has been changed in place -/
theorem SL.chg : ∀ {σ : L2.St} {st : St} {O : List Addr} (i : Nat) {t : Option Nat} {x y : OD}, SL K T F H σ st O → O.Nodup → st[i]? = some (.o t x) →
    (∀ v own, σ[i]? = some (some v) → RO K T F H v x own → (∀ a ∈ own, a ∈ O) → RO K T F H' v y own) → (∀ a o, (F a ∨ (a ∈ O ∧ ∀ v own, σ[i]? = some (some v) → RO K T F H v x own → a ∉ own)) → H a = some o → NoTbl o → H' a = some o) →
    SL K T F H' σ (st.set i (.o t y)) O
  | _, _, _, _, _, _, _, .nil, _, e, _, _ => by simp at e
  | _, _, _, 0, _, _, _, .no h, _, e, _, _ => by simp at e
  | _, _, _, 0, _, _, _, .d hv h, _, e, _, _ => by simp at e
  | _, _, _, 0, _, _, _, .o (own := own) ht hv h, n, e, g, k => by
    simp at e
    obtain ⟨rfl, rfl⟩ := e
    obtain ⟨n1, n2, n3⟩ := nodup_app.mp n
    refine .o ht (g _ _ rfl hv fun a ha => List.mem_append_left _ ha) (h.mono (fun _ f => f) fun a o q => k a o ?_)
    rcases q with f | q
    · exact .inl f
    · refine .inr ⟨List.mem_append_right _ q, fun v own2 e2 r2 z => ?_⟩
      simp at e2
      subst e2
      have : own2 = own := by
        cases r2 <;> cases hv <;> rfl
      exact n3 a (this ▸ z) q
  | _, _, _, i + 1, _, _, _, .no h, n, e, g, k => .no (SL.chg i h n (by simpa using e) (fun v own e2 => g v own (by simpa using e2)) fun a o q => k a o (q.elim .inl fun ⟨q1, q2⟩ => .inr ⟨q1, fun v own e2 => q2 v own (by simpa using e2)⟩))
  | _, _, _, i + 1, _, _, _, .d hv h, n, e, g, k => .d (RD.mono (fun _ f => f) (fun a o f => k a o (.inl f)) _ _ hv)
      (SL.chg i h n (by simpa using e) (fun v own e2 => g v own (by simpa using e2)) fun a o q => k a o (q.elim .inl fun ⟨q1, q2⟩ => .inr ⟨q1, fun v own e2 => q2 v own (by simpa using e2)⟩))
  | _, _, _, i + 1, _, _, _, .o (own := own) ht hv h, n, e, g, k => by
    obtain ⟨n1, n2, n3⟩ := nodup_app.mp n
    have e' := (by simpa using e : _)
    obtain ⟨w, ow, s1, _, r1, m1⟩ := SL.get_o (i := i) h (by simpa using e)
    refine .o ht (hv.mono (fun _ f => f) fun a o q => k a o ?_) (SL.chg i h n2 (by simpa using e) (fun v own e2 r2 m2 => g v own (by simpa using e2) r2 fun a ha => List.mem_append_right _ (m2 a ha)) fun a o q => k a o ?_)
    · rcases q with f | q
      · exact .inl f
      · refine .inr ⟨List.mem_append_left _ q, fun v own2 e2 r2 z => ?_⟩
        have e3 : v = w := by
          have : some (some v) = some (some w) := by rw [← s1]; simpa using e2.symm
          simpa using this
        subst e3
        have : own2 = ow := by cases r2 <;> cases r1 <;> rfl
        exact n3 a q (m1 a (this ▸ z))
    · rcases q with f | ⟨q1, q2⟩
      · exact .inl f
      · exact .inr ⟨List.mem_append_right _ q1, fun v own e2 => q2 v own (by simpa using e2)⟩
end
end DP
end
section
set_option Elab.async false
set_option linter.all false
set_option maxRecDepth 100000
set_option maxHeartbeats 4000000
/-! DP1: what an expression does to the slots, as a function; when the model's expression does just that. -/
namespace DP
open PySem PySem.Spec PyProof.Rows L2

/-- a value: data; a new thing that nothing else holds; the owned thing of a slot -/
inductive W where
  | d (x : D) | o (x : OD) | b (i : Nat)
inductive Res (α : Type) where
  | ok (a : α) (st : St) | exc (e : D) (st : St) | bad
abbrev M (α : Type) := St → Res α
def bnd {α β : Type} (m : M α) (k : α → M β) : M β := fun st => match m st with
  | .ok a s => k a s
  | .exc e s => .exc e s
  | .bad => .bad
def ret {α : Type} (a : α) : M α := fun st => .ok a st
def rd (w : W) (st : St) : Option D := match w with
  | .d x => some x
  | .o x => some (fz x)
  | .b i => match st[i]? with
    | some (.o _ x) => some (fz x)
    | _ => none
def W.fzD : W → Option D
  | .d x => some x
  | .o x => some (fz x)
  | .b _ => none
theorem bnd_ok {α β : Type} {m : M α} {k : α → M β} {st s : St} {a : α} (h : m st = .ok a s) : bnd m k st = k a s := by unfold bnd; rw [h]
theorem bnd_exc {α β : Type} {m : M α} {k : α → M β} {st s : St} {e : D} (h : m st = .exc e s) : bnd m k st = .exc e s := by unfold bnd; rw [h]

section
variable (K : PySem.W.Frag) (T : Tb) (F : AP) (H : Hp)
inductive VR (σ : L2.St) : W → V → List Addr → Prop
  | d {v : V} {x : D} (h : RD K T F H v x) : VR σ (.d x) v []
  | o {v : V} {x : OD} {own : List Addr} (h : RO K T F H v x own) : VR σ (.o x) v own
  | b {v : V} {i : Nat} (h : σ[i]? = some (some v)) : VR σ (.b i) v []
/-- what may be read of a value -/
inductive Vw : V → D → Prop
  | non : Vw .non .non
  | bl (b : Bool) : Vw (.bl b) (.bl b)
  | int (i : Int) : Vw (.int i) (.int i)
  | str (x : Str) : Vw (.str x) (.str x)
  | ty (n : String) : Vw (.ty n) (.ty n)
  | fn {n : String} {a : Addr} (h : T.fnA n = some a) : Vw (.ref a) (.fn n)
  | cls {n : String} {a : Addr} (h : T.cls n = some a) : Vw (.ref a) (.cls n)
  | tup {a : Addr} {xs : List V} {ds : List D} (h : FzT K F H a xs) (hs : RDs K T F H xs ds) : Vw (.ref a) (.tup ds)
  | lst {a : Addr} {xs : List V} {ds : List D} (h : H a = some (.lst xs)) (hs : RDs K T F H xs ds) : Vw (.ref a) (.lst ds)
  | ins {a C dx : Addr} {c : String} {vs : List (Str × V)} {fs : List (String × D)} (hc : T.cls c = some C) (h : H a = some (.ins C dx vs)) (hs : RFs K T F H vs fs) : Vw (.ref a) (.ins c fs)
  | dic {a : Addr} {vs : List (Key × V)} {kvs : List (Key × D)} (h : Rd H a (.dK vs)) (hs : RKs K T F H vs kvs) : Vw (.ref a) (.dic kvs)
  | scr {a : Addr} {ns : List Int} (h : SqL K H a (ns.map V.int)) : Vw (.ref a) (.scr ns)
inductive VRs (σ : L2.St) : List W → List V → Prop
  | nil : VRs σ [] []
  | d {v : V} {x : D} {ws : List W} {vs : List V} (h : RD K T F H v x) (hs : VRs σ ws vs) : VRs σ (.d x :: ws) (v :: vs)
  | b {v : V} {i : Nat} {ws : List W} {vs : List V} (h : σ[i]? = some (some v)) (hs : VRs σ ws vs) : VRs σ (.b i :: ws) (v :: vs)
/-- an exception -/
inductive ER : D → Value → Option Addr → Prop
  | none {c : String} {C : Addr} (hc : T.cls c = some C) : ER (.ins c []) (.ref C) none
  | some {c : String} {C d : Addr} {vs : List (Str × V)} {fs : List (String × D)} (hc : T.cls c = some C) (hf : F d) (h : H d = some (.xd vs)) (hs : RFs K T F H vs fs) : ER (.ins c fs) (.ref C) (some d)
end
def OwnOk (F : AP) (O : List Addr) (H0 : Hp) (own : List Addr) : Prop := ∀ a ∈ own, a ∉ O ∧ ¬ F a ∧ H0 a = none
theorem OwnOk.nil {F : AP} {O : List Addr} {H0 : Hp} : OwnOk F O H0 [] := fun a h => by simp at h

section
variable {K : PySem.W.Frag} {T : Tb} {F F' : AP} {H H' : Hp} {O O' : List Addr} {σ : L2.St} {st : St}
theorem RD.vw {v : V} {d : D} (h : RD K T F H v d) : Vw K T F H v d := by
  cases h with
  | non => exact .non
  | bl b => exact .bl b
  | int i => exact .int i
  | str x => exact .str x
  | ty n => exact .ty n
  | fn h => exact .fn h
  | cls h => exact .cls h
  | tup h hs => exact .tup h hs
  | lst h hs => exact .lst h.2 hs
  | ins hf hc h hs => exact .ins hc h hs
  | dic hf h hs => exact .dic h hs
  | scr h => exact .scr h.sq
theorem RO.vw {v : V} {od : OD} {own : List Addr} (h : RO K T F H v od own) : Vw K T F H v (fz od) := by
  cases h with
  | lst h hs => exact .lst h hs
  | dic h hs => exact .dic (.inl h) hs
  | ins hc h hs => exact .ins hc h hs
theorem VR.vw {w : W} {v : V} {own : List Addr} {x : D} (h : VR K T F H σ w v own) (S : SL K T F H σ st O) (e : rd w st = some x) : Vw K T F H v x := by
  cases h with
  | d h => simp [rd] at e; subst e; exact h.vw
  | o h => simp [rd] at e; subst e; exact h.vw
  | @b v i h =>
    simp only [rd] at e
    split at e
    · rename_i t od q
      obtain ⟨v', own', s1, _, r1, _⟩ := S.get_o q
      rw [h] at s1
      have : v = v' := by simpa using s1
      subst this
      have : fz od = x := by simpa using e
      subst this
      exact r1.vw
    · cases e
theorem VRs.vw {w : W} {v : V} {x : D} (h : VRs K T F H σ [w] [v]) (S : SL K T F H σ st O) (e : rd w st = some x) : Vw K T F H v x := by
  cases h with
  | d h _ => exact (VR.d (σ := σ) h).vw S e
  | b h _ => exact (VR.b (F := F) (H := H) h).vw S e
/-- a value may be kept -/
theorem VR.fzD {w : W} {v : V} {own : List Addr} {x : D} (h : VR K T F H σ w v own) (e : w.fzD = some x) : RD K T (fun a => F a ∨ a ∈ own) H v x := by
  cases h with
  | d h => simp [W.fzD] at e; subst e; exact RD.mono (fun _ f => .inl f) (fun _ _ _ e _ => e) _ _ h
  | o h => simp [W.fzD] at e; subst e; exact h.freeze (fun _ f => .inl f) (fun _ f => .inr f)
  | b h => simp [W.fzD] at e
theorem VR.ext {w : W} {v : V} {own : List Addr} {H0 : Hp} (h : VR K T F H σ w v own) (ok : OwnOk F O H0 own) (nf : ∀ a ∈ O, ¬ F a) (x : Ext F O H F' O' H') : VR K T F' H' σ w v own ∧ OwnOk F' O' H0 own := by
  have tr : ∀ a ∈ own, H a ≠ none := by
    cases h with
    | d h => intro a ha; simp at ha
    | o h => exact h.there
    | b h => intro a ha; simp at ha
  refine ⟨?_, fun a ha => ⟨fun z => ?_, fun z => ?_, (ok a ha).2.2⟩⟩
  · cases h with
    | d h => exact .d (x.rd nf h)
    | o h => exact .o (x.ro nf h fun a ha => (ok a ha).1)
    | b h => exact .b h
  · rcases x.newO a z with q | q
    · exact (ok a ha).1 q
    · exact tr a ha q
  · rcases x.newF a z with q | q | q
    · exact (ok a ha).2.1 q
    · exact (ok a ha).1 q
    · exact tr a ha q
theorem VRs.ext {ws : List W} {vs : List V} (h : VRs K T F H σ ws vs) (nf : ∀ a ∈ O, ¬ F a) (x : Ext F O H F' O' H') : VRs K T F' H' σ ws vs := by
  induction h with
  | nil => exact .nil
  | d h _ ih => exact .d (x.rd nf h) ih
  | b h _ ih => exact .b h ih
/-- giving up what is new -/
theorem SRel.give {own : List Addr} {H0 : Hp} (S : SRel K T F O H σ st) (ok : OwnOk F O H0 own) (tr : ∀ a ∈ own, H a ≠ none) : SRel K T (fun a => F a ∨ a ∈ own) O H σ st :=
  S.grow (fun _ f => .inl f) (fun _ _ e _ => e) (fun a ha z => z.elim (S.nf a ha) fun q => (ok a q).1 ha) fun a z => z.elim (S.fd a) (tr a)
theorem Ext.give {own : List Addr} {F0 : AP} {O0 : List Addr} {H0 : Hp} (x : Ext F0 O0 H0 F O H) (ok : OwnOk F O H0 own) : Ext F0 O0 H0 (fun a => F a ∨ a ∈ own) O H :=
  ⟨fun a f => .inl (x.fz a f), x.keep, fun a z => z.elim (x.newF a) fun q => .inr (.inr (ok a q).2.2), x.newO, x.dom⟩
theorem VR.there {w : W} {v : V} {own : List Addr} (h : VR K T F H σ w v own) : ∀ a ∈ own, H a ≠ none := by
  cases h with
  | d h => intro a ha; simp at ha
  | o h => exact h.there
  | b h => intro a ha; simp at ha
theorem RDs.len {vs : List V} {ds : List D} (h : RDs K T F H vs ds) : vs.length = ds.length := by
  induction ds generalizing vs with
  | nil => cases h; rfl
  | cons d ds ih => cases h with | cons h hs => simp [ih hs]
theorem RDs.get {vs : List V} {ds : List D} (h : RDs K T F H vs ds) {i : Nat} {d : D} (e : ds[i]? = some d) : ∃ v, vs[i]? = some v ∧ RD K T F H v d := by
  induction ds generalizing vs i with
  | nil => simp at e
  | cons x ds ih =>
    cases h with
    | cons h hs =>
      cases i with
      | zero => simp at e; subst e; exact ⟨_, rfl, h⟩
      | succ i => simpa using ih hs (by simpa using e)
theorem RDs.app {vs us : List V} {ds es : List D} (h : RDs K T F H vs ds) (h' : RDs K T F H us es) : RDs K T F H (vs ++ us) (ds ++ es) := by
  induction ds generalizing vs with
  | nil => cases h; exact h'
  | cons d ds ih => cases h with | cons h hs => exact .cons h (ih hs)
theorem RDs.take {vs : List V} {ds : List D} (h : RDs K T F H vs ds) (n : Nat) : RDs K T F H (vs.take n) (ds.take n) := by
  induction ds generalizing vs n with
  | nil => cases h; simp; exact .nil
  | cons d ds ih => cases h with | cons h hs => cases n with
    | zero => exact .nil
    | succ n => exact .cons h (ih hs n)
theorem RDs.drop {vs : List V} {ds : List D} (h : RDs K T F H vs ds) (n : Nat) : RDs K T F H (vs.drop n) (ds.drop n) := by
  induction ds generalizing vs n with
  | nil => cases h; simp; exact .nil
  | cons d ds ih => cases h with | cons h hs => cases n with
    | zero => exact .cons h hs
    | succ n => exact ih hs n
theorem RDs.set {vs : List V} {ds : List D} {v : V} {d : D} (h : RDs K T F H vs ds) (r : RD K T F H v d) (n : Nat) : RDs K T F H (vs.set n v) (ds.set n d) := by
  induction ds generalizing vs n with
  | nil => cases h; exact .nil
  | cons x ds ih => cases h with | cons h hs => cases n with
    | zero => exact .cons r hs
    | succ n => exact .cons h (ih hs n)
theorem RDs.ints {ns : List Int} : RDs K T F H (ns.map V.int) (ns.map D.int) := by
  induction ns with
  | nil => exact .nil
  | cons n ns ih => exact .cons (.int n) ih
theorem RDs.of_ints {vs : List V} {ns : List Int} (h : RDs K T F H vs (ns.map D.int)) : vs = ns.map V.int := by
  induction ns generalizing vs with
  | nil => cases h; rfl
  | cons n ns ih => cases h with | cons h hs => cases h; rw [ih hs]; rfl

/-- what must hold of a result: the base F O H, the slots σ; G what is wanted of a good end, Wx of an exception -/
def Post {α : Type} (K : PySem.W.Frag) (T : Tb) (Wx : WX) (σ : L2.St) (F : AP) (O : List Addr) (H : Hp) (r : Res α) (G : α → St → AP → List Addr → Hp → Prop) : Prop := match r with
  | .ok a st' => ∀ F' O' H', Ext F O H F' O' H' → SRel K T F' O' H' σ st' → G a st' F' O' H'
  | .exc e st' => ∀ F' O' H' cls dx, Ext F O H F' O' H' → SRel K T F' O' H' σ st' → ER K T F' H' e cls dx → Wx cls dx σ H'
  | .bad => False
theorem Post.bind {α β : Type} {Wx : WX} {F1 : AP} {O1 : List Addr} {H1 : Hp} {m : M α} {k : α → M β} {G : β → St → AP → List Addr → Hp → Prop} {G1 : α → St → AP → List Addr → Hp → Prop}
    (E1 : Ext F O H F1 O1 H1) (h : Post K T Wx σ F O H (bnd m k st) G)
    (hk : ∀ a st2 F2 O2 H2, Ext F O H F2 O2 H2 → Ext F1 O1 H1 F2 O2 H2 → SRel K T F2 O2 H2 σ st2 → Post K T Wx σ F O H (k a st2) G → G1 a st2 F2 O2 H2) : Post K T Wx σ F1 O1 H1 (m st) G1 := by
  unfold bnd at h
  cases e : m st with
  | ok a s => rw [e] at h; exact fun F' O' H' x S => hk a s F' O' H' (E1.trans x) x S h
  | exc e' s => rw [e] at h; exact fun F' O' H' cls dx x S r => h F' O' H' cls dx (E1.trans x) S r
  | bad => rw [e] at h; exact h
def GE (K : PySem.W.Frag) (T : Tb) (σ : L2.St) (H0 : Hp) (Q : VK) : W → St → AP → List Addr → Hp → Prop := fun w _ F' O' H' => ∀ v own, VR K T F' H' σ w v own → OwnOk F' O' H0 own → Q v H'
def GB (Q : Bool → Hp → Prop) : Bool → St → AP → List Addr → Hp → Prop := fun b _ _ _ H' => Q b H'
def GA (K : PySem.W.Frag) (T : Tb) (σ : L2.St) (Q : List V → Hp → Prop) : List W → St → AP → List Addr → Hp → Prop := fun ws _ F' _ H' => ∀ vs, VRs K T F' H' σ ws vs → Q vs H'
end

def lift (K : PySem.W.Frag) (T : Tb) (Wx : WX) (m : M W) : TE := fun σ H Q => ∃ F O st, SRel K T F O H σ st ∧ Post K T Wx σ F O H (m st) (GE K T σ H Q)
def liftB (K : PySem.W.Frag) (T : Tb) (Wx : WX) (m : M Bool) : TT := fun σ H Q => ∃ F O st, SRel K T F O H σ st ∧ Post K T Wx σ F O H (m st) (GB Q)
def liftA (K : PySem.W.Frag) (T : Tb) (Wx : WX) (m : M (List W)) : TA := fun σ H Q => ∃ F O st, SRel K T F O H σ st ∧ Post K T Wx σ F O H (m st) (GA K T σ Q)
structure DE (T : Tb) (X : Cx) (e : Expr) (m : M W) : Prop where
  pe : ∀ Wx, Takes X Wx → PE X e (lift X.K T Wx m)
structure DT (T : Tb) (X : Cx) (e : Expr) (m : M Bool) : Prop where
  pt : ∀ Wx, Takes X Wx → PT X e (liftB X.K T Wx m)
structure DW (T : Tb) (X : Cx) (e : Expr) (m : M Bool) : Prop where
  pw : ∀ Wx, Takes X Wx → PW X e (liftB X.K T Wx m)
structure DA (T : Tb) (X : Cx) (es : List Expr) (m : M (List W)) : Prop where
  pa : ∀ Wx, Takes X Wx → PA X es (liftA X.K T Wx m)
section
variable {X : Cx} {T : Tb} {e : Expr}
theorem PE.weak {t t' : TE} (h : PE X e t) (w : ∀ σ H Q, t' σ H Q → t σ H Q) : PE X e t' := ⟨fun pins s σ H Q I q => h.run pins s σ H Q I (w σ H Q q)⟩
theorem PT.weak {t t' : TT} (h : PT X e t) (w : ∀ σ H Q, t' σ H Q → t σ H Q) : PT X e t' := ⟨fun pins s σ H Q I q => h.run pins s σ H Q I (w σ H Q q)⟩
theorem PW.weak {t t' : TT} (h : PW X e t) (w : ∀ σ H Q, t' σ H Q → t σ H Q) : PW X e t' := ⟨fun wh pins s σ H Q I q => h.run wh pins s σ H Q I (w σ H Q q)⟩
theorem PA.weak {es : List Expr} {t t' : TA} (h : PA X es t) (w : ∀ σ H Q, t' σ H Q → t σ H Q) : PA X es t' := ⟨fun pos pins s σ H Q I q => h.run pos pins s σ H Q I (w σ H Q q)⟩
theorem DW.dt {m : M Bool} (h : DW T X e m) : DT T X e m := ⟨fun Wx tk => (h.pw Wx tk).pt⟩

/-! ### names, constants -/
def mV (i : Nat) : M W := fun st => match st[i]? with
  | some (.d x) => .ok (.d x) st
  | some (.o _ _) => .ok (.b i) st
  | _ => .bad
def mC (d : D) : M W := fun st => .ok (.d d) st
theorem de_v (i : Nat) {x : Str} {pos : Pos} (hN : X.N[i]? = some x := by rfl) (hv : Vis X.env.scope x := by first | exact Or.inl rfl | exact Or.inr (Or.inl rfl) | exact Or.inr (Or.inr rfl)) (hd : (x == ("__debug__" : Str)) = false := by decide +kernel)
    (hcd : (x == ("__classdict__" : Str)) = false := by decide +kernel) : DE T X (.Name x pos) (mV i) := by
  refine ⟨fun Wx tk => PE.weak (pe_var (i := i) hN hv hd hcd) fun σ H Q h => ?_⟩
  obtain ⟨F, O, st, S, h⟩ := h
  unfold mV at h
  split at h
  · rename_i x e
    obtain ⟨v, h1, h2⟩ := S.sl.get_d e
    exact ⟨v, h1, h F O H .refl S v [] (.d h2) .nil⟩
  · rename_i t x e
    obtain ⟨v, own, h1, _, h2, h3⟩ := S.sl.get_o e
    exact ⟨v, h1, h F O H .refl S v [] (.b h1) .nil⟩
  · exact h.elim
theorem de_c {v : V} {d : D} (he : PE X e (tC v)) (hd : ∀ F H, RD X.K T F H v d) : DE T X e (mC d) := by
  refine ⟨fun Wx tk => PE.weak he fun σ H Q h => ?_⟩
  obtain ⟨F, O, st, S, h⟩ := h
  exact h F O H .refl S v [] (.d (hd F H)) .nil
theorem de_int {i : Int} {j pos} : DE T X (.Constant (.int i) j pos) (mC (.int i)) := de_c pe_int fun _ _ => .int i
theorem de_bl {b : Bool} {j pos} : DE T X (.Constant (.bool b) j pos) (mC (.bl b)) := de_c pe_bl fun _ _ => .bl b
theorem de_non {j pos} : DE T X (.Constant .none j pos) (mC .non) := de_c pe_non fun _ _ => .non
theorem de_str {x : Str} {j pos} : DE T X (.Constant (.str x) j pos) (mC (.str x)) := de_c pe_str fun _ _ => .str x
theorem de_glob {x : Str} {v : V} {d : D} {u : Value} {pos : Pos} (hm : X.mg x = some u) (r : RelV v u) (hd : ∀ F H, RD X.K T F H v d) (hg : Gl X x := by rfl) (h : (x == ("__debug__" : Str)) = false := by decide +kernel) : DE T X (.Name x pos) (mC d) :=
  de_c (pe_glob hg hm r h) hd
theorem de_ty {x : Str} {n : String} {pos : Pos} (hm : X.mg x = none) (hv : bootBuiltins x = some (.type n) := by decide +kernel) (hg : Gl X x := by rfl) (hn : x ≠ "__name__" := by decide +kernel) (h : (x == ("__debug__" : Str)) = false := by decide +kernel) : DE T X (.Name x pos) (mC (.ty n)) :=
  de_c (pe_bltn (v := .ty n) hg hm hv rfl hn h) fun _ _ => .ty n

/-! ### two-place operations -/
def m2 (f : W → W → M W) (ma mb : M W) : M W := bnd ma fun x => bnd mb fun y => f x y
def P2 (X : Cx) (T : Tb) (f : W → W → M W) (r : R2) : Prop := ∀ (Wx : WX) (σ : L2.St) (F0 : AP) (O0 : List Addr) (H0 : Hp) (F : AP) (O : List Addr) (H : Hp) (st : St) (w1 w2 : W) (v1 v2 : V) (own1 own2 : List Addr) (Q : VK),
  Ext F0 O0 H0 F O H → SRel X.K T F O H σ st → VR X.K T F H σ w1 v1 own1 → VR X.K T F H σ w2 v2 own2 → Post X.K T Wx σ F0 O0 H0 (f w1 w2 st) (GE X.K T σ H0 Q) → r v1 v2 H Q
/-- the ways of two operands -/
theorem run2 {Wx : WX} {σ : L2.St} {H : Hp} {ma mb : M W} {f : W → W → M W} {Q : VK} {r : R2} (p : P2 X T f r) (h : lift X.K T Wx (m2 f ma mb) σ H Q) :
    lift X.K T Wx ma σ H fun x H1 => lift X.K T Wx mb σ H1 fun y H2 => r x y H2 Q := by
  obtain ⟨F, O, st, S, h⟩ := h
  refine ⟨F, O, st, S, h.bind .refl fun w1 st1 F1 O1 H1 E1 _ S1 h1 v1 own1 r1 ok1 => ⟨F1, O1, st1, S1, h1.bind E1 fun w2 st2 F2 O2 H2 E2 E12 S2 h2 v2 own2 r2 ok2 => ?_⟩⟩
  obtain ⟨q1, q2⟩ := r1.ext ok1 S1.nf E12
  exact p Wx σ F O H F2 O2 H2 st2 w1 w2 v1 v2 own1 own2 Q E2 S2 q1 r2 h2
theorem de_op {op : Operator} {a b : Expr} {pos : Pos} {r : R2} {f : W → W → M W} {ma mb : M W} (ho : OpR X (binaryOp op) r) (p : P2 X T f r) (ha : DE T X a ma) (hb : DE T X b mb) : DE T X (.BinOp a op b pos) (m2 f ma mb) :=
  ⟨fun Wx tk => PE.weak (pe_op ho (ha.pe Wx tk) (hb.pe Wx tk)) fun σ H Q h => run2 p h⟩
/-- reading alone -/
def rd2 (g : D → D → Option D) : W → W → M W := fun w1 w2 st => match rd w1 st, rd w2 st with
  | some a, some b => match g a b with
    | some c => .ok (.d c) st
    | none => .bad
  | _, _ => .bad
theorem P2.rd {g : D → D → Option D} {r : R2} (h : ∀ (F : AP) (H : Hp) (v1 v2 : V) (d1 d2 c : D) (Q : VK), Vw X.K T F H v1 d1 → Vw X.K T F H v2 d2 → g d1 d2 = some c → (∀ v, RD X.K T F H v c → Q v H) → r v1 v2 H Q) : P2 X T (rd2 g) r := by
  intro Wx σ F0 O0 H0 F O H st w1 w2 v1 v2 own1 own2 Q E S r1 r2 p
  unfold rd2 at p
  split at p
  · rename_i a b e1 e2
    split at p
    · rename_i c e
      exact h F H v1 v2 a b c Q (r1.vw S.sl e1) (r2.vw S.sl e2) e fun v rv => p F O H E S v [] (.d rv) .nil
    · exact p.elim
  · exact p.elim
end
end DP
end
section
set_option Elab.async false
set_option linter.all false
set_option maxRecDepth 100000
set_option maxHeartbeats 4000000
/-! DP2: operators, comparisons, tests, attributes, subscripts, displays, built-ins. -/
namespace DP
open PySem PySem.Spec PyProof.Rows L2

/-! ### data as the library's data -/
mutual
def toP : D → Option PyData
  | .non => some .none
  | .bl b => some (.bool b)
  | .int i => some (.int i)
  | .str x => some (.str x)
  | .tup ds => (toPs ds).map .tuple
  | .lst ds => (toPs ds).map .list
  | .ty _ => none
  | .fn _ => none
  | .cls _ => none
  | .ins _ _ => none
  | .dic _ => none
  | .scr _ => none
def toPs : List D → Option (List PyData)
  | [] => some []
  | d :: ds => match toP d, toPs ds with
    | some p, some ps => some (p :: ps)
    | _, _ => none
end
section
variable {K : PySem.W.Frag} {T : Tb} {F : AP} {H : Hp}
mutual
theorem RD.dp : ∀ (d : D) (v : V) (p : PyData), RD K T F H v d → toP d = some p → Dp K H v p
  | .non, _, _, h, e => by cases h; simp [toP] at e; subst e; exact .non
  | .bl b, _, _, h, e => by cases h; simp [toP] at e; subst e; exact .bl b
  | .int b, _, _, h, e => by cases h; simp [toP] at e; subst e; exact .int b
  | .str b, _, _, h, e => by cases h; simp [toP] at e; subst e; exact .str b
  | .tup ds, _, _, h, e => by
    cases h with
    | tup h hs =>
      simp only [toP, Option.map_eq_some_iff] at e
      obtain ⟨ps, e1, rfl⟩ := e
      exact .tup h.sq (RDs.dp ds _ ps hs e1)
  | .lst ds, _, _, h, e => by
    cases h with
    | lst h hs =>
      simp only [toP, Option.map_eq_some_iff] at e
      obtain ⟨ps, e1, rfl⟩ := e
      exact .lst h.sq (RDs.dp ds _ ps hs e1)
  | .ty _, _, _, _, e => by simp [toP] at e
  | .fn _, _, _, _, e => by simp [toP] at e
  | .cls _, _, _, _, e => by simp [toP] at e
  | .ins _ _, _, _, _, e => by simp [toP] at e
  | .dic _, _, _, _, e => by simp [toP] at e
  | .scr _, _, _, _, e => by simp [toP] at e
theorem RDs.dp : ∀ (ds : List D) (vs : List V) (ps : List PyData), RDs K T F H vs ds → toPs ds = some ps → DpAll K H vs ps
  | [], _, _, h, e => by cases h; simp [toPs] at e; subst e; exact .nil
  | d :: ds, _, _, h, e => by
    cases h with
    | cons h hs =>
      simp only [toPs] at e
      split at e
      · rename_i p ps e1 e2
        simp at e
        subst e
        exact .cons (RD.dp d _ p h e1) (RDs.dp ds _ ps hs e2)
      · cases e
end
theorem Vw.dp {v : V} {d : D} {p : PyData} (h : Vw K T F H v d) (e : toP d = some p) : Dp K H v p := by
  cases h with
  | non => exact RD.dp _ _ _ (RD.non (T := T) (F := F)) e
  | bl b => exact RD.dp _ _ _ (RD.bl (T := T) (F := F) b) e
  | int b => exact RD.dp _ _ _ (RD.int (T := T) (F := F) b) e
  | str b => exact RD.dp _ _ _ (RD.str (T := T) (F := F) b) e
  | tup h hs => exact RD.dp _ _ _ (RD.tup h hs) e
  | lst h hs =>
    simp only [toP, Option.map_eq_some_iff] at e
    obtain ⟨ps, e1, rfl⟩ := e
    exact .lst (.inl (.inl h)) (RDs.dp _ _ ps hs e1)
  | ty n => simp [toP] at e
  | fn h => simp [toP] at e
  | cls h => simp [toP] at e
  | ins hc h hs => simp [toP] at e
  | dic h hs => simp [toP] at e
  | scr h => simp [toP] at e
/-! ### new things -/
theorem Ext.alloc {O : List Addr} {p : Addr} {o : HO} (hp : H p = none) : Ext F O H F O (upd H p o) :=
  ⟨fun _ f => f, fun a u e _ _ => by rw [upd_ne (ne_of_none e hp)]; exact e, fun _ f => .inl f, fun _ f => .inl f, fun a h => by
    by_cases e : a = p
    · subst e; rw [upd_same]; simp
    · rw [upd_ne e]; exact h⟩
theorem SRel.alloc {O : List Addr} {σ : L2.St} {st : St} {p : Addr} {o : HO} (S : SRel K T F O H σ st) (hp : H p = none) : SRel K T F O (upd H p o) σ st :=
  S.grow (fun _ f => f) (fun a u e _ => by rw [upd_ne (ne_of_none e hp)]; exact e) S.nf fun a f => (Ext.alloc (F := F) (O := O) hp).dom a (S.fd a f)
theorem RDs.alloc {vs : List V} {ds : List D} {p : Addr} {o : HO} (h : RDs K T F H vs ds) (hp : H p = none) : RDs K T F (upd H p o) vs ds :=
  RDs.mono (fun _ f => f) (fun a u _ e _ => by rw [upd_ne (ne_of_none e hp)]; exact e) _ _ h
theorem SRel.fresh {O : List Addr} {σ : L2.St} {st : St} {p : Addr} (S : SRel K T F O H σ st) (hp : H p = none) : p ∉ O ∧ ¬ F p :=
  ⟨fun z => S.sl.there p z hp, fun z => S.fd p z hp⟩
theorem Ext.none_of {F0 : AP} {O O0 : List Addr} {H0 : Hp} {p : Addr} (E : Ext F0 O0 H0 F O H) (hp : H p = none) : H0 p = none := by
  cases e : H0 p with
  | none => rfl
  | some o => exact absurd hp (E.dom p (by rw [e]; simp))
theorem Post.newLst {Wx : WX} {σ : L2.St} {F0 : AP} {O0 O : List Addr} {H0 : Hp} {st : St} {ds : List D} {vs : List V} {Q : VK} (h : Post K T Wx σ F0 O0 H0 (.ok (W.o (.lst ds)) st) (GE K T σ H0 Q)) (E : Ext F0 O0 H0 F O H) (S : SRel K T F O H σ st) (hs : RDs K T F H vs ds) {p : Addr} (hp : H p = none) :
    Q (.ref p) (upd H p (.lst vs)) :=
  h F O _ (E.trans (.alloc hp)) (S.alloc hp) (.ref p) [p] (.o (.lst upd_same (hs.alloc hp))) fun a ha => by
    simp at ha; subst ha; exact ⟨(S.fresh hp).1, (S.fresh hp).2, E.none_of hp⟩
theorem Post.newTup {Wx : WX} {σ : L2.St} {F0 : AP} {O0 O : List Addr} {H0 : Hp} {st : St} {ds : List D} {vs : List V} {Q : VK} (h : Post K T Wx σ F0 O0 H0 (.ok (W.d (.tup ds)) st) (GE K T σ H0 Q)) (E : Ext F0 O0 H0 F O H) (S : SRel K T F O H σ st) (hs : RDs K T F H vs ds) :
    kT H vs Q := by
  intro p o hp ho
  have ok : OwnOk F O H0 [p] := fun a ha => by simp at ha; subst ha; exact ⟨(S.fresh hp).1, (S.fresh hp).2, E.none_of hp⟩
  have S1 := (S.alloc (o := .frz o (.tup vs)) hp).give (own := [p]) ok (fun a ha => by simp at ha; subst ha; rw [upd_same]; simp)
  refine h _ O _ ((E.trans (.alloc hp)).give ok) S1 (.ref p) [] (.d (.tup (.inl ⟨.inr (by simp), o, ho, upd_same⟩) ?_)) .nil
  exact RDs.mono (fun _ f => .inl f) (fun _ _ _ e _ => e) _ _ (hs.alloc hp)
theorem Post.oldD {Wx : WX} {σ : L2.St} {F0 : AP} {O0 O : List Addr} {H0 : Hp} {st : St} {d : D} {v : V} {Q : VK} (h : Post K T Wx σ F0 O0 H0 (.ok (W.d d) st) (GE K T σ H0 Q)) (E : Ext F0 O0 H0 F O H) (S : SRel K T F O H σ st) (hs : RD K T F H v d) : Q v H :=
  h F O H E S v [] (.d hs) .nil
end

/-! ### == and in -/
def eqD (a b : D) : Option Bool := match toP a, toP b with
  | some p, some q => if SeqAt.shaped p && SeqAt.shaped q then some (PyData.eqv p q) else none
  | _, _ => none
def gEq (a b : D) : Option D := (eqD a b).map .bl
def gNe (a b : D) : Option D := (eqD a b).map fun c => .bl (!c)
def lineOf (n : Nat) : Bool := decide (n ≤ sizeLine)
/-- x in xs -/
def inD (x : D) : D → Option Bool
  | .lst ds => match toP x, toPs ds with
    | some p, some ps => if p.canLay0 && PyData.canLayAll0 ps && decide (p.depth ≤ 60) then some (ps.any fun y => PyData.eqv y p) else none
    | _, _ => none
  | .tup ds => match toP x, toPs ds with
    | some p, some ps => if p.canLay0 && PyData.canLayAll0 ps && decide (p.depth ≤ 60) then some (ps.any fun y => PyData.eqv y p) else none
    | _, _ => none
  | .str z => match x with
    | .str y => some (!(Builtin.Str.occurrences z y 0 z.length 1).isEmpty)
    | _ => none
  | _ => none
def gIn (x y : D) : Option D := (inD x y).map .bl
def gNotIn (x y : D) : Option D := (inD x y).map fun c => .bl (!c)
section
variable {X : Cx} {T : Tb}
theorem p_eq : P2 X T (rd2 gEq) (rEqD X.K) := P2.rd fun F H v1 v2 d1 d2 c Q h1 h2 e q => by
  unfold gEq eqD at e
  split at e
  · rename_i p r e1 e2
    split at e
    · rename_i hs
      simp at e hs
      subst e
      exact ⟨p, r, h1.dp e1, h2.dp e2, hs.1, hs.2, q _ (.bl _)⟩
    · simp at e
  · simp at e
theorem p_ne : P2 X T (rd2 gNe) (rNeD X.K) := P2.rd fun F H v1 v2 d1 d2 c Q h1 h2 e q => by
  unfold gNe eqD at e
  split at e
  · rename_i p r e1 e2
    split at e
    · rename_i hs
      simp at e hs
      subst e
      exact ⟨p, r, h1.dp e1, h2.dp e2, hs.1, hs.2, q _ (.bl _)⟩
    · simp at e
  · simp at e
def rInP (K : PySem.W.Frag) (neg : Bool) : R2 := fun x y H Q =>
  (∃ p ps, Dp K H x p ∧ (Dp K H y (.list ps) ∨ Dp K H y (.tuple ps)) ∧ p.canLay0 = true ∧ PyData.canLayAll0 ps = true ∧ p.depth ≤ 60 ∧ Q (.bl (if neg then !(ps.any fun y => PyData.eqv y p) else ps.any fun y => PyData.eqv y p)) H) ∨
  ∃ i j, x = .str i ∧ y = .str j ∧ Q (.bl (if neg then !(!(Builtin.Str.occurrences j i 0 j.length 1).isEmpty) else !(Builtin.Str.occurrences j i 0 j.length 1).isEmpty)) H
theorem op_inP (hu : X.A.units + 64 < cLine) : OpR X (compareOp .In) (rInP X.K false) := by
  intro pins s σ H x y v u Q I rx ry h
  rcases h with ⟨p, ps, hx, hy, h1, h2, h3, q⟩ | ⟨i, j, rfl, rfl, q⟩
  · obtain ⟨as, r1⟩ := Dp.reads I p x v hx rx
    rcases hy with hy | hy
    · obtain ⟨bs, r2⟩ := Dp.reads I _ y u hy ry
      exact SeqAt.in_list_reads r2 r1 h2 h1 (by have := Nat.min_le_right (PyData.depthAll ps) p.depth; omega) ⟨.bl _, H, I, rfl, q⟩
    · obtain ⟨bs, r2⟩ := Dp.reads I _ y u hy ry
      exact SeqAt.in_tuple_reads r2 r1 h2 h1 (by have := Nat.min_le_right (PyData.depthAll ps) p.depth; omega) ⟨.bl _, H, I, rfl, q⟩
  · exact op_in_str pins s σ H _ _ v u Q I rx ry ⟨i, j, rfl, rfl, q⟩
theorem op_notInP (hu : X.A.units + 64 < cLine) : OpR X (compareOp .NotIn) (rInP X.K true) := by
  intro pins s σ H x y v u Q I rx ry h
  rcases h with ⟨p, ps, hx, hy, h1, h2, h3, q⟩ | ⟨i, j, rfl, rfl, q⟩
  · obtain ⟨as, r1⟩ := Dp.reads I p x v hx rx
    rcases hy with hy | hy
    · obtain ⟨bs, r2⟩ := Dp.reads I _ y u hy ry
      exact SeqAt.notIn_list_reads r2 r1 h2 h1 (by have := Nat.min_le_right (PyData.depthAll ps) p.depth; omega) ⟨.bl _, H, I, rfl, q⟩
    · obtain ⟨bs, r2⟩ := Dp.reads I _ y u hy ry
      exact SeqAt.notIn_tuple_reads r2 r1 h2 h1 (by have := Nat.min_le_right (PyData.depthAll ps) p.depth; omega) ⟨.bl _, H, I, rfl, q⟩
  · exact op_notIn_str pins s σ H _ _ v u Q I rx ry ⟨i, j, rfl, rfl, q⟩
theorem inD_cases {neg : Bool} {F : AP} {H : Hp} {v1 v2 : V} {x y : D} {b : Bool} {Q : VK} (h1 : Vw X.K T F H v1 x) (h2 : Vw X.K T F H v2 y) (e : inD x y = some b) (q : Q (.bl (if neg then !b else b)) H) : rInP X.K neg v1 v2 H Q := by
  unfold inD at e
  split at e
  · rename_i ds
    split at e
    · rename_i p ps e1 e2
      split at e
      · rename_i hs
        simp at hs e
        subst e
        exact .inl ⟨p, ps, h1.dp e1, .inl (h2.dp (by simp [toP, e2])), hs.1.1, hs.1.2, hs.2, q⟩
      · cases e
    · cases e
  · rename_i ds
    split at e
    · rename_i p ps e1 e2
      split at e
      · rename_i hs
        simp at hs e
        subst e
        exact .inl ⟨p, ps, h1.dp e1, .inr (h2.dp (by simp [toP, e2])), hs.1.1, hs.1.2, hs.2, q⟩
      · cases e
    · cases e
  · rename_i z
    split at e
    · rename_i w
      have e := Option.some.inj e
      subst e
      cases h1
      cases h2
      exact .inr ⟨w, z, rfl, rfl, by simpa using q⟩
    · cases e
  · cases e
theorem p_in : P2 X T (rd2 gIn) (rInP X.K false) := P2.rd fun F H v1 v2 d1 d2 c Q h1 h2 e q => by
  unfold gIn at e
  simp only [Option.map_eq_some_iff] at e
  obtain ⟨b, e, rfl⟩ := e
  exact inD_cases h1 h2 e (q _ (.bl _))
theorem p_notIn : P2 X T (rd2 gNotIn) (rInP X.K true) := P2.rd fun F H v1 v2 d1 d2 c Q h1 h2 e q => by
  unfold gNotIn at e
  simp only [Option.map_eq_some_iff] at e
  obtain ⟨b, e, rfl⟩ := e
  exact inD_cases h1 h2 e (q _ (.bl _))

/-! ### ints -/
def gI (g : Int → Int → D) : D → D → Option D
  | .int i, .int j => some (g i j)
  | _, _ => none
theorem p_cmpI {g : Int → Int → Bool} : P2 X T (rd2 (gI fun i j => .bl (g i j))) (rI0 fun i j => .bl (g i j)) := P2.rd fun F H v1 v2 d1 d2 c Q h1 h2 e q => by
  unfold gI at e
  split at e
  · simp at e; subst e; cases h1; cases h2; exact ⟨_, _, rfl, rfl, q _ (.bl _)⟩
  · cases e
theorem p_sub : P2 X T (rd2 (gI fun i j => .int (i - j))) (rI0 fun i j => .int (i - j)) := P2.rd fun F H v1 v2 d1 d2 c Q h1 h2 e q => by
  unfold gI at e
  split at e
  · simp at e; subst e; cases h1; cases h2; exact ⟨_, _, rfl, rfl, q _ (.int _)⟩
  · cases e
abbrev fSub : W → W → M W := rd2 (gI fun i j => .int (i - j))
abbrev fLt : W → W → M W := rd2 (gI fun i j => .bl (decide (i < j)))
abbrev fLe : W → W → M W := rd2 (gI fun i j => .bl (decide (i ≤ j)))
abbrev fGt : W → W → M W := rd2 (gI fun i j => .bl (decide (j < i)))
abbrev fGe : W → W → M W := rd2 (gI fun i j => .bl (decide (j ≤ i)))
abbrev fEq : W → W → M W := rd2 gEq
abbrev fNe : W → W → M W := rd2 gNe
abbrev fIn : W → W → M W := rd2 gIn
abbrev fNotIn : W → W → M W := rd2 gNotIn
def gMod : D → D → Option D
  | .int i, .int j => if 0 < j then some (.int (i % j)) else none
  | _, _ => none
theorem p_mod : P2 X T (rd2 gMod) (rI (fun _ j => 0 < j) fun i j => .int (i % j)) := P2.rd fun F H v1 v2 d1 d2 c Q h1 h2 e q => by
  unfold gMod at e
  split at e
  · split at e
    · simp at e; subst e; cases h1; cases h2; exact ⟨_, _, rfl, rfl, by assumption, q _ (.int _)⟩
    · cases e
  · cases e
def gDiv : D → D → Option D
  | .int i, .int j => if 0 < j ∧ j < 1073741824 then some (.int (i / j)) else none
  | _, _ => none
theorem p_div : P2 X T (rd2 gDiv) (rI CDiv fun i j => .int (i / j)) := P2.rd fun F H v1 v2 d1 d2 c Q h1 h2 e q => by
  unfold gDiv at e
  split at e
  · split at e
    · simp at e; subst e; cases h1; cases h2; exact ⟨_, _, rfl, rfl, by assumption, q _ (.int _)⟩
    · cases e
  · cases e
def gPow : D → D → Option D
  | .int i, .int j => if 0 ≤ j ∧ j ≤ 1000000 ∧ i.natAbs < 2 ^ 64 then some (.int (i ^ j.toNat)) else none
  | _, _ => none
theorem p_pow : P2 X T (rd2 gPow) (rI CPow fun i j => .int (i ^ j.toNat)) := P2.rd fun F H v1 v2 d1 d2 c Q h1 h2 e q => by
  unfold gPow at e
  split at e
  · split at e
    · simp at e; subst e; cases h1; cases h2; exact ⟨_, _, rfl, rfl, by assumption, q _ (.int _)⟩
    · cases e
  · cases e
abbrev fMod : W → W → M W := rd2 gMod
abbrev fDiv : W → W → M W := rd2 gDiv
abbrev fPow : W → W → M W := rd2 gPow
/-! ### + -/
def fAdd : W → W → M W := fun w1 w2 st => match rd w1 st, rd w2 st with
  | some (.int i), some (.int j) => .ok (.d (.int (i + j))) st
  | some (.str x), some (.str y) => if x.length + y.length ≤ sizeLine then .ok (.d (.str (x ++ y))) st else .bad
  | some (.lst a), some (.lst b) => if a.length + b.length ≤ sizeLine then .ok (.o (.lst (a ++ b))) st else .bad
  | some (.tup a), some (.tup b) => if a.length + b.length ≤ sizeLine then .ok (.d (.tup (a ++ b))) st else .bad
  | _, _ => .bad
def rAddA (K : PySem.W.Frag) : R2 := fun x y H Q => rI0 (fun i j => .int (i + j)) x y H Q ∨ (∃ i j, x = .str i ∧ y = .str j ∧ i.length + j.length ≤ sizeLine ∧ Q (.str (i ++ j)) H) ∨ rCat x y H Q ∨ rCatF K x y H Q
theorem op_addA : OpR X (binaryOp .Add) (rAddA X.K) := op_add.or (op_add_str.or (op_cat.or op_catF))
theorem p_add : P2 X T fAdd (rAddA X.K) := by
  intro Wx σ F0 O0 H0 F O H st w1 w2 v1 v2 own1 own2 Q E S r1 r2 p
  unfold fAdd at p
  split at p
  · rename_i i j e1 e2
    cases r1.vw S.sl e1; cases r2.vw S.sl e2
    exact .inl ⟨_, _, rfl, rfl, p.oldD E S (.int _)⟩
  · rename_i x y e1 e2
    cases r1.vw S.sl e1; cases r2.vw S.sl e2
    split at p
    · exact .inr (.inl ⟨_, _, rfl, rfl, by assumption, p.oldD E S (.str _)⟩)
    · exact p.elim
  · rename_i a b e1 e2
    cases r1.vw S.sl e1 with
    | lst h1 hs1 =>
      cases r2.vw S.sl e2 with
      | lst h2 hs2 =>
        split at p
        · rename_i hz
          exact .inr (.inr (.inl ⟨_, _, _, _, rfl, rfl, h1, h2, by rw [hs1.len, hs2.len]; exact hz, fun q hq => p.newLst E S (hs1.app hs2) hq⟩))
        · exact p.elim
  · rename_i a b e1 e2
    cases r1.vw S.sl e1 with
    | tup h1 hs1 =>
      cases r2.vw S.sl e2 with
      | tup h2 hs2 =>
        split at p
        · rename_i hz
          refine .inr (.inr (.inr ⟨_, _, _, _, rfl, rfl, h1.sq, h2.sq, by rw [hs1.len, hs2.len]; exact hz, fun e => ?_, fun _ e => ?_, fun _ _ => p.newTup E S (hs1.app hs2)⟩))
          · subst e; cases hs1; exact p.oldD E S (.tup h2 hs2)
          · subst e; cases hs2; rw [List.append_nil] at p; exact p.oldD E S (.tup h1 hs1)
        · exact p.elim
  · exact p.elim
/-! ### * -/
def strRep (x : Str) (n : Nat) : Str := ⟨(List.replicate n x.cps).foldl (· ++ ·) #[]⟩
def fMul : W → W → M W := fun w1 w2 st => match rd w1 st, rd w2 st with
  | some (.int i), some (.int j) => if i.natAbs < 2 ^ 60 ∨ j.natAbs < 2 ^ 60 then .ok (.d (.int (i * j))) st else .bad
  | some (.str x), some (.int n) => if 0 ≤ n ∧ n ≤ 1000 ∧ x.length ≤ 1000 then .ok (.d (.str (strRep x n.toNat))) st else .bad
  | some (.lst a), some (.int k) => if 0 ≤ k ∧ k ≤ 100000 ∧ a.length * k.toNat ≤ sizeLine then .ok (.o (.lst (List.replicate k.toNat a).flatten)) st else .bad
  | some (.tup a), some (.int k) => if a ≠ [] ∧ 2 ≤ k ∧ k ≤ 1000 ∧ a.length ≤ 1000 then .ok (.d (.tup (List.replicate k.toNat a).flatten)) st else .bad
  | _, _ => .bad
def rStrRep : R2 := fun x y H Q => ∃ (z : Str) (n : Int), x = .str z ∧ y = .int n ∧ 0 ≤ n ∧ n ≤ 1000 ∧ z.length ≤ 1000 ∧ Q (.str (strRep z n.toNat)) H
theorem strRep_one (x : Str) : strRep x 1 = x := by
  unfold strRep; simp
theorem strRep_nil (x : Str) (h : x.length = 0) : ∀ n, strRep x n = x := by
  have e : x.cps = #[] := by simpa [Str.length] using h
  have hx : x = ⟨#[]⟩ := by cases x; simp at e; rw [e]
  intro n
  subst hx
  unfold strRep
  have : ∀ n, (List.replicate n (#[] : Array Nat)).foldl (· ++ ·) #[] = #[] := by
    intro n
    induction n with
    | zero => rfl
    | succ n ih => rw [List.replicate_succ, List.foldl_cons]; simpa using ih
  simpa using this n
theorem op_strRep : OpR X (binaryOp .Mult) rStrRep := by
  intro pins s σ H x y v u Q I rx ry h
  obtain ⟨z, n, rfl, rfl, h0, h1, hz, q⟩ := h
  obtain ⟨t, rfl⟩ := rx
  obtain ⟨t', rfl⟩ := ry
  have fin : ∀ tk t0, EP X pins σ Q (.str (strRep z n.toNat) t0) { s with toks := tk } := fun tk t0 => ⟨.str _, H, I.tok tk, ⟨_, rfl⟩, q⟩
  refine P.mul_str ?_ (fun h2 h3 => ?_) (fun h2 h3 => ?_) ?_
  · have e1 : decide (n < -(2 ^ 63 : Int)) = false := decide_eq_false (by omega)
    have e2 : decide (n ≥ 2 ^ 63) = false := decide_eq_false (by omega)
    rw [e1, e2]; rfl
  · have : (1000 : Int) ≤ (2 ^ 63 - 1) / n := by
      rw [Int.le_ediv_iff_mul_le (by omega)]
      have : (1000 : Int) * n ≤ 1000 * 1000 := Int.mul_le_mul_of_nonneg_left h1 (by omega)
      omega
    have : (z.length : Int) ≤ 1000 := by omega
    omega
  · have : z.length * n.toNat ≤ 1000 * 1000 := Nat.mul_le_mul hz (by omega)
    unfold Builtin.Str.tooLong
    rw [decide_eq_false]
    rw [sizeLine_eq]
    omega
  · by_cases hn : n < 1
    · rw [if_pos hn]
      have : n.toNat = 0 := by omega
      have e : strRep z n.toNat = Str.empty := by rw [this]; rfl
      rw [e] at fin
      exact ⟨by decide, fin _ _⟩
    · rw [if_neg hn]
      by_cases hc : (n == 1 || z.length == 0) = true
      · rw [if_pos hc]
        have e : strRep z n.toNat = z := by
          simp at hc
          rcases hc with hc | hc
          · subst hc; exact strRep_one z
          · exact strRep_nil z hc _
        rw [e] at fin
        exact fin s.toks t
      · rw [if_neg hc]
        refine ⟨?_, fin _ _⟩
        have hl : ∀ (n : Nat) (acc : Array Nat), ((List.replicate n z.cps).foldl (· ++ ·) acc).size = acc.size + n * z.cps.size := by
          intro n
          induction n with
          | zero => intro acc; simp
          | succ n ih => intro acc; rw [List.replicate_succ, List.foldl_cons, ih]; simp; rw [Nat.succ_mul]; omega
        have : z.length * n.toNat ≤ 1000 * 1000 := Nat.mul_le_mul hz (by omega)
        show ((List.replicate n.toNat z.cps).foldl (· ++ ·) #[]).size ≤ sizeLine
        rw [hl, sizeLine_eq]
        have e3 : n.toNat * z.cps.size = z.length * n.toNat := Nat.mul_comm _ _
        simp
        omega
def rMulA (K : PySem.W.Frag) : R2 := fun x y H Q => rI CMul (fun i j => .int (i * j)) x y H Q ∨ rStrRep x y H Q ∨ rRep x y H Q ∨ rRepF K x y H Q
theorem op_mulA : OpR X (binaryOp .Mult) (rMulA X.K) := op_mul.or (op_strRep.or (op_rep.or op_repF))
theorem RDs.rep {K : PySem.W.Frag} {F : AP} {H : Hp} {vs : List V} {ds : List D} (h : RDs K T F H vs ds) : ∀ n, RDs K T F H (List.replicate n vs).flatten (List.replicate n ds).flatten
  | 0 => .nil
  | n + 1 => by rw [List.replicate_succ, List.replicate_succ, List.flatten_cons, List.flatten_cons]; exact h.app (RDs.rep h n)
theorem p_mul : P2 X T fMul (rMulA X.K) := by
  intro Wx σ F0 O0 H0 F O H st w1 w2 v1 v2 own1 own2 Q E S r1 r2 p
  unfold fMul at p
  split at p
  · rename_i i j e1 e2
    cases r1.vw S.sl e1; cases r2.vw S.sl e2
    split at p
    · rename_i hc
      refine .inl ⟨_, _, rfl, rfl, ?_, p.oldD E S (.int _)⟩
      rcases hc with hc | hc
      · exact .inl (by constructor <;> omega)
      · exact .inr (by constructor <;> omega)
    · exact p.elim
  · rename_i x n e1 e2
    cases r1.vw S.sl e1; cases r2.vw S.sl e2
    split at p
    · rename_i hc
      exact .inr (.inl ⟨_, _, rfl, rfl, hc.1, hc.2.1, hc.2.2, p.oldD E S (.str _)⟩)
    · exact p.elim
  · rename_i a b e1 e2
    cases r2.vw S.sl e2
    cases r1.vw S.sl e1 with
    | lst h1 hs1 =>
      split at p
      · rename_i hz
        exact .inr (.inr (.inl ⟨_, _, _, rfl, rfl, h1, by omega, by omega, by rw [hs1.len]; exact hz.2.2, fun q hq => p.newLst E S (hs1.rep _) hq⟩))
      · exact p.elim
  · rename_i a b e1 e2
    cases r2.vw S.sl e2
    cases r1.vw S.sl e1 with
    | tup h1 hs1 =>
      split at p
      · rename_i hz
        refine .inr (.inr (.inr ⟨_, _, _, rfl, rfl, h1.sq, fun e => ?_, hz.2.1, hz.2.2.1, by rw [hs1.len]; exact hz.2.2.2, p.newTup E S (hs1.rep _)⟩))
        subst e; cases hs1; exact hz.1 rfl
      · exact p.elim
  · exact p.elim
end
end DP
end
section
set_option Elab.async false
set_option linter.all false
set_option maxRecDepth 100000
set_option maxHeartbeats 4000000
/-! DP3: tests, arguments, displays, attributes, subscripts, slices, built-ins. -/
namespace DP
open PySem PySem.Spec PyProof.Rows L2
section
variable {X : Cx} {T : Tb} {pos : Pos}
/-! ### comparisons, tests -/
def mB (m : M W) : M Bool := bnd m fun w st => match rd w st with
  | some (.bl b) => .ok b st
  | _ => .bad
theorem run_mB {Wx : WX} {σ : L2.St} {H : Hp} {m : M W} {Q : Bool → Hp → Prop} (h : liftB X.K T Wx (mB m) σ H Q) : lift X.K T Wx m σ H fun x H1 => ∃ c, x = .bl c ∧ Q c H1 := by
  obtain ⟨F, O, st, S, h⟩ := h
  refine ⟨F, O, st, S, h.bind .refl fun w st1 F1 O1 H1 E1 _ S1 h1 v own r ok => ?_⟩
  split at h1
  · rename_i b e
    cases r.vw S1.sl e
    exact ⟨b, rfl, h1 F1 O1 H1 E1 S1⟩
  · exact h1.elim
theorem de_cmp {op : CmpOp} {a b : Expr} {r : R2} {f : W → W → M W} {ma mb : M W} (ho : OpR X (compareOp op) r) (p : P2 X T f r) (ha : DE T X a ma) (hb : DE T X b mb) (hm : behindInMarks op b = false) : DE T X (.Compare a [op] [b] pos) (m2 f ma mb) :=
  ⟨fun Wx tk => PE.weak (pe_cmpR ho (ha.pe Wx tk) (hb.pe Wx tk) hm) fun σ H Q h => run2 p h⟩
theorem dt_cmp {op : CmpOp} {a b : Expr} {r : R2} {f : W → W → M W} {ma mb : M W} (ho : OpR X (compareOp op) r) (p : P2 X T f r) (ha : DE T X a ma) (hb : DE T X b mb) (hm : behindInMarks op b = false) : DT T X (.Compare a [op] [b] pos) (mB (m2 f ma mb)) :=
  ⟨fun Wx tk => PT.weak (pt_cmpR ho (ha.pe Wx tk) (hb.pe Wx tk) hm) fun σ H Q h => run2 p (run_mB h)⟩
/-- an expression whose value is a bool -/
theorem dt_val {e : Expr} {m : M W} (h : DE T X e m) (he : ∀ whole, isTrue e X.env whole = (do let v ← whole; standAt e.pos; holding [v] (truthy v)) := by intro _; rfl) : DT T X e (mB m) :=
  ⟨fun Wx tk => PT.weak (pt_val (h.pe Wx tk) he) fun σ H Q h => run_mB h⟩
def isN : W → Bool
  | .d .non => true
  | _ => false
theorem VR.non {K : PySem.W.Frag} {F : AP} {H : Hp} {O : List Addr} {σ : L2.St} {st : St} {w : W} {v : V} {own : List Addr} (S : SL K T F H σ st O) (h : VR K T F H σ w v own) (hb : ∀ i, w = .b i → ∃ t x, st[i]? = some (.o t x)) : decide (v = .non) = isN w := by
  cases h with
  | d h => cases h <;> simp [isN]
  | o h => cases h <;> simp [isN]
  | @b v i h =>
    obtain ⟨t, x, e⟩ := hb i rfl
    obtain ⟨v', own', s1, _, r1, _⟩ := S.get_o e
    rw [h] at s1
    have : v = v' := by simpa using s1
    subst this
    cases r1 <;> simp [isN]
def okB (w : W) (st : St) : Bool := match w with
  | .b i => match st[i]? with
    | some (.o _ _) => true
    | _ => false
  | _ => true
def mNone (neg : Bool) (m : M W) : M W := bnd m fun w st => if okB w st then .ok (.d (.bl (isN w != neg))) st else .bad
theorem okB_of {w : W} {st : St} (h : okB w st = true) : ∀ i, w = .b i → ∃ t x, st[i]? = some (.o t x) := by
  intro i e
  subst e
  unfold okB at h
  split at h
  · rename_i j e
    cases e
    split at h
    · rename_i t x e; exact ⟨t, x, e⟩
    · cases h
  · rename_i q; exact absurd rfl (q i)
theorem run_non {Wx : WX} {σ : L2.St} {H : Hp} {m : M W} {neg : Bool} {Q : VK} (h : lift X.K T Wx (mNone neg m) σ H Q) : lift X.K T Wx m σ H fun x H1 => Q (.bl (decide (x = .non) != neg)) H1 := by
  obtain ⟨F, O, st, S, h⟩ := h
  refine ⟨F, O, st, S, h.bind .refl fun w st1 F1 O1 H1 E1 _ S1 h1 v own r ok => ?_⟩
  split at h1
  · rename_i e
    rw [VR.non S1.sl r (okB_of e)]
    exact h1 F1 O1 H1 E1 S1 _ [] (.d (.bl _)) .nil
  · exact h1.elim
theorem de_isN {a : Expr} {j : Nat} {p2 : Pos} {m : M W} (h : DE T X a m) : DE T X (.Compare a [.Is] [.Constant .none j p2] pos) (mNone false m) :=
  ⟨fun Wx tk => PE.weak (pe_cmp (pc_isN (h.pe Wx tk)) rfl) fun σ H Q h => by simpa [tIsN] using run_non h⟩
theorem de_notN {a : Expr} {j : Nat} {p2 : Pos} {m : M W} (h : DE T X a m) : DE T X (.Compare a [.IsNot] [.Constant .none j p2] pos) (mNone true m) :=
  ⟨fun Wx tk => PE.weak (pe_cmp (pc_notN (h.pe Wx tk)) rfl) fun σ H Q h => by simpa [tNotN] using run_non h⟩
theorem dt_isN {a : Expr} {j : Nat} {p2 : Pos} {m : M W} (h : DE T X a m) : DT T X (.Compare a [.Is] [.Constant .none j p2] pos) (mB (mNone false m)) :=
  ⟨fun Wx tk => PT.weak (pt_cmp (pc_isN (h.pe Wx tk)) rfl) fun σ H Q h => by simpa [tIsN, tB] using run_non (run_mB h)⟩
theorem dt_notN {a : Expr} {j : Nat} {p2 : Pos} {m : M W} (h : DE T X a m) : DT T X (.Compare a [.IsNot] [.Constant .none j p2] pos) (mB (mNone true m)) :=
  ⟨fun Wx tk => PT.weak (pt_cmp (pc_notN (h.pe Wx tk)) rfl) fun σ H Q h => by simpa [tNotN, tB] using run_non (run_mB h)⟩
/-! ### chains -/
def mCh (f g : W → W → M W) (ma mb mc : M W) : M W := bnd ma fun x => bnd mb fun y => bnd (f x y) fun z st => match rd z st with
  | some (.bl true) => bnd mc (fun w => g y w) st
  | some (.bl false) => .ok (.d (.bl false)) st
  | _ => .bad
theorem run_ch {Wx : WX} {σ : L2.St} {H : Hp} {ma mb mc : M W} {f g : W → W → M W} {Q : VK} {r r' : R2} (p : P2 X T f r) (p' : P2 X T g r') (h : lift X.K T Wx (mCh f g ma mb mc) σ H Q) :
    tChain r r' (lift X.K T Wx ma) (lift X.K T Wx mb) (lift X.K T Wx mc) σ H Q := by
  obtain ⟨F, O, st, S, h⟩ := h
  refine ⟨F, O, st, S, h.bind .refl fun w1 st1 F1 O1 H1 E1 _ S1 h1 v1 own1 r1 ok1 => ⟨F1, O1, st1, S1, h1.bind E1 fun w2 st2 F2 O2 H2 E2 E12 S2 h2 v2 own2 r2 ok2 => ?_⟩⟩
  obtain ⟨q1, q2⟩ := r1.ext ok1 S1.nf E12
  have ok2' : OwnOk F2 O2 H own2 := fun a ha => ⟨(ok2 a ha).1, (ok2 a ha).2.1, E1.none_of (ok2 a ha).2.2⟩
  refine p Wx σ F2 O2 H2 F2 O2 H2 st2 w1 w2 v1 v2 own1 own2 _ .refl S2 q1 r2 ?_
  refine h2.bind E2 fun w3 st3 F3 O3 H3 E3 E23 S3 h3 v3 own3 r3 ok3 => ?_
  split at h3
  · rename_i e
    cases r3.vw S3.sl e
    refine ⟨true, rfl, ?_⟩
    rw [if_pos rfl]
    refine ⟨F3, O3, st3, S3, h3.bind E3 fun w4 st4 F4 O4 H4 E4 E34 S4 h4 v4 own4 r4 ok4 => ?_⟩
    obtain ⟨q3, q4⟩ := r2.ext ok2' S2.nf (E23.trans E34)
    exact p' Wx σ F O H F4 O4 H4 st4 w2 w4 v2 v4 own2 own4 Q E4 S4 q3 r4 h4
  · rename_i e
    cases r3.vw S3.sl e
    refine ⟨false, rfl, ?_⟩
    rw [if_neg Bool.false_ne_true]
    exact h3 F3 O3 H3 E3 S3 _ [] (.d (.bl _)) .nil
  · exact h3.elim
theorem de_ch {op op' : CmpOp} {a b c : Expr} {r r' : R2} {f g : W → W → M W} {ma mb mc : M W} (ho : OpR X (compareOp op) r) (p : P2 X T f r) (ho' : OpR X (compareOp op') r') (p' : P2 X T g r') (ha : DE T X a ma) (hb : DE T X b mb) (hc : DE T X c mc)
    (hm : lastMarks [op, op'] [b, c] = false := by with_unfolding_all rfl) : DE T X (.Compare a [op, op'] [b, c] pos) (mCh f g ma mb mc) :=
  ⟨fun Wx tk => PE.weak (pe_chain ho ho' (ha.pe Wx tk) (hb.pe Wx tk) (hc.pe Wx tk) hm) fun σ H Q h => run_ch p p' h⟩
theorem dt_ch {op op' : CmpOp} {a b c : Expr} {r r' : R2} {f g : W → W → M W} {ma mb mc : M W} (ho : OpR X (compareOp op) r) (p : P2 X T f r) (ho' : OpR X (compareOp op') r') (p' : P2 X T g r') (ha : DE T X a ma) (hb : DE T X b mb) (hc : DE T X c mc)
    (hm : lastMarks [op, op'] [b, c] = false := by with_unfolding_all rfl) : DT T X (.Compare a [op, op'] [b, c] pos) (mB (mCh f g ma mb mc)) :=
  ⟨fun Wx tk => PT.weak (pt_chain ho ho' (ha.pe Wx tk) (hb.pe Wx tk) (hc.pe Wx tk) hm) fun σ H Q h => run_ch p p' (run_mB h)⟩
/-! ### and, or, not, if -/
def mIf {α : Type} (t : M Bool) (a b : M α) : M α := bnd t fun c => if c then a else b
abbrev mAnd (a b : M Bool) : M Bool := mIf a b (ret false)
abbrev mOr (a b : M Bool) : M Bool := mIf a (ret true) b
def mNot (a : M Bool) : M Bool := bnd a fun c => ret (!c)
abbrev mAndV (a b : M W) : M W := mIf (mB a) b (mC (.bl false))
abbrev mOrV (a b : M W) : M W := mIf (mB a) (mC (.bl true)) b
def mNotV (a : M W) : M W := bnd (mB a) fun c => mC (.bl (!c))
theorem dw_and1 {a : Expr} {m : M Bool} (h : DT T X a m) : DW T X (.BoolOp .And [a] pos) m := ⟨fun Wx tk => pw_and1 (h.pt Wx tk)⟩
theorem dw_or1 {a : Expr} {m : M Bool} (h : DT T X a m) : DW T X (.BoolOp .Or [a] pos) m := ⟨fun Wx tk => pw_or1 (h.pt Wx tk)⟩
theorem dw_and {a b : Expr} {rest : List Expr} {ma mr : M Bool} (h : DT T X a ma) (hr : DW T X (.BoolOp .And (b :: rest) pos) mr) : DW T X (.BoolOp .And (a :: b :: rest) pos) (mAnd ma mr) := by
  refine ⟨fun Wx tk => PW.weak (pw_and (h.pt Wx tk) (hr.pw Wx tk)) fun σ H Q h => ?_⟩
  obtain ⟨F, O, st, S, h⟩ := h
  refine ⟨F, O, st, S, h.bind .refl fun c st1 F1 O1 H1 E1 _ S1 h1 => ?_⟩
  cases c with
  | true =>
    rw [if_pos rfl] at h1
    show liftB X.K T Wx mr σ H1 Q
    refine ⟨F1, O1, st1, S1, ?_⟩
    cases e : mr st1 with
    | ok a s => rw [e] at h1; exact fun F' O' H' x S' => h1 F' O' H' (E1.trans x) S'
    | exc e' s => rw [e] at h1; exact fun F' O' H' cls dx x S' r => h1 F' O' H' cls dx (E1.trans x) S' r
    | bad => rw [e] at h1; exact h1
  | false =>
    rw [if_neg Bool.false_ne_true] at h1
    show Q false H1
    exact h1 F1 O1 H1 E1 S1
theorem dw_or {a b : Expr} {rest : List Expr} {ma mr : M Bool} (h : DT T X a ma) (hr : DW T X (.BoolOp .Or (b :: rest) pos) mr) : DW T X (.BoolOp .Or (a :: b :: rest) pos) (mOr ma mr) := by
  refine ⟨fun Wx tk => PW.weak (pw_or (h.pt Wx tk) (hr.pw Wx tk)) fun σ H Q h => ?_⟩
  obtain ⟨F, O, st, S, h⟩ := h
  refine ⟨F, O, st, S, h.bind .refl fun c st1 F1 O1 H1 E1 _ S1 h1 => ?_⟩
  cases c with
  | false =>
    rw [if_neg Bool.false_ne_true] at h1
    show liftB X.K T Wx mr σ H1 Q
    refine ⟨F1, O1, st1, S1, ?_⟩
    cases e : mr st1 with
    | ok a s => rw [e] at h1; exact fun F' O' H' x S' => h1 F' O' H' (E1.trans x) S'
    | exc e' s => rw [e] at h1; exact fun F' O' H' cls dx x S' r => h1 F' O' H' cls dx (E1.trans x) S' r
    | bad => rw [e] at h1; exact h1
  | true =>
    rw [if_pos rfl] at h1
    show Q true H1
    exact h1 F1 O1 H1 E1 S1
theorem dt_not {a : Expr} {m : M Bool} (h : DT T X a m) : DT T X (.UnaryOp .Not a pos) (mNot m) := by
  refine ⟨fun Wx tk => PT.weak (pt_not (h.pt Wx tk)) fun σ H Q h => ?_⟩
  obtain ⟨F, O, st, S, h⟩ := h
  exact ⟨F, O, st, S, h.bind .refl fun c st1 F1 O1 H1 E1 _ S1 h1 => h1 F1 O1 H1 E1 S1⟩
/-- going on from a later state -/
theorem Post.on {α : Type} {K : PySem.W.Frag} {Wx : WX} {σ : L2.St} {F F1 : AP} {O O1 : List Addr} {H H1 : Hp} {r : Res α} {G : α → St → AP → List Addr → Hp → Prop} (E1 : Ext F O H F1 O1 H1) (h : Post K T Wx σ F O H r G) : Post K T Wx σ F1 O1 H1 r G := by
  cases r with
  | ok a s => exact fun F' O' H' x S' => h F' O' H' (E1.trans x) S'
  | exc e' s => exact fun F' O' H' cls dx x S' r => h F' O' H' cls dx (E1.trans x) S' r
  | bad => exact h
theorem Post.mono {α : Type} {K : PySem.W.Frag} {Wx : WX} {σ : L2.St} {F : AP} {O : List Addr} {H : Hp} {r : Res α} {G G' : α → St → AP → List Addr → Hp → Prop} (h : Post K T Wx σ F O H r G)
    (g : ∀ a st' F' O' H', Ext F O H F' O' H' → SRel K T F' O' H' σ st' → G a st' F' O' H' → G' a st' F' O' H') : Post K T Wx σ F O H r G' := by
  cases r with
  | ok a s => exact fun F' O' H' x S' => g _ _ _ _ _ x S' (h F' O' H' x S')
  | exc e' s => exact h
  | bad => exact h
/-- a value's end, from the later state -/
theorem GE.on {K : PySem.W.Frag} {σ : L2.St} {F F1 : AP} {O O1 : List Addr} {H H1 : Hp} {Q : VK} (E1 : Ext F O H F1 O1 H1) {w : W} {st' : St} {F' : AP} {O' : List Addr} {H' : Hp} (g : GE K T σ H Q w st' F' O' H') : GE K T σ H1 Q w st' F' O' H' :=
  fun v own r ok => g v own r fun a ha => ⟨(ok a ha).1, (ok a ha).2.1, E1.none_of (ok a ha).2.2⟩
theorem lift_on {K : PySem.W.Frag} {Wx : WX} {σ : L2.St} {F F1 : AP} {O O1 : List Addr} {H H1 : Hp} {m : M W} {st1 : St} {Q : VK} (E1 : Ext F O H F1 O1 H1) (S1 : SRel K T F1 O1 H1 σ st1) (h : Post K T Wx σ F O H (m st1) (GE K T σ H Q)) : lift K T Wx m σ H1 Q :=
  ⟨F1, O1, st1, S1, (h.on E1).mono fun _ _ _ _ _ _ _ g => g.on E1⟩
theorem de_if {c a b : Expr} {t : M Bool} {ma mb : M W} (hc : DT T X c t) (ha : DE T X a ma) (hb : DE T X b mb) : DE T X (.IfExp c a b pos) (mIf t ma mb) := by
  refine ⟨fun Wx tk => PE.weak (pe_ifExp (hc.pt Wx tk) (ha.pe Wx tk) (hb.pe Wx tk)) fun σ H Q h => ?_⟩
  obtain ⟨F, O, st, S, h⟩ := h
  refine ⟨F, O, st, S, h.bind .refl fun c st1 F1 O1 H1 E1 _ S1 h1 => ?_⟩
  cases c with
  | false => rw [if_neg Bool.false_ne_true] at h1; show lift X.K T Wx mb σ H1 Q; exact lift_on E1 S1 h1
  | true => rw [if_pos rfl] at h1; show lift X.K T Wx ma σ H1 Q; exact lift_on E1 S1 h1
theorem de_one {op} {a : Expr} {m : M W} (h : DE T X a m) : DE T X (.BoolOp op [a] pos) m := ⟨fun Wx tk => pe_one (h.pe Wx tk)⟩
theorem run_B {Wx : WX} {σ : L2.St} {F O H} {st : St} {ma : M W} {k : Bool → M W} {Q : VK} (S : SRel X.K T F O H σ st) (h : Post X.K T Wx σ F O H (bnd (mB ma) k st) (GE X.K T σ H Q)) :
    lift X.K T Wx ma σ H fun x H1 => ∃ c, x = .bl c ∧ lift X.K T Wx (k c) σ H1 Q :=
  run_mB (X := X) (m := ma) (Q := fun c H1 => lift X.K T Wx (k c) σ H1 Q) ⟨F, O, st, S, h.bind .refl fun c st1 F1 O1 H1 E1 _ S1 h1 => lift_on E1 S1 h1⟩
theorem lift_c {Wx : WX} {σ : L2.St} {H : Hp} {b : Bool} {Q : VK} (h : lift X.K T Wx (mC (.bl b)) σ H Q) : Q (.bl b) H := by
  obtain ⟨F, O, st, S, h⟩ := h
  exact h F O H .refl S _ [] (.d (.bl b)) .nil
theorem de_and {a b : Expr} {rest : List Expr} {ma mr : M W} (h : DE T X a ma) (hr : DE T X (.BoolOp .And (b :: rest) pos) mr) : DE T X (.BoolOp .And (a :: b :: rest) pos) (mAndV ma mr) := by
  refine ⟨fun Wx tk => PE.weak (pe_and (h.pe Wx tk) (hr.pe Wx tk)) fun σ H Q h => ?_⟩
  obtain ⟨F, O, st, S, h⟩ := h
  obtain ⟨F2, O2, st2, S2, g⟩ := run_B S h
  refine ⟨F2, O2, st2, S2, g.mono fun a st' F' O' H' _ _ q v own r ok => ?_⟩
  obtain ⟨c, rfl, q⟩ := q v own r ok
  refine ⟨c, rfl, ?_⟩
  cases c with
  | true => rw [if_pos rfl]; exact q
  | false => rw [if_neg Bool.false_ne_true]; exact lift_c (X := X) q
theorem de_or {a b : Expr} {rest : List Expr} {ma mr : M W} (h : DE T X a ma) (hr : DE T X (.BoolOp .Or (b :: rest) pos) mr) : DE T X (.BoolOp .Or (a :: b :: rest) pos) (mOrV ma mr) := by
  refine ⟨fun Wx tk => PE.weak (pe_or (h.pe Wx tk) (hr.pe Wx tk)) fun σ H Q h => ?_⟩
  obtain ⟨F, O, st, S, h⟩ := h
  obtain ⟨F2, O2, st2, S2, g⟩ := run_B S h
  refine ⟨F2, O2, st2, S2, g.mono fun a st' F' O' H' _ _ q v own r ok => ?_⟩
  obtain ⟨c, rfl, q⟩ := q v own r ok
  refine ⟨c, rfl, ?_⟩
  cases c with
  | true => rw [if_pos rfl]; exact lift_c (X := X) q
  | false => rw [if_neg Bool.false_ne_true]; exact q
theorem de_not {a : Expr} {m : M W} (h : DE T X a m) : DE T X (.UnaryOp .Not a pos) (mNotV m) := by
  refine ⟨fun Wx tk => PE.weak (pe_not (h.pe Wx tk)) fun σ H Q h => ?_⟩
  obtain ⟨F, O, st, S, h⟩ := h
  obtain ⟨F2, O2, st2, S2, g⟩ := run_B S h
  refine ⟨F2, O2, st2, S2, g.mono fun a st' F' O' H' _ _ q v own r ok => ?_⟩
  obtain ⟨c, rfl, q⟩ := q v own r ok
  exact ⟨c, rfl, lift_c (X := X) q⟩
/-! ### arguments -/
def argW : W → W
  | .o x => .d (fz x)
  | w => w
def aNil : M (List W) := ret []
def aCons (m : M W) (ms : M (List W)) : M (List W) := bnd m fun w => bnd ms fun ws => ret (argW w :: ws)
theorem da_nil : DA T X [] aNil := by
  refine ⟨fun Wx tk => PA.weak pa_nil fun σ H Q h => ?_⟩
  obtain ⟨F, O, st, S, h⟩ := h
  exact h F O H .refl S [] .nil
theorem da_cons {e : Expr} {es : List Expr} {m : M W} {ms : M (List W)} (h : DE T X e m) (hs : DA T X es ms) (he : starEach (e :: es) X.env = (false, eval e X.env) :: starEach es X.env := by rfl) : DA T X (e :: es) (aCons m ms) := by
  refine ⟨fun Wx tk => PA.weak (pa_cons (h.pe Wx tk) (hs.pa Wx tk) he) fun σ H Q h => ?_⟩
  obtain ⟨F, O, st, S, h⟩ := h
  refine ⟨F, O, st, S, h.bind .refl fun w st1 F1 O1 H1 E1 _ S1 h1 v own r ok => ?_⟩
  have S1' := S1.give ok r.there
  have E1' := E1.give ok
  refine ⟨_, O1, st1, S1', h1.bind E1' fun ws st2 F2 O2 H2 E2 E12 S2 h2 vs rs => ?_⟩
  refine h2 F2 O2 H2 E2 S2 (v :: vs) ?_
  cases r with
  | d r => exact .d (E12.rd S1'.nf (RD.mono (fun _ f => .inl f) (fun _ _ _ e _ => e) _ _ r)) rs
  | o r => exact .d (E12.rd S1'.nf (r.freeze (fun _ f => .inl f) fun _ f => .inr f)) rs
  | b r => exact .b r rs
/-- all of them may be kept -/
def allD : List W → Option (List D)
  | [] => some []
  | .d x :: ws => (allD ws).map (x :: ·)
  | _ :: _ => none
theorem VRs.allD {K : PySem.W.Frag} {F : AP} {H : Hp} {σ : L2.St} {ws : List W} {vs : List V} {ds : List D} (h : VRs K T F H σ ws vs) (e : allD ws = some ds) : RDs K T F H vs ds := by
  induction h generalizing ds with
  | nil => simp [DP.allD] at e; subst e; exact .nil
  | d h _ ih =>
    simp only [DP.allD, Option.map_eq_some_iff] at e
    obtain ⟨r, e, rfl⟩ := e
    exact .cons h (ih e)
  | b h _ _ => simp [DP.allD] at e
def mTup (ms : M (List W)) : M W := bnd ms fun ws st => match allD ws with
  | some ds => if ds.length ≤ 1000 then .ok (.d (.tup ds)) st else .bad
  | none => .bad
def mLst (ms : M (List W)) : M W := bnd ms fun ws st => match allD ws with
  | some ds => if ds.length ≤ 1000 then .ok (.o (.lst ds)) st else .bad
  | none => .bad
theorem line1000 {n : Nat} (h : n ≤ 1000) : n ≤ sizeLine := by rw [sizeLine_eq]; omega
theorem de_tup {es : List Expr} {ms : M (List W)} {x1} (h : DA T X es ms) : DE T X (.Tuple es x1 pos) (mTup ms) := by
  refine ⟨fun Wx tk => PE.weak (pe_tupF (h.pa Wx tk)) fun σ H Q h => ?_⟩
  obtain ⟨F, O, st, S, h⟩ := h
  refine ⟨F, O, st, S, h.bind .refl fun ws st1 F1 O1 H1 E1 _ S1 h1 vs rs => ?_⟩
  split at h1
  · rename_i ds e
    split at h1
    · have r := rs.allD e
      exact ⟨by rw [r.len]; exact line1000 (by assumption), h1.newTup E1 S1 r⟩
    · exact h1.elim
  · exact h1.elim
theorem de_lst {es : List Expr} {ms : M (List W)} (h : DA T X es ms) : DE T X (.List es pos) (mLst ms) := by
  refine ⟨fun Wx tk => PE.weak (pe_lst (h.pa Wx tk)) fun σ H Q h => ?_⟩
  obtain ⟨F, O, st, S, h⟩ := h
  refine ⟨F, O, st, S, h.bind .refl fun ws st1 F1 O1 H1 E1 _ S1 h1 vs rs => ?_⟩
  split at h1
  · rename_i ds e
    split at h1
    · have r := rs.allD e
      exact ⟨by rw [r.len]; exact line1000 (by assumption), fun p hp => h1.newLst E1 S1 r hp⟩
    · exact h1.elim
  · exact h1.elim
/-! ### calls of built-ins -/
def PL (X : Cx) (T : Tb) (f : List W → M W) (r : List V → Hp → VK → Prop) : Prop := ∀ (Wx : WX) (σ : L2.St) (F0 : AP) (O0 : List Addr) (H0 : Hp) (F : AP) (O : List Addr) (H : Hp) (st : St) (ws : List W) (vs : List V) (Q : VK),
  Ext F0 O0 H0 F O H → SRel X.K T F O H σ st → VRs X.K T F H σ ws vs → Post X.K T Wx σ F0 O0 H0 (f ws st) (GE X.K T σ H0 Q) → r vs H Q
theorem run_l {Wx : WX} {σ : L2.St} {H : Hp} {ms : M (List W)} {f : List W → M W} {Q : VK} {r : List V → Hp → VK → Prop} (p : PL X T f r) (h : lift X.K T Wx (bnd ms f) σ H Q) : tCB r (liftA X.K T Wx ms) σ H Q := by
  obtain ⟨F, O, st, S, h⟩ := h
  exact ⟨F, O, st, S, h.bind .refl fun ws st1 F1 O1 H1 E1 _ S1 h1 vs rs => p Wx σ F O H F1 O1 H1 st1 ws vs Q E1 S1 rs h1⟩
theorem de_callB {x : Str} {id : String} {r : List V → Hp → VK → Prop} {f : List W → M W} {e : Expr} {es : List Expr} {ms : M (List W)} {p1 : Pos} (hc : CallR X (.builtin id) r) (p : PL X T f r) (hm : X.mg x = none) (ha : DA T X (e :: es) ms) (hg : Gl X x := by rfl) (hv : bootBuiltins x = some (.builtin id) := by decide +kernel)
    (hn : x ≠ "__name__" := by decide +kernel) (hdb : (x == ("__debug__" : Str)) = false := by decide +kernel) (he : starEach (e :: es) X.env = (false, eval e X.env) :: starEach es X.env := by rfl) (hpl : (backTo pos (starEach es X.env)).any (·.1) = false := by rfl) : DE T X (.Call (.Name x p1) (e :: es) [] pos) (bnd ms f) :=
  ⟨fun Wx tk => PE.weak (pe_callB hc hg hm hv (ha.pa Wx tk) hn hdb he hpl) fun σ H Q h => run_l p h⟩
theorem de_callTy {x : Str} {id : String} {r : List V → Hp → VK → Prop} {f : List W → M W} {e : Expr} {es : List Expr} {ms : M (List W)} {p1 : Pos} (hc : CallR X (.type id) r) (p : PL X T f r) (hm : X.mg x = none) (ha : DA T X (e :: es) ms) (hg : Gl X x := by rfl) (hv : bootBuiltins x = some (.type id) := by decide +kernel)
    (hn : x ≠ "__name__" := by decide +kernel) (hdb : (x == ("__debug__" : Str)) = false := by decide +kernel) (he : starEach (e :: es) X.env = (false, eval e X.env) :: starEach es X.env := by rfl) (hpl : (backTo pos (starEach es X.env)).any (·.1) = false := by rfl) : DE T X (.Call (.Name x p1) (e :: es) [] pos) (bnd ms f) :=
  ⟨fun Wx tk => PE.weak (pe_callTy hc hg hm hv (ha.pa Wx tk) hn hdb he hpl) fun σ H Q h => run_l p h⟩
/-- one argument, read alone -/
def rd1 (g : D → Option D) : List W → M W := fun ws st => match ws with
  | [w] => match rd w st with
    | some a => match g a with
      | some c => .ok (.d c) st
      | none => .bad
    | none => .bad
  | _ => .bad
theorem PL.rd {g : D → Option D} {r : List V → Hp → VK → Prop} (h : ∀ (F : AP) (H : Hp) (v : V) (d c : D) (Q : VK), Vw X.K T F H v d → g d = some c → (∀ u, RD X.K T F H u c → Q u H) → r [v] H Q) : PL X T (rd1 g) r := by
  intro Wx σ F0 O0 H0 F O H st ws vs Q E S rs p
  unfold rd1 at p
  split at p
  · rename_i w
    split at p
    · rename_i a e
      split at p
      · rename_i c ec
        cases rs with
        | d h1 hs => cases hs; exact h F H _ a c Q ((VR.d (σ := σ) h1).vw S.sl e) ec fun v rv => p.oldD E S rv
        | b h1 hs => cases hs; exact h F H _ a c Q ((VR.b (F := F) (H := H) h1).vw S.sl e) ec fun v rv => p.oldD E S rv
      · exact p.elim
    · exact p.elim
  · exact p.elim
def gLen : D → Option D
  | .lst ds => some (.int ds.length)
  | .tup ds => some (.int ds.length)
  | .scr ns => some (.int ns.length)
  | .str x => if x.length ≤ sizeLine then some (.int x.length) else none
  | _ => none
theorem pl_len : PL X T (rd1 gLen) (fun xs H Q => ∃ x n, xs = [x] ∧ LenV X.K x H n ∧ Q (.int n) H) := PL.rd fun F H v d c Q h e q => by
  unfold gLen at e
  split at e
  · simp at e; subst e
    cases h with | lst h hs => exact ⟨_, _, rfl, .inl ⟨_, .inl (.inl h), rfl⟩, by rw [hs.len]; exact q _ (.int _)⟩
  · simp at e; subst e
    cases h with | tup h hs => exact ⟨_, _, rfl, .inr ⟨_, h.sq, rfl⟩, by rw [hs.len]; exact q _ (.int _)⟩
  · simp at e; subst e
    cases h with | scr h => exact ⟨_, _, rfl, .inl ⟨_, h, rfl⟩, by rw [List.length_map]; exact q _ (.int _)⟩
  · split at e
    · simp at e; subst e
      cases h; exact ⟨_, _, rfl, ⟨by assumption, rfl⟩, q _ (.int _)⟩
    · cases e
  · cases e
def gInt : D → Option D
  | .int i => some (.int i)
  | .bl b => some (.int (if b then 1 else 0))
  | _ => none
theorem pl_int : PL X T (rd1 gInt) (fun xs H Q => (∃ i, xs = [.int i] ∧ Q (.int i) H) ∨ ∃ k, xs = [.bl k] ∧ Q (.int (if k then 1 else 0)) H) := PL.rd fun F H v d c Q h e q => by
  unfold gInt at e
  split at e
  · simp at e; subst e; cases h; exact .inl ⟨_, rfl, q _ (.int _)⟩
  · simp at e; subst e; cases h; exact .inr ⟨_, rfl, q _ (.int _)⟩
  · cases e
def gAbs : D → Option D
  | .int i => some (.int (if i < 0 then -i else i))
  | _ => none
theorem pl_abs : PL X T (rd1 gAbs) (fun xs H Q => ∃ i, xs = [.int i] ∧ Q (.int (if i < 0 then -i else i)) H) := PL.rd fun F H v d c Q h e q => by
  unfold gAbs at e
  split at e
  · simp at e; subst e; cases h; exact ⟨_, rfl, q _ (.int _)⟩
  · cases e
def asInts : List D → Option (List Int)
  | [] => some []
  | .int i :: ds => (asInts ds).map (i :: ·)
  | _ :: _ => none
def asBls : List D → Option (List Bool)
  | [] => some []
  | .bl i :: ds => (asBls ds).map (i :: ·)
  | _ :: _ => none
theorem asInts_eq : ∀ {ds : List D} {ns : List Int}, asInts ds = some ns → ds = ns.map D.int
  | [], _, e => by simp [asInts] at e; subst e; rfl
  | d :: ds, _, e => by
    cases d <;> simp [asInts] at e
    obtain ⟨r, e, rfl⟩ := e
    rw [asInts_eq e]; rfl
theorem asBls_eq : ∀ {ds : List D} {ns : List Bool}, asBls ds = some ns → ds = ns.map D.bl
  | [], _, e => by simp [asBls] at e; subst e; rfl
  | d :: ds, _, e => by
    cases d <;> simp [asBls] at e
    obtain ⟨r, e, rfl⟩ := e
    rw [asBls_eq e]; rfl
theorem RDs.of_bls {K : PySem.W.Frag} {F : AP} {H : Hp} {vs : List V} {ns : List Bool} (h : RDs K T F H vs (ns.map D.bl)) : vs = ns.map V.bl := by
  induction ns generalizing vs with
  | nil => cases h; rfl
  | cons n ns ih => cases h with | cons h hs => cases h; rw [ih hs]; rfl
def gSum : D → Option D
  | .lst ds => (asInts ds).map fun ns => .int ns.sum
  | _ => none
theorem pl_sum : PL X T (rd1 gSum) (rSum X.K) := PL.rd fun F H v d c Q h e q => by
  unfold gSum at e
  split at e
  · rename_i ds
    simp only [Option.map_eq_some_iff] at e
    obtain ⟨ns, e, rfl⟩ := e
    cases h with
    | lst h hs =>
      rw [asInts_eq e] at hs
      rw [hs.of_ints] at h
      exact ⟨_, ns, rfl, .inl (.inl h), q _ (.int _)⟩
  · cases e
def gAll : D → Option D
  | .lst ds => (asBls ds).map fun ns => .bl (ns.all id)
  | _ => none
def gAny : D → Option D
  | .lst ds => (asBls ds).map fun ns => .bl (ns.any id)
  | _ => none
theorem pl_all : PL X T (rd1 gAll) (rAll X.K) := PL.rd fun F H v d c Q h e q => by
  unfold gAll at e
  split at e
  · rename_i ds
    simp only [Option.map_eq_some_iff] at e
    obtain ⟨ns, e, rfl⟩ := e
    cases h with
    | lst h hs =>
      rw [asBls_eq e] at hs
      rw [hs.of_bls] at h
      exact ⟨_, ns, rfl, .inl (.inl h), q _ (.bl _)⟩
  · cases e
theorem pl_any : PL X T (rd1 gAny) (rAny X.K) := PL.rd fun F H v d c Q h e q => by
  unfold gAny at e
  split at e
  · rename_i ds
    simp only [Option.map_eq_some_iff] at e
    obtain ⟨ns, e, rfl⟩ := e
    cases h with
    | lst h hs =>
      rw [asBls_eq e] at hs
      rw [hs.of_bls] at h
      exact ⟨_, ns, rfl, .inl (.inl h), q _ (.bl _)⟩
  · cases e
/-- min(a, b), max(a, b) -/
def rdL2 (g : D → D → Option D) : List W → M W := fun ws st => match ws with
  | [w, u] => match rd w st, rd u st with
    | some a, some b => match g a b with
      | some c => .ok (.d c) st
      | none => .bad
    | _, _ => .bad
  | _ => .bad
theorem VRs.vw2 {K : PySem.W.Frag} {F : AP} {H : Hp} {O : List Addr} {σ : L2.St} {st : St} {w u : W} {vs : List V} {a b : D} (rs : VRs K T F H σ [w, u] vs) (S : SL K T F H σ st O) (e1 : rd w st = some a) (e2 : rd u st = some b) : ∃ v1 v2, vs = [v1, v2] ∧ Vw K T F H v1 a ∧ Vw K T F H v2 b := by
  have one : ∀ {w : W} {v : V} {a : D}, VRs K T F H σ [w] [v] → rd w st = some a → Vw K T F H v a := fun r e => r.vw S e
  cases rs with
  | d h1 hs =>
    cases hs with
    | d h2 hs => cases hs; exact ⟨_, _, rfl, one (.d h1 .nil) e1, one (.d h2 .nil) e2⟩
    | b h2 hs => cases hs; exact ⟨_, _, rfl, one (.d h1 .nil) e1, one (.b h2 .nil) e2⟩
  | b h1 hs =>
    cases hs with
    | d h2 hs => cases hs; exact ⟨_, _, rfl, one (.b h1 .nil) e1, one (.d h2 .nil) e2⟩
    | b h2 hs => cases hs; exact ⟨_, _, rfl, one (.b h1 .nil) e1, one (.b h2 .nil) e2⟩
theorem PL.rd2 {g : D → D → Option D} {r : List V → Hp → VK → Prop} (h : ∀ (F : AP) (H : Hp) (v1 v2 : V) (d1 d2 c : D) (Q : VK), Vw X.K T F H v1 d1 → Vw X.K T F H v2 d2 → g d1 d2 = some c → (∀ u, RD X.K T F H u c → Q u H) → r [v1, v2] H Q) : PL X T (rdL2 g) r := by
  intro Wx σ F0 O0 H0 F O H st ws vs Q E S rs p
  unfold rdL2 at p
  split at p
  · rename_i w u
    split at p
    · rename_i a b e1 e2
      split at p
      · rename_i c ec
        obtain ⟨v1, v2, rfl, h1, h2⟩ := rs.vw2 S.sl e1 e2
        exact h F H v1 v2 a b c Q h1 h2 ec fun v rv => p.oldD E S rv
      · exact p.elim
    · exact p.elim
  · exact p.elim
theorem pl_max2 : PL X T (rdL2 (gI fun i j => .int (if j > i then j else i))) (fun xs H Q => ∃ i j, xs = [.int i, .int j] ∧ Q (.int (if j > i then j else i)) H) := PL.rd2 fun F H v1 v2 d1 d2 c Q h1 h2 e q => by
  unfold gI at e
  split at e
  · simp only [Option.some.injEq] at e; subst e; cases h1; cases h2; exact ⟨_, _, rfl, q _ (.int _)⟩
  · cases e
theorem pl_min2 : PL X T (rdL2 (gI fun i j => .int (if j < i then j else i))) (fun xs H Q => ∃ i j, xs = [.int i, .int j] ∧ Q (.int (if j < i then j else i)) H) := PL.rd2 fun F H v1 v2 d1 d2 c Q h1 h2 e q => by
  unfold gI at e
  split at e
  · simp only [Option.some.injEq] at e; subst e; cases h1; cases h2; exact ⟨_, _, rfl, q _ (.int _)⟩
  · cases e
/-- tuple(xs) -/
def fTupOf : List W → M W := fun ws st => match ws with
  | [w] => match rd w st with
    | some (.lst ds) => .ok (.d (.tup ds)) st
    | some (.tup ds) => .ok (.d (.tup ds)) st
    | _ => .bad
  | _ => .bad
theorem pl_tupOf : PL X T fTupOf (fun xs H Q => ∃ p ys, xs = [.ref p] ∧ ((SqL X.K H p ys ∧ kT H ys Q) ∨ (SqT X.K H p ys ∧ Q (.ref p) H))) := by
  intro Wx σ F0 O0 H0 F O H st ws vs Q E S rs p
  have one : ∀ {w : W} {v : V} {a : D}, VRs X.K T F H σ [w] [v] → rd w st = some a → Vw X.K T F H v a := fun r e => r.vw S.sl e
  unfold fTupOf at p
  split at p
  · rename_i w
    obtain ⟨v, rfl⟩ : ∃ v, vs = [v] := by cases rs with | d _ hs => cases hs; exact ⟨_, rfl⟩ | b _ hs => cases hs; exact ⟨_, rfl⟩
    split at p
    · rename_i ds e
      cases one rs e with
      | lst h hs => exact ⟨_, _, rfl, .inl ⟨.inl (.inl h), p.newTup E S hs⟩⟩
    · rename_i ds e
      cases one rs e with
      | tup h hs => exact ⟨_, _, rfl, .inr ⟨h.sq, p.oldD E S (.tup h hs)⟩⟩
    · exact p.elim
  · exact p.elim
/-- list(xs) -/
def fLstOf : List W → M W := fun ws st => match ws with
  | [w] => match rd w st with
    | some (.lst ds) => .ok (.o (.lst ds)) st
    | some (.tup ds) => .ok (.o (.lst ds)) st
    | _ => .bad
  | _ => .bad
theorem pl_lstOf : PL X T fLstOf (fun xs H Q => ∃ p ys, xs = [.ref p] ∧ (SqL X.K H p ys ∨ SqT X.K H p ys) ∧ ∀ l, H l = none → Q (.ref l) (upd H l (.lst ys))) := by
  intro Wx σ F0 O0 H0 F O H st ws vs Q E S rs p
  have one : ∀ {w : W} {v : V} {a : D}, VRs X.K T F H σ [w] [v] → rd w st = some a → Vw X.K T F H v a := fun r e => r.vw S.sl e
  unfold fLstOf at p
  split at p
  · rename_i w
    obtain ⟨v, rfl⟩ : ∃ v, vs = [v] := by cases rs with | d _ hs => cases hs; exact ⟨_, rfl⟩ | b _ hs => cases hs; exact ⟨_, rfl⟩
    split at p
    · rename_i ds e
      cases one rs e with
      | lst h hs => exact ⟨_, _, rfl, .inl (.inl (.inl h)), fun q hq => p.newLst E S hs hq⟩
    · rename_i ds e
      cases one rs e with
      | tup h hs => exact ⟨_, _, rfl, .inr h.sq, fun q hq => p.newLst E S hs hq⟩
    · exact p.elim
  · exact p.elim
end
end DP
end
section
set_option Elab.async false
set_option linter.all false
set_option maxRecDepth 100000
set_option maxHeartbeats 4000000
/-! DP4: attributes, subscripts, slices, methods of built-ins, isinstance. -/
namespace DP
open PySem PySem.Spec PyProof.Rows L2
/-! ### names of attributes -/
theorem ofString_inj {a b : String} (h : Str.ofString a = Str.ofString b) : a = b := by
  rw [Str.ofString_eq_toList, Str.ofString_eq_toList] at h
  have e : a.toList.map Char.toNat = b.toList.map Char.toNat := by
    have := congrArg (fun s : Str => s.cps.toList) h
    simpa using this
  have inj : ∀ c d : Char, c.toNat = d.toNat → c = d := fun c d e => Char.ext (UInt32.toNat_inj.mp e)
  have : a.toList = b.toList := List.map_inj_right inj |>.mp e
  exact String.ext this
def fldD (f : String) : List (String × D) → Option D
  | [] => none
  | (g, d) :: r => if g = f then some d else fldD f r
def putD (f : String) (d : D) : List (String × D) → List (String × D)
  | [] => [(f, d)]
  | (g, x) :: r => if g = f then (g, d) :: r else (g, x) :: putD f d r
section
variable {K : PySem.W.Frag} {T : Tb} {F : AP} {H : Hp}
theorem RFs.look {vs : List (Str × V)} {fs : List (String × D)} {f : String} {d : D} (h : RFs K T F H vs fs) (e : fldD f fs = some d) : ∃ v, vs.lookup (Str.ofString f) = some v ∧ RD K T F H v d := by
  induction fs generalizing vs with
  | nil => simp [fldD] at e
  | cons p r ih =>
    obtain ⟨g, x⟩ := p
    cases h with
    | cons h hs =>
      rename_i v vs
      simp only [fldD] at e
      by_cases hg : g = f
      · subst hg
        simp at e
        subst e
        exact ⟨v, by simp [List.lookup], h⟩
      · rw [if_neg hg] at e
        obtain ⟨v2, h1, h2⟩ := ih hs e
        refine ⟨v2, ?_, h2⟩
        have : (Str.ofString f == Str.ofString g) = false := beq_eq_false_iff_ne.mpr fun z => hg (ofString_inj z.symm)
        simp [List.lookup, this, h1]
theorem RFs.none {vs : List (Str × V)} {fs : List (String × D)} {f : String} (h : RFs K T F H vs fs) (e : fldD f fs = none) : vs.lookup (Str.ofString f) = none := by
  induction fs generalizing vs with
  | nil => cases h; rfl
  | cons p r ih =>
    obtain ⟨g, x⟩ := p
    cases h with
    | cons h hs =>
      simp only [fldD] at e
      by_cases hg : g = f
      · rw [if_pos hg] at e; cases e
      · rw [if_neg hg] at e
        have : (Str.ofString f == Str.ofString g) = false := beq_eq_false_iff_ne.mpr fun z => hg (ofString_inj z.symm)
        simp [List.lookup, this, ih hs e]
theorem RFs.put {vs : List (Str × V)} {fs : List (String × D)} {f : String} {v : V} {d : D} (h : RFs K T F H vs fs) (r : RD K T F H v d) : RFs K T F H (putF (Str.ofString f) v vs) (putD f d fs) := by
  induction fs generalizing vs with
  | nil => cases h; exact .cons r .nil
  | cons p q ih =>
    obtain ⟨g, x⟩ := p
    cases h with
    | cons h hs =>
      simp only [putF, putD]
      by_cases hg : g = f
      · subst hg; rw [if_pos rfl, if_pos rfl]; exact .cons r hs
      · rw [if_neg hg, if_neg (fun z => hg (ofString_inj z))]; exact .cons h (ih hs)
theorem RFs.len {vs : List (Str × V)} {fs : List (String × D)} (h : RFs K T F H vs fs) : vs.length = fs.length := by
  induction fs generalizing vs with
  | nil => cases h; rfl
  | cons p q ih => cases h with | cons h hs => simp [ih hs]
end
/-- the attribute f of instances of the classes cs is a plain one -/
def FldOk (X : Cx) (T : Tb) (cs : List String) (f : String) : Prop := ∀ c ∈ cs, ∀ C, T.cls c = some C → Cls X.K C ∧ NoAttr X.K C (Str.ofString f)
def mFld (cs : List String) (f : String) (m : M W) : M W := bnd m fun w st => match rd w st with
  | some (.ins c fs) => if c ∈ cs then match fldD f fs with
    | some d => .ok (.d d) st
    | none => .bad
    else .bad
  | _ => .bad
section
variable {X : Cx} {T : Tb} {pos : Pos}
theorem de_fld {e : Expr} {cs : List String} {f : String} {m : M W} (h : DE T X e m) (hf : FldOk X T cs f) (hb : attributeBase e (Str.ofString f) X.env (eval e X.env) = eval e X.env := by rfl) : DE T X (.Attribute e (Str.ofString f) pos) (mFld cs f m) := by
  refine ⟨fun Wx tk => PE.weak (pe_fld (h.pe Wx tk) hb) fun σ H Q h => ?_⟩
  obtain ⟨F, O, st, S, h⟩ := h
  refine ⟨F, O, st, S, h.bind .refl fun w st1 F1 O1 H1 E1 _ S1 h1 v own r ok => ?_⟩
  split at h1
  · rename_i c fs e
    split at h1
    · rename_i hc
      split at h1
      · rename_i d ed
        cases r.vw S1.sl e with
        | ins hC ha hs =>
          obtain ⟨v, l, rv⟩ := hs.look ed
          obtain ⟨q1, q2⟩ := hf c hc _ hC
          exact ⟨_, _, _, _, v, rfl, ha, q1, q2, l, h1.oldD E1 S1 rv⟩
      · exact h1.elim
    · exact h1.elim
  · exact h1.elim
/-! ### subscripts -/
def gIx : D → D → Option D
  | .lst ds, .int i => atI ds i
  | .tup ds, .int i => atI ds i
  | .scr ns, .int i => (atI ns i).map .int
  | .str z, .int i => if z.length ≤ sizeLine then (atI z.cps.toList i).map fun c => .str ⟨#[c]⟩ else none
  | _, _ => none
theorem RDs.atI {K : PySem.W.Frag} {F : AP} {H : Hp} {vs : List V} {ds : List D} {i : Int} {d : D} (h : RDs K T F H vs ds) (e : L2.atI ds i = some d) : ∃ v, L2.atI vs i = some v ∧ RD K T F H v d := by
  unfold L2.atI at e ⊢
  rw [h.len]
  cases e1 : ixN ds.length i with
  | none => rw [e1] at e; cases e
  | some j =>
    rw [e1] at e
    exact h.get e
theorem p_ix : P2 X T (rd2 gIx) (rIx X.K) := P2.rd fun F H v1 v2 d1 d2 c Q h1 h2 e q => by
  unfold gIx at e
  split at e
  · cases h2; cases h1 with
    | lst h hs => obtain ⟨v, l, r⟩ := hs.atI e; exact .inl ⟨_, _, _, v, rfl, rfl, .inl (.inl h), l, q v r⟩
  · cases h2; cases h1 with
    | tup h hs => obtain ⟨v, l, r⟩ := hs.atI e; exact .inr (.inl ⟨_, _, _, v, rfl, rfl, h.sq, l, q v r⟩)
  · cases h2; cases h1 with
    | scr h =>
      simp only [Option.map_eq_some_iff] at e
      obtain ⟨n, e, rfl⟩ := e
      refine .inl ⟨_, _, _, .int n, rfl, rfl, h, ?_, q _ (.int n)⟩
      unfold L2.atI at e ⊢
      rw [List.length_map]
      cases e1 : ixN _ _ with
      | none => rw [e1] at e; cases e
      | some j => rw [e1] at e; rw [Option.bind_some] at e ⊢; rw [List.getElem?_map, e]; rfl
  · split at e
    · simp only [Option.map_eq_some_iff] at e
      obtain ⟨n, e, rfl⟩ := e
      cases h1; cases h2
      exact .inr (.inr ⟨_, _, _, rfl, rfl, by assumption, e, q _ (.str _)⟩)
    · cases e
  · cases e
theorem de_ix {a b : Expr} {ma mb : M W} (ha : DE T X a ma) (hb : DE T X b mb) (hs : PlainIx b := by exact fun _ _ => rfl) : DE T X (.Subscript a b pos) (m2 (rd2 gIx) ma mb) :=
  ⟨fun Wx tk => PE.weak (pe_ix ix_seq (ha.pe Wx tk) (hb.pe Wx tk) hs) fun σ H Q h => run2 p_ix h⟩
/-! ### slices -/
def cutG {α : Type} (xs : List α) (lo hi : Option Int) : List α := (xs.drop (HT.sIx xs.length 0 lo)).take (HT.sIx xs.length xs.length hi - HT.sIx xs.length 0 lo)
theorem RDs.cut {K : PySem.W.Frag} {F : AP} {H : Hp} {vs : List V} {ds : List D} {lo hi : Option Int} (h : RDs K T F H vs ds) : RDs K T F H (cutV vs lo hi) (cutG ds lo hi) := by
  unfold cutV cutG
  rw [h.len]
  exact (h.drop _).take _
def liftO (K : PySem.W.Frag) (T : Tb) (Wx : WX) (m : M (Option Int)) : TO := fun σ H Q => ∃ F O st, SRel K T F O H σ st ∧ Post K T Wx σ F O H (m st) fun o _ _ _ H' => Q o H'
structure DO (T : Tb) (X : Cx) (e : Option Expr) (m : M (Option Int)) : Prop where
  po : ∀ Wx, Takes X Wx → ∃ t, PO X e t ∧ ∀ σ H Q, liftO X.K T Wx m σ H Q → t σ H Q
def oNone : M (Option Int) := ret none
def oSome (m : M W) : M (Option Int) := bnd m fun w st => match rd w st with
  | some (.int i) => .ok (some i) st
  | _ => .bad
theorem do_none : DO T X none oNone := ⟨fun Wx tk => ⟨_, po_none, fun σ H Q ⟨F, O, st, S, h⟩ => h F O H .refl S⟩⟩
theorem do_some {e : Expr} {m : M W} (h : DE T X e m) : DO T X (some e) (oSome m) := by
  refine ⟨fun Wx tk => ⟨_, po_some (h.pe Wx tk), fun σ H Q ⟨F, O, st, S, h⟩ => ?_⟩⟩
  refine ⟨F, O, st, S, h.bind .refl fun w st1 F1 O1 H1 E1 _ S1 h1 v own r ok => ?_⟩
  split at h1
  · rename_i i e
    cases r.vw S1.sl e
    exact ⟨i, rfl, h1 F1 O1 H1 E1 S1⟩
  · exact h1.elim
def fSl (w : W) (lo hi : Option Int) : M W := fun st => match rd w st with
  | some (.lst ds) => .ok (.o (.lst (cutG ds lo hi))) st
  | some (.tup ds) => .ok (.d (.tup (cutG ds lo hi))) st
  | some (.str z) => if z.length ≤ sizeLine then .ok (.d (.str (cutS z lo hi))) st else .bad
  | _ => .bad
def mSl (m : M W) (ml mh : M (Option Int)) : M W := bnd m fun w => bnd ml fun lo => bnd mh fun hi => fSl w lo hi
def rSlAll (K : PySem.W.Frag) : V → Option Int → Option Int → Hp → VK → Prop := fun x lo hi H Q => rSlL K x lo hi H Q ∨ rSlF K x lo hi H Q ∨ rSlS x lo hi H Q
theorem cutG_whole {α : Type} {xs : List α} {lo hi : Option Int} (h : HT.sIx xs.length 0 lo = 0 ∧ HT.sIx xs.length xs.length hi = xs.length) : cutG xs lo hi = xs := by
  unfold cutG; rw [h.1, h.2]; simp
theorem de_sl {e : Expr} {lo hi : Option Expr} {p2 : Pos} {m : M W} {ml mh : M (Option Int)} (he : DE T X e m) (hl : DO T X lo ml) (hh : DO T X hi mh) : DE T X (.Subscript e (.Slice lo hi none p2) pos) (mSl m ml mh) := by
  refine ⟨fun Wx tk => ?_⟩
  obtain ⟨tl, pl, wl⟩ := hl.po Wx tk
  obtain ⟨th, ph, wh⟩ := hh.po Wx tk
  refine PE.weak (pe_slice (r := rSlAll X.K) (sl_list.or (sl_tupF.or sl_str)) (he.pe Wx tk) pl ph) fun σ H Q h => ?_
  obtain ⟨F, O, st, S, h⟩ := h
  refine ⟨F, O, st, S, h.bind .refl fun w1 st1 F1 O1 H1 E1 _ S1 h1 v1 own1 r1 ok1 => wl _ _ _ ⟨F1, O1, st1, S1, h1.bind E1 fun a st2 F2 O2 H2 E2 E12 S2 h2 => wh _ _ _ ⟨F2, O2, st2, S2, h2.bind E2 fun b st3 F3 O3 H3 E3 E23 S3 h3 => ?_⟩⟩⟩
  obtain ⟨r3, ok3⟩ := r1.ext ok1 S1.nf (E12.trans E23)
  unfold fSl at h3
  split at h3
  · rename_i ds e
    cases r3.vw S3.sl e with
    | lst ha hs => exact .inl ⟨_, _, rfl, .inl (.inl ha), fun p hp => h3.newLst E3 S3 hs.cut hp⟩
  · rename_i ds e
    cases r3.vw S3.sl e with
    | tup ha hs =>
      refine .inr (.inl ⟨_, _, rfl, ha.sq, fun hw => ?_, fun _ => h3.newTup E3 S3 hs.cut⟩)
      rw [hs.len] at hw
      rw [cutG_whole hw] at h3
      exact h3.oldD E3 S3 (.tup ha hs)
  · rename_i z e
    cases r3.vw S3.sl e
    split at h3
    · exact .inr (.inr ⟨z, rfl, by assumption, h3.oldD E3 S3 (.str _)⟩)
    · exact h3.elim
  · exact h3.elim
/-- xs[::-1] of a list -/
def mRev (m : M W) : M W := bnd m fun w st => match rd w st with
  | some (.lst ds) => .ok (.o (.lst ds.reverse)) st
  | _ => .bad
theorem RDs.rev {K : PySem.W.Frag} {F : AP} {H : Hp} {vs : List V} {ds : List D} (h : RDs K T F H vs ds) : RDs K T F H vs.reverse ds.reverse := by
  induction ds generalizing vs with
  | nil => cases h; exact .nil
  | cons d ds ih => cases h with | cons h hs => rw [List.reverse_cons, List.reverse_cons]; exact (ih hs).app (.cons h .nil)
theorem de_rev {e : Expr} {k : Nat} {p1 p2 p3 : Pos} {m : M W} (he : DE T X e m) : DE T X (.Subscript e (.Slice none none (some (.UnaryOp .USub (.Constant (.int 1) k p1) p2)) p3) pos) (mRev m) := by
  refine ⟨fun Wx tk => PE.weak (pe_revL (he.pe Wx tk)) fun σ H Q h => ?_⟩
  obtain ⟨F, O, st, S, h⟩ := h
  refine ⟨F, O, st, S, h.bind .refl fun w st1 F1 O1 H1 E1 _ S1 h1 v own r ok => ?_⟩
  split at h1
  · rename_i ds e
    cases r.vw S1.sl e with
    | lst ha hs => exact ⟨_, _, rfl, .inl (.inl ha), fun p hp => h1.newLst E1 S1 hs.rev hp⟩
  · exact h1.elim
/-- -a -/
def mNeg (m : M W) : M W := bnd m fun w st => match rd w st with
  | some (.int i) => .ok (.d (.int (-i))) st
  | _ => .bad
theorem de_neg {e : Expr} {m : M W} (he : DE T X e m) : DE T X (.UnaryOp .USub e pos) (mNeg m) := by
  refine ⟨fun Wx tk => PE.weak (pe_un un_neg (he.pe Wx tk)) fun σ H Q h => ?_⟩
  obtain ⟨F, O, st, S, h⟩ := h
  refine ⟨F, O, st, S, h.bind .refl fun w st1 F1 O1 H1 E1 _ S1 h1 v own r ok => ?_⟩
  split at h1
  · rename_i i e
    cases r.vw S1.sl e
    exact ⟨i, rfl, h1.oldD E1 S1 (.int _)⟩
  · exact h1.elim
/-! ### isinstance -/
def tyN : D → Option String
  | .non => some "NoneType"
  | .bl _ => some "bool"
  | .int _ => some "int"
  | .str _ => some "str"
  | .tup _ => some "tuple"
  | .lst _ => some "list"
  | .dic _ => some "dict"
  | _ => none
def tyM (t n : String) : Bool := t == n || (t == "bool" && n == "int")
def knownT : List String := ["NoneType", "bool", "int", "str", "tuple", "list", "dict"]
def knownC : List String := ["int", "str", "bool", "tuple", "list", "dict"]
theorem kit_all : ∀ t ∈ knownT, ∀ n ∈ knownC, kitB t n = some (tyM t n) := by decide +kernel
theorem tyN_known {d : D} {t : String} (h : tyN d = some t) : t ∈ knownT := by
  cases d <;> simp [tyN] at h <;> subst h <;> decide
theorem Vw.tyX {K : PySem.W.Frag} {F : AP} {H : Hp} {v : V} {d : D} {t : String} (h : Vw K T F H v d) (e : tyN d = some t) : TyX K H v (.type t) := by
  cases h with
  | non => simp [tyN] at e; subst e; exact .base .non
  | bl b => simp [tyN] at e; subst e; exact .base (.bl b)
  | int b => simp [tyN] at e; subst e; exact .base (.int b)
  | str b => simp [tyN] at e; subst e; exact .base (.str b)
  | tup h hs =>
    simp [tyN] at e; subst e
    rcases h with ⟨_, o, _, h⟩ | ⟨o, its, n, h1, h2, _⟩
    · exact .fTuple h
    · exact .kTuple h1 h2
  | lst h hs => simp [tyN] at e; subst e; exact .base (.lst h)
  | dic h hs =>
    simp [tyN] at e; subst e
    rcases h with h | ⟨o, h⟩
    · exact .base (.dK h)
    · exact .fDict h
  | ty n => simp [tyN] at e
  | fn h => simp [tyN] at e
  | cls h => simp [tyN] at e
  | ins hc h hs => simp [tyN] at e
  | scr h => simp [tyN] at e
def gIsi (d c : D) : Option D := match c with
  | .ty n => if n ∈ knownC then (tyN d).map fun t => .bl (tyM t n) else none
  | _ => none
theorem pl_isi : PL X T (rdL2 gIsi) (rIsi X.K) := PL.rd2 fun F H v1 v2 d1 d2 c Q h1 h2 e q => by
  unfold gIsi at e
  split at e
  · rename_i n
    split at e
    · rename_i hn
      simp only [Option.map_eq_some_iff] at e
      obtain ⟨t, e, rfl⟩ := e
      cases h2
      exact ⟨v1, _, _, _, _, rfl, .ty n, h1.tyX e, kit_ty (kit_all t (tyN_known e) n hn), q _ (.bl _)⟩
    · cases e
  · cases e
/-- isinstance(x, (T1, T2, ..)) -/
def tysOf : List D → Option (List String)
  | [] => some []
  | .ty n :: ds => if n ∈ knownC then (tysOf ds).map (n :: ·) else none
  | _ :: _ => none
def gIsiT (d c : D) : Option D := match c with
  | .tup ds => match tyN d, tysOf ds with
    | some t, some ns => some (.bl (ns.any fun n => tyM t n))
    | _, _ => none
  | _ => none
def rIsiS (K : PySem.W.Frag) : List V → Hp → VK → Prop := fun xs H Q => ∃ (x : V) (tp : Addr) (cs : List V) (t : Value) (us : List Value) (b : Bool), xs = [x, .ref tp] ∧ SqT K H tp cs ∧ Paired ClsV cs us ∧ TyX K H x t ∧ PySem.W.kitAny K t us = some b ∧ Q (.bl b) H
theorem call_isiS : CallR X (.builtin "isinstance") (rIsiS X.K) := by
  intro pins s σ H xs us Q I r h
  obtain ⟨x, tp, cs, t, ws, b, rfl, hT, k, ty, e, q⟩ := h
  obtain ⟨u1, u2, rfl, r1, r2⟩ := vals2 r
  cases (show u2 = Value.ref tp from r2)
  obtain ⟨P, Z, p, hx⟩ := kit_of I r1 ty
  obtain ⟨its, rv, ⟨o, h1, h2, n, h3⟩, _⟩ := I.tuple hT
  have e3 := ClsV.all k rv
  subst e3
  obtain ⟨oc, od, dt, sl⟩ := o
  simp only at h2 h3
  subst h2 h3
  exact PySem.W.kia_tup Z I.kIn p h1 e hx fun tk => ⟨.bl b, H, I.tok tk, rfl, q⟩
theorem tys_paired {K : PySem.W.Frag} {F : AP} {H : Hp} : ∀ {ds : List D} {vs : List V} {ns : List String}, RDs K T F H vs ds → tysOf ds = some ns → Paired ClsV vs (ns.map Value.type) ∧ ∀ n ∈ ns, n ∈ knownC
  | [], _, _, h, e => by cases h; simp [tysOf] at e; subst e; exact ⟨.nil, by simp⟩
  | d :: ds, _, _, h, e => by
    cases h with
    | cons h hs =>
      cases d <;> simp [tysOf] at e
      rename_i n
      obtain ⟨hn, r, e, rfl⟩ := e
      obtain ⟨q1, q2⟩ := tys_paired hs e
      cases h
      exact ⟨.cons (.ty n) q1, by simpa using ⟨hn, q2⟩⟩
theorem kitAny_of {K : PySem.W.Frag} {t : String} (ht : t ∈ knownT) : ∀ {ns : List String}, (∀ n ∈ ns, n ∈ knownC) → PySem.W.kitAny K (.type t) (ns.map Value.type) = some (ns.any fun n => tyM t n)
  | [], _ => kitAny_nil
  | n :: ns, h => kitAny_cons (kit_ty (kit_all t ht n (h n (by simp)))) (fun hb => by rw [kitAny_of ht fun m hm => h m (by simp [hm])]; simp [hb]) fun hb => by simp [hb]
theorem pl_isiT : PL X T (rdL2 gIsiT) (rIsiS X.K) := PL.rd2 fun F H v1 v2 d1 d2 c Q h1 h2 e q => by
  unfold gIsiT at e
  split at e
  · rename_i ds
    split at e
    · rename_i t ns et en
      simp at e; subst e
      cases h2 with
      | tup h hs =>
        obtain ⟨q1, q2⟩ := tys_paired hs en
        exact ⟨v1, _, _, _, _, _, rfl, h.sq, q1, h1.tyX et, kitAny_of (tyN_known et) q2, q _ (.bl _)⟩
    · cases e
  · cases e
/-! ### index -/
def idxP (x : D) (ds : List D) : Option Nat := match toP x, toPs ds with
  | some p, some ps => if SeqAt.shaped p && SeqAt.shaped (.list ps) && decide (p.depth ≤ 60) then ps.findIdx? (fun y => PyData.eqv y p) else none
  | _, _ => none
theorem idxP_of {x : D} {ds : List D} {j : Nat} (h : idxP x ds = some j) : ∃ p ps, toP x = some p ∧ toPs ds = some ps ∧ SeqAt.shaped p = true ∧ SeqAt.shaped (.list ps) = true ∧ p.depth ≤ 60 ∧ ∃ z, ps[j]? = some z ∧ PyData.eqv z p = true ∧ ∀ m z', m < j → ps[m]? = some z' → PyData.eqv z' p = false := by
  unfold idxP at h
  split at h
  · rename_i p ps e1 e2
    split at h
    · rename_i hs
      simp at hs
      refine ⟨p, ps, e1, e2, hs.1.1, hs.1.2, hs.2, ?_⟩
      rw [List.findIdx?_eq_some_iff_getElem] at h
      obtain ⟨hj, h1, h2⟩ := h
      refine ⟨ps[j], by simp [hj], h1, fun m z' hm hz => ?_⟩
      have := h2 m hm
      obtain ⟨hl, rfl⟩ := List.getElem?_eq_some_iff.mp hz
      simpa using this
    · cases h
  · cases h
/-- the tail of index: the argument, then the place -/
def idxEnd (ds : List D) (ws : List W) : M W := fun st => match ws with
  | [u] => match rd u st with
    | some x => match idxP x ds with
      | some j => .ok (.d (.int (j : Nat))) st
      | none => .bad
    | none => .bad
  | _ => .bad
def mIdxT (mo : M W) (ms : M (List W)) : M W := bnd mo fun w st => match w with
  | .d (.tup ds) => bnd ms (idxEnd ds) st
  | _ => .bad
def mIdxL (mo : M W) (ms : M (List W)) : M W := bnd mo fun w st => match rd w st with
  | some (.lst _) => bnd ms (fun ws st2 => match rd w st2 with
    | some (.lst ds) => idxEnd ds ws st2
    | _ => .bad) st
  | _ => .bad
theorem VRs.vw1 {K : PySem.W.Frag} {F : AP} {H : Hp} {O : List Addr} {σ : L2.St} {st : St} {w : W} {vs : List V} {a : D} (rs : VRs K T F H σ [w] vs) (S : SL K T F H σ st O) (e1 : rd w st = some a) : ∃ v1, vs = [v1] ∧ Vw K T F H v1 a := by
  cases rs with
  | d h1 hs => cases hs; exact ⟨_, rfl, VRs.vw (.d h1 .nil) S e1⟩
  | b h1 hs => cases hs; exact ⟨_, rfl, VRs.vw (.b h1 .nil) S e1⟩
theorem idxEnd_of {K : PySem.W.Frag} {Wx : WX} {σ : L2.St} {F : AP} {O : List Addr} {H : Hp} {ds : List D} {ws : List W} {st : St} {G : W → St → AP → List Addr → Hp → Prop} (h : Post K T Wx σ F O H (idxEnd ds ws st) G) :
    ∃ j u x, ws = [u] ∧ rd u st = some x ∧ idxP x ds = some j ∧ Post K T Wx σ F O H (.ok (W.d (.int (j : Nat))) st) G := by
  unfold idxEnd at h
  split at h
  · rename_i u
    split at h
    · rename_i x e2
      split at h
      · rename_i j ej
        exact ⟨j, u, x, rfl, e2, ej, h⟩
      · exact h.elim
    · exact h.elim
  · exact h.elim
theorem de_idxT {o e : Expr} {es : List Expr} {mo : M W} {ms : M (List W)} {apos cpos : Pos} {k : Nat} (hr : Room k X.A) (ho : DE T X o mo) (ha : DA T X (e :: es) ms) (hbase : attributeBase o ("index" : Str) X.env (eval o X.env) = eval o X.env := by rfl)
    (hfew : ((backTo cpos (starEach (e :: es) X.env)).all (fun x => !x.1) && (backToKw cpos (keywordEach [] X.env)).all (fun x => x.1.isSome)
      && decide ((e :: es).length + ([] : List Keyword).length + (if ([] : List Keyword).isEmpty then 0 else 1) < 30)) = true := by rfl)
    (hline : (apos.endLine == cpos.line) = true := by rfl) (hs : starEach (e :: es) X.env = (false, eval e X.env) :: starEach es X.env := by rfl) (hplain : (backTo cpos (starEach es X.env)).any (·.1) = false := by rfl) :
    DE T X (.Call (.Attribute o ("index" : Str) apos) (e :: es) [] cpos) (mIdxT mo ms) := by
  refine ⟨fun Wx tk => PE.weak (pe_tm PySem.F.slot_tuple_index PySem.F.type_tuple_index (mt_indexP hr.units) (ho.pe Wx tk) (ha.pa Wx tk) hbase hfew hline hs hplain) fun σ H Q h => ?_⟩
  obtain ⟨F, O, st, S, h⟩ := h
  refine ⟨F, O, st, S, h.bind .refl fun w1 st1 F1 O1 H1 E1 _ S1 h1 v1 own1 r1 ok1 => ?_⟩
  split at h1
  · rename_i ds
    cases r1 with
    | d r1 =>
      cases r1 with
      | tup ht hs1 =>
        refine ⟨_, rfl, ht.tm, F1, O1, st1, S1, h1.bind E1 fun ws st2 F2 O2 H2 E2 E12 S2 h2 vs rs => ?_⟩
        obtain ⟨j, u, x, rfl, e2, ej, h2⟩ := idxEnd_of h2
        obtain ⟨v2, rfl, rv⟩ := rs.vw1 S2.sl e2
        obtain ⟨p, ps, q1, q2, q3, q4, q5, z, q6, q7, q8⟩ := idxP_of ej
        have R2 := E12.rd S1.nf (RD.tup ht hs1)
        have D2 := RD.dp _ _ _ R2 (show toP (.tup _) = some (.tuple ps) by simp [toP, q2])
        exact ⟨v2, p, ps, j, z, rfl, D2, rv.dp q1, SeqAt.canLay_of_shaped q4, SeqAt.canLay_of_shaped q3, q5, q6, q7, q8, h2.oldD E2 S2 (.int _)⟩
  · exact h1.elim
theorem de_idxL {o e : Expr} {es : List Expr} {mo : M W} {ms : M (List W)} {apos cpos : Pos} {k : Nat} (hr : Room k X.A) (ho : DE T X o mo) (ha : DA T X (e :: es) ms) (hbase : attributeBase o ("index" : Str) X.env (eval o X.env) = eval o X.env := by rfl)
    (hfew : ((backTo cpos (starEach (e :: es) X.env)).all (fun x => !x.1) && (backToKw cpos (keywordEach [] X.env)).all (fun x => x.1.isSome)
      && decide ((e :: es).length + ([] : List Keyword).length + (if ([] : List Keyword).isEmpty then 0 else 1) < 30)) = true := by rfl)
    (hline : (apos.endLine == cpos.line) = true := by rfl) (hs : starEach (e :: es) X.env = (false, eval e X.env) :: starEach es X.env := by rfl) (hplain : (backTo cpos (starEach es X.env)).any (·.1) = false := by rfl) :
    DE T X (.Call (.Attribute o ("index" : Str) apos) (e :: es) [] cpos) (mIdxL mo ms) := by
  have hu : X.A.units + 65 < cLine := by have := hr.un; omega
  refine ⟨fun Wx tk => PE.weak (pe_bm PySem.F.plainAttrs_list PySem.F.slot_list_index PySem.F.type_list_index (mt_indexD hu) (ho.pe Wx tk) (ha.pa Wx tk) hbase hfew hline hs hplain) fun σ H Q h => ?_⟩
  obtain ⟨F, O, st, S, h⟩ := h
  refine ⟨F, O, st, S, h.bind .refl fun w1 st1 F1 O1 H1 E1 _ S1 h1 v1 own1 r1 ok1 => ?_⟩
  split at h1
  · rename_i ds0 e0
    refine ⟨?_, F1, O1, st1, S1, h1.bind E1 fun ws st2 F2 O2 H2 E2 E12 S2 h2 vs rs => ?_⟩
    · cases r1.vw S1.sl e0 with
      | lst ha hs => exact .inl ⟨rfl, _, .inl (.inl ha)⟩
    · split at h2
      · rename_i ds e1
        obtain ⟨r2, _⟩ := r1.ext ok1 S1.nf E12
        obtain ⟨j, u, x, rfl, e2, ej, h2⟩ := idxEnd_of h2
        obtain ⟨v2, rfl, rv⟩ := rs.vw1 S2.sl e2
        obtain ⟨p, ps, q1, q2, q3, q4, q5, z, q6, q7, q8⟩ := idxP_of ej
        have Vl := r2.vw S2.sl e1
        have D2 := Vl.dp (show toP (.lst _) = some (.list ps) by simp [toP, q2])
        cases Vl with
        | lst ha hs => exact ⟨_, v2, p, ps, j, z, rfl, rfl, D2, rv.dp q1, q4, q3, q6, q7, q8, h2.oldD E2 S2 (.int _)⟩
      · exact h2.elim
  · exact h1.elim
end
end DP
end
section
set_option Elab.async false
set_option linter.all false
set_option maxRecDepth 100000
set_option maxHeartbeats 4000000
/-! DPI: enumerate of a tuple. -/
namespace DP
open PySem PySem.Spec PyProof.Rows L2
theorem meets_enum1 {v : Value} {o : Obj} {H : Heap → Prop} (B : Begins v o H) :
    Meets (Builtin.«enumerate.__new__» ⟨[.type "enumerate", v], []⟩) (fun _ R s => H s.heap ∧
      R (.ok (.ret (.ref (s.heap.push o).objs.size))) { s with heap := (s.heap.push o).push { cls := .type "enumerate", data := .fields #[.none, .bool false, .ref s.heap.objs.size, rawInt 0, .none, .none] } }) :=
  .of_wp fun prog w A R s h => by
    obtain ⟨hp, g, d, tk, os⟩ := s; obtain ⟨h1, h⟩ := h
    have hsub := sub_enumerate
    have q1 : ∀ {A' : Around} {E : Value → Shared → Prop} {Q : Value → Shared → Prop}, Q (.ref hp.objs.size) ⟨hp.push o, g, d, tk, os⟩ → wpAny (model prog w) A' (pyIter v) Q E ⟨hp, g, d, tk, os⟩ :=
      fun q => B.iter prog w _ _ ⟨hp, g, d, tk, os⟩ _ h1 q
    wp_walk using q1
    refine wpAny_stack_any fun st => wpAny_pure ?_
    split
    · rename_i c _ _ _ _ _
      cases (c == Value.type "enumerate")
      · wp_walk using q1
        exact ⟨_, rfl, h⟩
      · wp_walk using q1
        exact ⟨_, rfl, h⟩
    · wp_walk using q1
      exact ⟨_, rfl, h⟩
section
variable {prog : Program} {w : World} {A : Around} {E : Value → Shared → Prop} {s : Shared}
theorem enum_begins1 {v : Value} {o : Obj} {H : Heap → Prop} {Q : Value → Shared → Prop} (B : Begins v o H) (h1 : H s.heap)
    (h : ∀ h', IsEnum h' (s.heap.objs.size + 1) s.heap.objs.size 0 .none → h'.get? s.heap.objs.size = some o → h'.objs.size = s.heap.objs.size + 2 →
      (∀ b o, s.heap.get? b = some o → h'.get? b = some o) → Q (.ref (s.heap.objs.size + 1)) { s with heap := h' }) :
    wpAny (model prog w) A (call (.type "enumerate") [v]) Q E s := by
  refine callType_new F.called_enumerate (by decide) (F.typeCall_enumerate_1 _) (F.newCall_enumerate_1 _) (fun obj => F.args_object_init_2 obj _) F.entry_enumerate_new
    (meets_enum1 B) ⟨h1, ?_⟩
  have hz : (s.heap.push o).objs.size = s.heap.objs.size + 1 := Heap.size_push ..
  show _ ∧ _
  rw [hz]
  have he : IsEnum ((s.heap.push o).push { cls := .type "enumerate", data := .fields #[.none, .bool false, .ref s.heap.objs.size, rawInt 0, .none, .none] }) (s.heap.objs.size + 1) s.heap.objs.size 0 .none := by
    have := Heap.get?_push_size (s.heap.push o) (o := { cls := .type "enumerate", data := .fields #[.none, .bool false, .ref s.heap.objs.size, rawInt 0, .none, .none] }) rfl
    rw [hz] at this; exact this
  refine ⟨⟨_, he, rfl⟩, h _ he (Heap.get?_push_of_some _ (Heap.get?_push_size _ B.free)) (by rw [Heap.size_push, hz]) fun b o x => Heap.get?_push_of_some _ (Heap.get?_push_of_some _ x)⟩
end
def IteT (K : PySem.W.Frag) (a : Addr) : It :=
  ⟨fun i H => ∃ (xs : List V) (x : V), SqT K H a xs ∧ xs[i]? = some x, fun i H v H' => ∃ T x, v = .ref T ∧ H T = none ∧ H' = upd H T (.tup [.int (i : Nat), x]) ∧ ∀ xs, SqT K H a xs → xs[i]? = some x, fun i H => ∃ xs : List V, SqT K H a xs ∧ xs.length ≤ i⟩
theorem turn_enumT {P : Program} {w : World} {K : PySem.W.Frag} {elts : List Expr} {kk : Nat} {tpos : Pos} (a e it : Addr) (hae : a ≠ e) (hai : a ≠ it) (hne : e ≠ it) :
    Turn P w K (.Tuple elts kk tpos) (IteT K a) [e, it] e (fun i h => (∃ old, IsEnum h e it ((i : Nat) : Int) old) ∧ h.IsTupleIter it a i) where
  mem := by simp
  obj := fun i h st b hb => by
    obtain ⟨⟨old, he⟩, ⟨o, ho, hc, hd⟩⟩ := st
    have e' : b = e ∨ b = it := by simpa using hb
    rcases e' with z | z
    · rw [z]; exact ⟨_, he, fun v q => nomatch q⟩
    · rw [z]; exact ⟨o, ho, fun v q => by rw [hd] at q; cases q⟩
  keep := fun i h h' st k => let ⟨⟨old, he⟩, hi⟩ := st; ⟨⟨old, k e (by simp) _ he⟩, hi.at fun o q => k it (by simp) o q⟩
  item := by
    intro X hP hw hK hc i pins s σ H E I hf st hg
    subst hP hw hK
    obtain ⟨⟨old, he⟩, hit⟩ := st
    obtain ⟨xs, x, hq, hx⟩ := hg
    obtain ⟨its, rv, p, hz⟩ := I.tuple hq
    obtain ⟨u, hu, ru⟩ := rv.get hx
    have hel : e < s.heap.objs.size := Heap.lt_size he
    have hil : it < s.heap.objs.size := by obtain ⟨_, q, _⟩ := hit; exact Heap.lt_size q
    have D := Draws.tuple (prog := X.prog) (w := X.w) (A := X.A.in1) (show X.A.in1.handled = none from I.ok.hd hc) it a hai its.toArray
    refine wpAny_pyNext_enum_itemC D he ⟨hit, p⟩ (show i < its.toArray.size by simpa using (List.getElem?_eq_some_iff.mp hu).1) hne (by simp [hne, Ne.symm hae]) fun y h' tk hy ho st' hT hsz hk => ?_
    have ey : y = u := by
      have : its.toArray[i]? = some u := by simpa using hu
      rw [this] at hy; exact (Option.some.inj hy).symm
    subst ey
    refine ⟨_, rfl, wpAny_letOwnedTupleGo_enum (s := { s with heap := h', toks := tk + 1 }) ho fun h'' he' sb => ?_⟩
    have hT2 : h''.get? s.heap.objs.size = some { cls := .type "tuple", data := .seq #[.int i tk, y] } := (sb.2 _ (Nat.ne_of_gt hel)).trans hT
    have new : ObjOk X.prog X.w (upd H s.heap.objs.size (.tup [.int (i : Nat), x])) h'' s.heap.objs.size (.tup [.int (i : Nat), x]) :=
      ⟨by show 2 ≤ sizeLine; decide, [.int i tk, y], .cons ⟨_, rfl⟩ (.cons ru .nil), ⟨_, hT2, rfl, _, rfl⟩⟩
    have I1 : Inv X pins σ (upd H s.heap.objs.size (.tup [.int (i : Nat), x])) { s with heap := h'', toks := tk + 1 } :=
      I.turnedNew (ch := [e, it]) (fun b ob hb q => (sb.2 b (fun z => hb (by simp [z]))).trans (hk b ob (fun z => hb (by simp [z])) (fun z => hb (by simp [z])) q)) hf (Nat.le_refl _) new
    refine ⟨.ref s.heap.objs.size, _, I1, rfl, ⟨_, x, rfl, I.hok.fresh (Nat.le_refl _), rfl, fun ys hy => by rw [I.tuple_inj hy hq]; exact hx⟩, ⟨⟨y, ?_⟩, st'.1.at fun o q => (sb.2 it (Ne.symm hne)).trans q⟩, fun b hb => ?_⟩
    · have e1 : ((i + 1 : Nat) : Int) = (i : Int) + 1 := by omega
      rw [e1]; exact he'
    · have hb' : b < s.heap.objs.size := by
        have e' : b = e ∨ b = it := by simpa using hb
        rcases e' with z | z
        · rw [z]; exact hel
        · rw [z]; exact hil
      rw [upd_ne (Nat.ne_of_lt hb')]
      exact (hf b hb).1
  done := by
    intro X hP hw hK hc i pins s σ H E I hf st hg
    subst hP hw hK
    obtain ⟨⟨old, he⟩, hit⟩ := st
    obtain ⟨xs, hq, hx⟩ := hg
    obtain ⟨its, rv, p, hz⟩ := I.tuple hq
    obtain ⟨f0, f1, f2, f3, f4, f5⟩ := hf it (by simp)
    have hl := rv.length
    -- the count has come to the tuple's end (or past it: then no draw is left either)
    have hT : s.TypeIs (.ref e) "enumerate" := ⟨_, he, rfl⟩
    unfold pyNext
    refine wpAny_bind (wpAny_attempt (wpAny_callSpecial?_slot (name := Str.ofString "__next__") hT F.slot_enumerate_next
      (wpAny_call_entry F.slot_enumerate_next hT F.entry_enumerate_next ?_ (F.args_enumerate_next_1 _))))
    show wpAny _ _ (field (.ref e) 2 >>= _) _ _ _
    refine wpAny_bind (wpAny_field he rfl (x := .ref it) rfl ?_)
    refine wpAny_bind (wpAny_nextOf_tuple_end (show X.A.in1.handled = none from I.ok.hd hc) hit p (by simp; omega) fun h' e2 x2 x3 => ?_)
    obtain ⟨o3, q3, c3⟩ := x3
    refine wpAny_bind (wpAny_isInstance (T := "StopIteration") (b := true) ⟨o3, q3, c3⟩ isSubtype_stop ?_)
    exact wpAny_pure ⟨rfl, I.turned (t' := s.toks) (fun b o hb q => x2 b o hb q) f0 f1 f3 f4 f5⟩
  self := fun A i s Q E st h => let ⟨⟨_, he⟩, _⟩ := st; wpAny_pyIter_enum he h
def iEnumT (K : PySem.W.Frag) (ta : TA) : TI := fun σ H R => ta σ H fun vs H1 => ∃ a xs, vs = [.ref a] ∧ SqT K H1 a xs ∧ R (IteT K a) H1
theorem pi_enumT {X : Cx} {e : Expr} {ta : TA} {p pos tpos : Pos} {elts : List Expr} {kk : Nat} (hg : Gl X "enumerate") (hm : X.mg "enumerate" = none) (ha : PA X [e] ta) (hs : starEach [e] X.env = [(false, eval e X.env)] := by rfl) :
    PI X (.Tuple elts kk tpos) (.Call (.Name "enumerate" p) [e] [] pos) (iEnumT X.K ta) := by
  refine ⟨fun pins s σ H R I h => ?_⟩
  refine Call_ (ld_blt I hg hm boot_enumerate (PyProof.Rows.callWith_type1 (thn (ha.run pos pins s σ H _ I h) fun us s1 ⟨vs, H1, I1, r1, q1⟩ => ?_) hs rfl))
  obtain ⟨a, xs, ex, hq, q⟩ := q1
  subst ex
  cases r1 with
  | cons r rr =>
    cases rr
    cases r
    obtain ⟨its, rv, p', hz⟩ := I1.tuple hq
    refine enum_begins1 (begins_tuple a its.toArray) p' fun h' he hit hsz hk => wpAny_pyIter_enum he ?_
    have I2 : Inv X pins σ H1 { s1 with heap := h' } := I1.kept (t' := s1.toks) hk
    have hal : a < s1.heap.objs.size := by obtain ⟨o, ho, _⟩ := p'; exact Heap.lt_size ho
    refine ⟨s1.heap.objs.size + 1, [s1.heap.objs.size + 1, s1.heap.objs.size], _, _, H1, rfl, I2, turn_enumT a (s1.heap.objs.size + 1) s1.heap.objs.size (Nat.ne_of_lt (Nat.lt_succ_of_lt hal)) (Nat.ne_of_lt hal) (Nat.succ_ne_self _), ⟨⟨.none, he⟩, ⟨_, hit, rfl, rfl⟩⟩, fun b hb => ?_, q⟩
    have e' : b = s1.heap.objs.size + 1 ∨ b = s1.heap.objs.size := by simpa using hb
    have hle : s1.heap.objs.size ≤ b := by
      rcases e' with z | z
      · rw [z]; exact Nat.le_add_right _ _
      · rw [z]; exact Nat.le_refl _
    exact I1.fpOk hle (I1.hok.fresh hle)
end DP
end
section
set_option Elab.async false
set_option linter.all false
set_option maxRecDepth 100000
set_option maxHeartbeats 4000000
/-! DP5: targets, what is walked, list comprehensions. -/
namespace DP
open PySem PySem.Spec PyProof.Rows L2
/-- what a turn brings: one thing, or a new pair that the target takes apart -/
inductive Item where
  | one (d : D) | many (ds : List D)
section
variable (K : PySem.W.Frag) (T : Tb) (F : AP) (H : Hp)
inductive RI : V → Item → Prop
  | one {v : V} {d : D} (h : RD K T F H v d) : RI v (.one d)
  | many {a : Addr} {xs : List V} {ds : List D} (h : SqT K H a xs) (hs : RDs K T F H xs ds) : RI (.ref a) (.many ds)
end
/-! ### targets -/
def freeS : Sl → Bool
  | .o (some _) _ => false
  | _ => true
def setN (i : Nat) (d : D) : M Unit := fun st => match st[i]? with
  | some s => if freeS s then .ok () (st.set i (.d d)) else .bad
  | none => .bad
def setNs : List Nat → List D → M Unit
  | [], [] => ret ()
  | i :: is, d :: ds => bnd (setN i d) fun _ => setNs is ds
  | _, _ => fun _ => .bad
def tgN (i : Nat) : Item → M Unit
  | .one d => setN i d
  | .many _ => fun _ => .bad
def tgT (is : List Nat) : Item → M Unit
  | .many ds => setNs is ds
  | .one (.tup ds) => setNs is ds
  | .one _ => fun _ => .bad
def Off (sl : List Nat) (σ σ' : L2.St) : Prop := σ'.length = σ.length ∧ ∀ j, j ∉ sl → σ'[j]? = σ[j]?
section
variable {K : PySem.W.Frag} {T : Tb} {F : AP} {O : List Addr} {H : Hp} {σ : L2.St} {st : St}
theorem SRel.sub {σ' : L2.St} {st' : St} {O' : List Addr} (S : SRel K T F O H σ st) (sl : SL K T F H σ' st' O') (sub : O'.Sublist O) : SRel K T F O' H σ' st' :=
  ⟨sl, S.nd.sublist sub, fun a ha => S.nf a (sub.subset ha), S.fd⟩
theorem setN_of {i : Nat} {d : D} {st' : St} (h : setN i d st = .ok () st') : st' = st.set i (.d d) ∧ i < st.length := by
  unfold setN at h
  split at h
  · rename_i s e
    split at h
    · cases h; exact ⟨rfl, (List.getElem?_eq_some_iff.mp e).1⟩
    · cases h
  · cases h
/-- the readings of names one after another -/
def gNs : List Nat → TGs
  | [] => gNil
  | i :: is => gCons (gName i) (gNs is)
theorem gNs_of : ∀ {is : List Nat} {ds : List D} {vs : List V} {σ : L2.St} {st st' : St} {O : List Addr} {Q : L2.St → Hp → Prop}, SRel K T F O H σ st → setNs is ds st = .ok () st' → RDs K T F H vs ds →
    (∀ σ' O', (∀ a ∈ O', a ∈ O) → SRel K T F O' H σ' st' → Off is σ σ' → Q σ' H) → gNs is vs σ H Q
  | [], [], _, σ, _, _, O, Q, S, e, r, q => by
    cases r
    simp [setNs, ret] at e
    subst e
    exact ⟨rfl, q _ O (fun _ h => h) S ⟨rfl, fun _ _ => rfl⟩⟩
  | i :: is, d :: ds, _, σ, st, st', O, Q, S, e, r, q => by
    cases r with
    | cons r rs =>
      rename_i v vs
      unfold setNs at e
      cases e1 : setN i d st with
      | ok u s1 =>
        rw [bnd_ok e1] at e
        obtain ⟨rfl, hi⟩ := setN_of e1
        obtain ⟨O1, sl1, sub1⟩ := S.sl.set_d i r
        refine ⟨v, vs, rfl, gNs_of (S.sub sl1 sub1) e rs fun σ' O' hO S' off => q σ' O' (fun a ha => sub1.subset (hO a ha)) S' ⟨?_, fun j hj => ?_⟩⟩
        · rw [off.1]; simp
        · rw [off.2 j (fun z => hj (List.mem_cons_of_mem _ z))]
          rw [List.getElem?_set_ne (fun z => hj (by subst z; exact List.mem_cons_self))]
      | exc e' s => rw [bnd_exc e1] at e; cases e
      | bad => unfold bnd at e; rw [e1] at e; cases e
  | [], _ :: _, _, _, _, _, _, _, _, e, _, _ => by simp [setNs] at e
  | _ :: _, [], _, _, _, _, _, _, _, e, _, _ => by simp [setNs] at e
def LG (K : PySem.W.Frag) (T : Tb) (g : TG) (t : Item → M Unit) (sl : List Nat) : Prop := ∀ (v : V) (σ : L2.St) (H : Hp) (F : AP) (O : List Addr) (st st' : St) (item : Item) (Q : L2.St → Hp → Prop),
  SRel K T F O H σ st → RI K T F H v item → t item st = .ok () st' → (∀ σ' O', (∀ a ∈ O', a ∈ O) → SRel K T F O' H σ' st' → Off sl σ σ' → Q σ' H) → g v σ H Q
theorem lg_name {i : Nat} : LG K T (gName i) (tgN i) [i] := by
  intro v σ H F O st st' item Q S r e q
  cases r with
  | one r =>
    obtain ⟨rfl, hi⟩ := setN_of e
    obtain ⟨O1, sl1, sub1⟩ := S.sl.set_d i r
    exact q _ O1 (fun a ha => sub1.subset ha) (S.sub sl1 sub1) ⟨by simp, fun j hj => by rw [List.getElem?_set_ne (fun z => hj (by simp [z]))]⟩
  | many h hs => cases e
theorem setNs_len {is : List Nat} {ds : List D} {st st' : St} (e : setNs is ds st = .ok () st') : ds.length = is.length := by
  induction is generalizing ds st with
  | nil => cases ds with
    | nil => rfl
    | cons _ _ => simp [setNs] at e
  | cons i is ih => cases ds with
    | nil => simp [setNs] at e
    | cons d ds =>
      unfold setNs at e
      cases e1 : setN i d st with
      | ok u s1 => rw [bnd_ok e1] at e; simp [ih e]
      | exc e' s => rw [bnd_exc e1] at e; cases e
      | bad => unfold bnd at e; rw [e1] at e; cases e
theorem lg_tup {is : List Nat} : LG K T (gTup K is.length (gNs is)) (tgT is) is := by
  intro v σ H F O st st' item Q S r e q
  cases r with
  | one r =>
    cases r with
    | tup h hs => exact ⟨_, _, rfl, h.sq, by rw [hs.len]; exact setNs_len e, gNs_of S e hs q⟩
    | _ => cases e
  | many h hs => exact ⟨_, _, rfl, h, by rw [hs.len]; exact setNs_len e, gNs_of S e hs q⟩
end
structure DG (T : Tb) (X : Cx) (tg : Expr) (g : TG) (t : Item → M Unit) (sl : List Nat) : Prop where
  pg : PG X tg g
  lg : LG X.K T g t sl
section
variable {X : Cx} {T : Tb} {pos : Pos}
theorem dg_n (i : Nat) {x : Str} (hN : X.N.Nodup) (hi : X.N[i]? = some x := by rfl) (hx : Loc X.env.scope x := by first | exact Or.inl rfl | exact Or.inr rfl) (hf : X.fn x = true ∨ X.env.scope.names.lookup x = some .local := by first | exact .inl rfl | exact .inr rfl) : DG T X (.Name x pos) (gName i) (tgN i) [i] :=
  ⟨pg_name hN hi hx hf, lg_name⟩
/-- names, for a tuple target -/
structure DGs (X : Cx) (es : List Expr) (is : List Nat) : Prop where
  pgs : PGs X es (gNs is)
theorem dgs_nil : DGs X [] [] := ⟨pgs_nil⟩
theorem dgs_cons (i : Nat) {x : Str} {es : List Expr} {is : List Nat} (hN : X.N.Nodup) (h : DGs X es is) (hi : X.N[i]? = some x := by rfl) (hx : Loc X.env.scope x := by first | exact Or.inl rfl | exact Or.inr rfl) (hf : X.fn x = true ∨ X.env.scope.names.lookup x = some .local := by first | exact .inl rfl | exact .inr rfl)
    (hs : (assignEach (.Name x pos :: es) X.env).map (·.2) = assign (.Name x pos) X.env :: (assignEach es X.env).map (·.2) := by rfl) : DGs X (.Name x pos :: es) (i :: is) := ⟨pgs_cons (pg_name hN hi hx hf) h.pgs hs⟩
theorem dg_t {K : PySem.W.Frag} {es : List Expr} {is : List Nat} {k : Nat} (hK : X.K = K) (hc : X.calm = true) (h : DGs X es is) (hn : (assignEach es X.env).length = is.length := by rfl) (hst : (assignEach es X.env).findIdx? (·.1) = none := by rfl) : DG T X (.Tuple es k pos) (gTup K is.length (gNs is)) (tgT is) is := by
  subst hK
  exact ⟨pg_tup hc h.pgs hn hst, lg_tup⟩
end
/-! ### what is walked -/
inductive Src where
  | fz (its : List Item) | live (i : Nat) (ds : List D)
def Src.items : Src → List Item
  | .fz its => its
  | .live _ ds => ds.map .one
def Src.ok : Src → St → Prop
  | .fz _, _ => True
  | .live i ds, st => ∃ t, st[i]? = some (.o t (.lst ds))
structure Gs (K : PySem.W.Frag) (T : Tb) (Gd : AP → Hp → Prop) (J : It) (its : List Item) : Prop where
  go : ∀ F H i, Gd F H → i < its.length → J.go i H
  stop : ∀ F H, Gd F H → J.stop its.length H
  yld : ∀ F O H σ st i x H' item, Gd F H → SRel K T F O H σ st → its[i]? = some item → J.yld i H x H' → ∃ F', Ext F O H F' O H' ∧ SRel K T F' O H' σ st ∧ (∀ a o, H a = some o → H' a = some o) ∧ RI K T F' H' x item
def KeepF (F0 : AP) (H0 : Hp) (F : AP) (H : Hp) : Prop := (∀ a, F0 a → F a) ∧ ∀ a o, F0 a → H0 a = some o → NoTbl o → H a = some o
theorem KeepF.rds {K : PySem.W.Frag} {T : Tb} {F F0 : AP} {H H0 : Hp} {vs : List V} {ds : List D} (k : KeepF F0 H0 F H) (h : RDs K T F0 H0 vs ds) : RDs K T F H vs ds := RDs.mono k.1 k.2 _ _ h
theorem KeepF.fzT {K : PySem.W.Frag} {F F0 : AP} {H H0 : Hp} {a : Addr} {vs : List V} (k : KeepF F0 H0 F H) (h : FzT K F0 H0 a vs) : FzT K F H a vs := by
  rcases h with ⟨f, o, hd, h⟩ | h
  · exact .inl ⟨k.1 _ f, o, hd, k.2 _ _ f h (fun ps z => by cases z)⟩
  · exact .inr h
/-- what it is that a list or tuple is read as is one thing -/
theorem sqL_uniq {K : PySem.W.Frag} {H : Hp} {a : Addr} {xs ys : List V} (h : H a = some (.lst xs)) (h' : SqL K H a ys) (hK : K.lookup a = none) : xs = ys := by
  rcases h' with (h' | ⟨o, h'⟩) | ⟨o, its, n, hk, _⟩
  · rw [h] at h'; cases h'; rfl
  · rw [h] at h'; cases h'
  · rw [hK] at hk; cases hk
section
variable {K : PySem.W.Frag} {T : Tb} {F0 : AP} {H0 : Hp}
theorem gs_list {a : Addr} {vs : List V} {ds : List D} {Gd : AP → Hp → Prop} (hg : ∀ F H, Gd F H → ∃ vs, H a = some (.lst vs) ∧ RDs K T F H vs ds) : Gs K T Gd (Itl K a) (ds.map .one) where
  go := fun F H i g hi => by
    obtain ⟨vs, h1, h2⟩ := hg F H g
    have : i < vs.length := by rw [h2.len]; simpa using hi
    exact ⟨vs, vs[i], .inl (.inl h1), by simp [this]⟩
  stop := fun F H g => by
    obtain ⟨vs, h1, h2⟩ := hg F H g
    exact ⟨vs, .inl (.inl h1), by rw [h2.len]; simp⟩
  yld := fun F O H σ st i x H' item g S e y => by
    obtain ⟨vs, h1, h2⟩ := hg F H g
    obtain ⟨rfl, y⟩ := y
    rw [List.getElem?_map] at e
    cases e1 : ds[i]? with
    | none => rw [e1] at e; cases e
    | some d =>
      rw [e1] at e
      have : item = .one d := (Option.some.inj e).symm
      subst this
      obtain ⟨v, l, r⟩ := h2.get e1
      have := y vs (.inl (.inl h1))
      rw [l] at this
      have : v = x := Option.some.inj this
      subst this
      exact ⟨F, .refl, S, fun _ _ q => q, .one r⟩
theorem gs_tup {a : Addr} {vs : List V} {ds : List D} (h1 : FzT K F0 H0 a vs) (h2 : RDs K T F0 H0 vs ds) : Gs K T (KeepF F0 H0) (Itt K a) (ds.map .one) where
  go := fun F H i g hi => by
    have : i < vs.length := by rw [h2.len]; simpa using hi
    exact ⟨vs, vs[i], (g.fzT h1).sq, by simp [this]⟩
  stop := fun F H g => ⟨vs, (g.fzT h1).sq, by rw [h2.len]; simp⟩
  yld := fun F O H σ st i x H' item g S e y => by
    obtain ⟨rfl, y⟩ := y
    rw [List.getElem?_map] at e
    cases e1 : ds[i]? with
    | none => rw [e1] at e; cases e
    | some d =>
      rw [e1] at e
      have : item = .one d := (Option.some.inj e).symm
      subst this
      obtain ⟨v, l, r⟩ := (g.rds h2).get e1
      have := y vs (g.fzT h1).sq
      rw [l] at this
      have : v = x := Option.some.inj this
      subst this
      exact ⟨F, .refl, S, fun _ _ q => q, .one r⟩
theorem gs_str {z : Str} {Gd : AP → Hp → Prop} : Gs K T Gd (Its z) (z.cps.toList.map fun c => .one (.str ⟨#[c]⟩)) where
  go := fun F H i g hi => by simpa [Its] using hi
  stop := fun F H g => by simp [Its]
  yld := fun F O H σ st i x H' item g S e y => by
    obtain ⟨rfl, c, hc, rfl⟩ := y
    rw [List.getElem?_map, Array.getElem?_toList, hc] at e
    have : item = .one (.str ⟨#[c]⟩) := (Option.some.inj e).symm
    subst this
    exact ⟨F, .refl, S, fun _ _ q => q, .one (.str _)⟩
theorem gs_rng {lo : Int} {n : Nat} {Gd : AP → Hp → Prop} : Gs K T Gd (Itr lo n) ((List.range n).map fun k => .one (.int (lo + (k : Nat)))) where
  go := fun F H i g hi => by simpa [Itr] using hi
  stop := fun F H g => by simp [Itr]
  yld := fun F O H σ st i x H' item g S e y => by
    obtain ⟨rfl, rfl⟩ := y
    rw [List.getElem?_map] at e
    have hi : i < n := by
      cases q : (List.range n)[i]? with
      | none => rw [q] at e; cases e
      | some k => simpa using (List.getElem?_eq_some_iff.mp q).1
    rw [List.getElem?_range hi] at e
    have : item = .one (.int (lo + (i : Nat))) := (Option.some.inj e).symm
    subst this
    exact ⟨F, .refl, S, fun _ _ q => q, .one (.int _)⟩
theorem gs_rngC {lo c : Int} {n : Nat} {Gd : AP → Hp → Prop} : Gs K T Gd (Itc lo c n) ((List.range n).map fun k => .one (.int (lo + (k : Nat) * c))) where
  go := fun F H i g hi => by simpa [Itc] using hi
  stop := fun F H g => by simp [Itc]
  yld := fun F O H σ st i x H' item g S e y => by
    obtain ⟨rfl, rfl⟩ := y
    rw [List.getElem?_map] at e
    have hi : i < n := by
      cases q : (List.range n)[i]? with
      | none => rw [q] at e; cases e
      | some k => simpa using (List.getElem?_eq_some_iff.mp q).1
    rw [List.getElem?_range hi] at e
    have : item = .one (.int (lo + (i : Nat) * c)) := (Option.some.inj e).symm
    subst this
    exact ⟨F, .refl, S, fun _ _ q => q, .one (.int _)⟩
/-- a new pair at p -/
theorem pair_new {F : AP} {O : List Addr} {H : Hp} {σ : L2.St} {st : St} {p : Addr} {xs : List V} {ds : List D} (S : SRel K T F O H σ st) (hp : H p = none) (r : RDs K T F H xs ds) :
    ∃ F', Ext F O H F' O (upd H p (.tup xs)) ∧ SRel K T F' O (upd H p (.tup xs)) σ st ∧ (∀ a o, H a = some o → upd H p (.tup xs) a = some o) ∧ RI K T F' (upd H p (.tup xs)) (.ref p) (.many ds) :=
  ⟨F, .alloc hp, S.alloc hp, fun a o e => by rw [upd_ne (ne_of_none e hp)]; exact e, .many (.inl (.inl upd_same)) (r.alloc hp)⟩
theorem gs_zipT {a b : Addr} {xs ys : List V} {ds es : List D} (h1 : FzT K F0 H0 a xs) (h2 : RDs K T F0 H0 xs ds) (k1 : FzT K F0 H0 b ys) (k2 : RDs K T F0 H0 ys es) : Gs K T (KeepF F0 H0) (RZ.ItzT K a b) ((ds.zip es).map fun p => .many [p.1, p.2]) where
  go := fun F H i g hi => by
    have l1 := h2.len
    have l2 := k2.len
    have : i < min ds.length es.length := by simpa using hi
    have q1 : i < xs.length := by omega
    have q2 : i < ys.length := by omega
    exact ⟨xs, ys, xs[i], ys[i], (g.fzT h1).sq, (g.fzT k1).sq, by simp [q1], by simp [q2]⟩
  stop := fun F H g => by
    refine ⟨xs, ys, (g.fzT h1).sq, (g.fzT k1).sq, ?_⟩
    have l1 := h2.len
    have l2 := k2.len
    simp
    omega
  yld := fun F O H σ st i x H' item g S e y => by
    obtain ⟨p, x1, y1, rfl, hp, rfl, q1, q2⟩ := y
    have q1 := q1 xs (g.fzT h1).sq
    have q2 := q2 ys (g.fzT k1).sq
    rw [List.getElem?_map] at e
    cases e1 : (ds.zip es)[i]? with
    | none => rw [e1] at e; cases e
    | some pr =>
      obtain ⟨d1, d2⟩ := pr
      rw [e1] at e
      have : item = .many [d1, d2] := (Option.some.inj e).symm
      subst this
      rw [List.getElem?_zip_eq_some] at e1
      obtain ⟨v1, l1, r1⟩ := (g.rds h2).get e1.1
      obtain ⟨v2, l2, r2⟩ := (g.rds k2).get e1.2
      rw [l1] at q1; rw [l2] at q2
      cases q1; cases q2
      exact pair_new S hp (.cons r1 (.cons r2 .nil))
theorem gs_enumT {a : Addr} {xs : List V} {ds : List D} (h1 : FzT K F0 H0 a xs) (h2 : RDs K T F0 H0 xs ds) : Gs K T (KeepF F0 H0) (IteT K a) (ds.zipIdx.map fun p => .many [.int (p.2 : Nat), p.1]) where
  go := fun F H i g hi => by
    have l1 := h2.len
    have : i < ds.length := by simpa using hi
    have q1 : i < xs.length := by omega
    exact ⟨xs, xs[i], (g.fzT h1).sq, by simp [q1]⟩
  stop := fun F H g => by
    refine ⟨xs, (g.fzT h1).sq, ?_⟩
    have l1 := h2.len
    simp
    omega
  yld := fun F O H σ st i x H' item g S e y => by
    obtain ⟨p, x1, rfl, hp, rfl, q1⟩ := y
    have q1 := q1 xs (g.fzT h1).sq
    rw [List.getElem?_map] at e
    cases e1 : ds.zipIdx[i]? with
    | none => rw [e1] at e; cases e
    | some pr =>
      obtain ⟨d1, j⟩ := pr
      rw [e1] at e
      have : item = .many [.int (j : Nat), d1] := (Option.some.inj e).symm
      subst this
      rw [List.getElem?_zipIdx] at e1
      simp only [Option.map_eq_some_iff, Nat.zero_add, Prod.mk.injEq] at e1
      obtain ⟨d, e1, rfl, rfl⟩ := e1
      obtain ⟨v1, l1, r1⟩ := (g.rds h2).get e1
      rw [l1] at q1
      cases q1
      exact pair_new S hp (.cons (.int _) (.cons r1 .nil))
end
/-- a source's end -/
def GSr (K : PySem.W.Frag) (T : Tb) (σ : L2.St) (H0 : Hp) (R : It → Hp → Prop) : Src → St → AP → List Addr → Hp → Prop := fun src _ F' O' H' => match src with
  | .fz its => ∀ J own, OwnOk F' O' H0 own → (∀ a ∈ own, H' a ≠ none) → Gs K T (KeepF (fun a => F' a ∨ a ∈ own) H') J its → R J H'
  | .live i ds => ∀ a, σ[i]? = some (some (.ref a)) → R (Itl K a) H'
def liftI (K : PySem.W.Frag) (T : Tb) (Wx : WX) (m : M Src) : TI := fun σ H R => ∃ F O st, SRel K T F O H σ st ∧ Post K T Wx σ F O H (m st) (GSr K T σ H R)
structure DI (T : Tb) (X : Cx) (tg iter : Expr) (m : M Src) : Prop where
  pi : ∀ Wx, Takes X Wx → PI X tg iter (liftI X.K T Wx m)
theorem PI.weak {X : Cx} {tg iter : Expr} {t t' : TI} (h : PI X tg iter t) (w : ∀ σ H R, t' σ H R → t σ H R) : PI X tg iter t' := ⟨fun pins s σ H R I q => h.run pins s σ H R I (w σ H R q)⟩
/-- a list, a tuple, a text -/
def iAny (K : PySem.W.Frag) (te : TE) : TI := fun σ H R => te σ H fun x H1 => (∃ a xs, x = .ref a ∧ SqL K H1 a xs ∧ R (Itl K a) H1) ∨ (∃ a xs, x = .ref a ∧ SqT K H1 a xs ∧ R (Itt K a) H1) ∨ ∃ z, x = .str z ∧ R (Its z) H1
theorem pi_any {X : Cx} {tg e : Expr} {te : TE} (he : PE X e te) : PI X tg e (iAny X.K te) := by
  refine ⟨fun pins s σ H R I h => ?_⟩
  refine thn (he.run pins s σ H _ I h) fun v s1 ⟨x, H1, I1, r1, q1⟩ => ?_
  rcases q1 with ⟨a, xs, e, hq, q⟩ | ⟨a, xs, e, hq, q⟩ | ⟨z, e, q⟩
  · subst e
    cases r1
    obtain ⟨its, rv, p, hz⟩ := I1.list hq
    exact wpAny_pyIter_list p.isList (pi_one (tk := s1.toks) I1 _ (turn_list a _) ⟨_, Heap.get?_push_size _ rfl, rfl, rfl⟩ q)
  · subst e
    cases r1
    obtain ⟨its, rv, p, hz⟩ := I1.tuple hq
    exact wpAny_pyIter_tuple (show s1.heap.IsTuple a its.toArray from p) (pi_one (tk := s1.toks) I1 _ (turn_tuple a _) ⟨_, Heap.get?_push_size _ rfl, rfl, rfl⟩ q)
  · subst e
    obtain ⟨t, rfl⟩ := r1
    cases ha : z.cps.all (· < 128)
    · exact wpAny_pyIter_wide ha (pi_one (tk := s1.toks) I1 _ (turn_str _ z t "str_iterator" (.inr rfl)) ⟨_, Heap.get?_push_size _ rfl, rfl, rfl⟩ q)
    · exact wpAny_pyIter_ascii ha (pi_one (tk := s1.toks) I1 _ (turn_str _ z t "str_ascii_iterator" (.inl rfl)) ⟨_, Heap.get?_push_size _ rfl, rfl, rfl⟩ q)
def srcOf (w : W) : M Src := fun st => match w with
  | .b i => match st[i]? with
    | some (.o _ (.lst ds)) => .ok (.live i ds) st
    | _ => .bad
  | .o (.lst ds) => .ok (.fz (ds.map .one)) st
  | .d (.lst ds) => .ok (.fz (ds.map .one)) st
  | .d (.tup ds) => .ok (.fz (ds.map .one)) st
  | .d (.str z) => .ok (.fz (z.cps.toList.map fun c => .one (.str ⟨#[c]⟩))) st
  | _ => .bad
def mSeq (m : M W) : M Src := bnd m srcOf
theorem KeepF.refl {F : AP} {H : Hp} : KeepF F H F H := ⟨fun _ f => f, fun _ _ _ e _ => e⟩
section
variable {X : Cx} {T : Tb} {pos : Pos} {tg : Expr}
theorem di_seq {e : Expr} {m : M W} (h : DE T X e m) : DI T X tg e (mSeq m) := by
  refine ⟨fun Wx tk => PI.weak (pi_any (h.pe Wx tk)) fun σ H R h => ?_⟩
  obtain ⟨F, O, st, S, h⟩ := h
  refine ⟨F, O, st, S, h.bind .refl fun w st1 F1 O1 H1 E1 _ S1 h1 v own r ok => ?_⟩
  unfold srcOf at h1
  split at h1
  · rename_i i
    split at h1
    · rename_i t ds e
      obtain ⟨u, own', s1, _, ro, _⟩ := S1.sl.get_o e
      cases r with
      | b hv =>
        rw [hv] at s1
        have : v = u := by simpa using s1
        subst this
        cases ro with
        | lst ha hs => exact .inl ⟨_, _, rfl, .inl (.inl ha), h1 F1 O1 H1 E1 S1 _ hv⟩
    · exact h1.elim
  · rename_i ds
    cases r with
    | o r =>
      have tr := r.there
      cases r with
      | lst ha hs => exact .inl ⟨_, _, rfl, .inl (.inl ha), h1 F1 O1 H1 E1 S1 _ _ ok tr (gs_list (vs := []) fun F' H' g => ⟨_, g.2 _ _ (.inr (by simp)) ha (fun ps z => by cases z), g.rds (RDs.mono (fun _ f => .inl f) (fun _ _ _ e _ => e) _ _ hs)⟩)⟩
  · rename_i ds
    cases r with
    | d r => cases r with
      | lst ha hs => exact .inl ⟨_, _, rfl, .inl (.inl ha.2), h1 F1 O1 H1 E1 S1 _ [] .nil (by simp) (gs_list (vs := []) fun F' H' g => ⟨_, g.2 _ _ (.inl ha.1) ha.2 (fun ps z => by cases z), g.rds (RDs.mono (fun _ f => .inl f) (fun _ _ _ e _ => e) _ _ hs)⟩)⟩
  · rename_i ds
    cases r with
    | d r => cases r with
      | tup ha hs =>
        have k : KeepF F1 H1 (fun a => F1 a ∨ a ∈ []) H1 := ⟨fun _ f => .inl f, fun _ _ _ e _ => e⟩
        exact .inr (.inl ⟨_, _, rfl, ha.sq, h1 F1 O1 H1 E1 S1 _ [] .nil (by simp) (gs_tup (k.fzT ha) (k.rds hs))⟩)
  · rename_i z
    cases r with
    | d r => cases r; exact .inr (.inr ⟨_, rfl, h1 F1 O1 H1 E1 S1 _ [] .nil (by simp) gs_str⟩)
  · exact h1.elim
def b62 (i : Int) : Bool := decide (-(2 ^ 62) ≤ i ∧ i < 2 ^ 62)
def mRng1 (ms : M (List W)) : M Src := bnd ms fun ws st => match ws with
  | [.d (.int j)] => if b62 j then .ok (.fz ((List.range j.toNat).map fun k => .one (.int (0 + (k : Nat))))) st else .bad
  | _ => .bad
theorem VRs.int1 {K : PySem.W.Frag} {F : AP} {H : Hp} {σ : L2.St} {vs : List V} {j : Int} (h : VRs K T F H σ [.d (.int j)] vs) : vs = [.int j] := by
  cases h with | d h hs => cases hs; cases h; rfl
theorem VRs.int2 {K : PySem.W.Frag} {F : AP} {H : Hp} {σ : L2.St} {vs : List V} {i j : Int} (h : VRs K T F H σ [.d (.int i), .d (.int j)] vs) : vs = [.int i, .int j] := by
  cases h with | d h hs => cases h; rw [VRs.int1 hs]
theorem VRs.int3 {K : PySem.W.Frag} {F : AP} {H : Hp} {σ : L2.St} {vs : List V} {i j k : Int} (h : VRs K T F H σ [.d (.int i), .d (.int j), .d (.int k)] vs) : vs = [.int i, .int j, .int k] := by
  cases h with | d h hs => cases h; rw [VRs.int2 hs]
theorem di_rng1 {a : Expr} {p : Pos} {ms : M (List W)} (hm : X.mg "range" = none) (ha : DA T X [a] ms) (hg : Gl X "range" := by rfl) (hs : starEach [a] X.env = [(false, eval a X.env)] := by rfl) : DI T X tg (.Call (.Name "range" p) [a] [] pos) (mRng1 ms) := by
  refine ⟨fun Wx tk => PI.weak (pi_range1 hg hm (ha.pa Wx tk) hs) fun σ H R h => ?_⟩
  obtain ⟨F, O, st, S, h⟩ := h
  refine ⟨F, O, st, S, h.bind .refl fun ws st1 F1 O1 H1 E1 _ S1 h1 vs rs => ?_⟩
  split at h1
  · rename_i j
    split at h1
    · rename_i hb
      rw [rs.int1]
      simp [b62] at hb
      exact ⟨j, rfl, hb.1, hb.2, h1 F1 O1 H1 E1 S1 _ [] .nil (by simp) gs_rng⟩
    · exact h1.elim
  · exact h1.elim
def mRng2 (ms : M (List W)) : M Src := bnd ms fun ws st => match ws with
  | [.d (.int i), .d (.int j)] => if b62 i && b62 j then .ok (.fz ((List.range (j - i).toNat).map fun k => .one (.int (i + (k : Nat))))) st else .bad
  | _ => .bad
theorem di_rng2 {a b : Expr} {p : Pos} {ms : M (List W)} (hm : X.mg "range" = none) (ha : DA T X [a, b] ms) (hg : Gl X "range" := by rfl) (hs : starEach [a, b] X.env = [(false, eval a X.env), (false, eval b X.env)] := by rfl) (hs2 : starEach [b] X.env = [(false, eval b X.env)] := by rfl) : DI T X tg (.Call (.Name "range" p) [a, b] [] pos) (mRng2 ms) := by
  refine ⟨fun Wx tk => PI.weak (pi_range2 hg hm (ha.pa Wx tk) hs hs2) fun σ H R h => ?_⟩
  obtain ⟨F, O, st, S, h⟩ := h
  refine ⟨F, O, st, S, h.bind .refl fun ws st1 F1 O1 H1 E1 _ S1 h1 vs rs => ?_⟩
  split at h1
  · rename_i i j
    split at h1
    · rename_i hb
      rw [rs.int2]
      simp [b62] at hb
      exact ⟨i, j, rfl, ⟨hb.1.1, hb.1.2, hb.2.1, hb.2.2⟩, h1 F1 O1 H1 E1 S1 _ [] .nil (by simp) gs_rng⟩
    · exact h1.elim
  · exact h1.elim
/-- range(i, j, -1) -/
def mRng3 (ms : M (List W)) : M Src := bnd ms fun ws st => match ws with
  | [.d (.int i), .d (.int j), .d (.int c)] => if b62 i && b62 j && c == -1 then .ok (.fz ((List.range (i - j).toNat).map fun k => .one (.int (i + (k : Nat) * -1)))) st else .bad
  | _ => .bad
theorem di_rng3 {a b c : Expr} {p : Pos} {ms : M (List W)} (hm : X.mg "range" = none) (ha : DA T X [a, b, c] ms) (hg : Gl X "range" := by rfl) (hs : starEach [a, b, c] X.env = (false, eval a X.env) :: starEach [b, c] X.env := by rfl) (hpl : (backTo pos (starEach [b, c] X.env)).any (·.1) = false := by rfl) : DI T X tg (.Call (.Name "range" p) [a, b, c] [] pos) (mRng3 ms) := by
  refine ⟨fun Wx tk => PI.weak (pi_range3 hg hm (ha.pa Wx tk) hs hpl) fun σ H R h => ?_⟩
  obtain ⟨F, O, st, S, h⟩ := h
  refine ⟨F, O, st, S, h.bind .refl fun ws st1 F1 O1 H1 E1 _ S1 h1 vs rs => ?_⟩
  split at h1
  · rename_i i j c
    split at h1
    · rename_i hb
      rw [rs.int3]
      simp [b62] at hb
      obtain ⟨⟨hb1, hb2⟩, rfl⟩ := hb
      exact ⟨i, j, -1, (i - j).toNat, rfl, RgC.neg hb1.1 hb1.2 hb2.1 hb2.2, h1 F1 O1 H1 E1 S1 _ [] .nil (by simp) gs_rngC⟩
    · exact h1.elim
  · exact h1.elim
/-- zip of two tuples -/
def mZipT (ms : M (List W)) : M Src := bnd ms fun ws st => match ws with
  | [.d (.tup ds), .d (.tup es)] => .ok (.fz ((ds.zip es).map fun p => .many [p.1, p.2])) st
  | _ => .bad
theorem di_zipT {e e2 : Expr} {p tpos : Pos} {elts : List Expr} {kk : Nat} {ms : M (List W)} (hm : X.mg "zip" = none) (ha : DA T X [e, e2] ms) (hg : Gl X "zip" := by rfl) (hs : starEach [e, e2] X.env = (false, eval e X.env) :: starEach [e2] X.env := by rfl) (hpl : (backTo pos (starEach [e2] X.env)).any (·.1) = false := by rfl) :
    DI T X (.Tuple elts kk tpos) (.Call (.Name "zip" p) [e, e2] [] pos) (mZipT ms) := by
  refine ⟨fun Wx tk => PI.weak (RZ.pi_zipA hg hm (ha.pa Wx tk) hs hpl) fun σ H R h => ?_⟩
  obtain ⟨F, O, st, S, h⟩ := h
  refine ⟨F, O, st, S, h.bind .refl fun ws st1 F1 O1 H1 E1 _ S1 h1 vs rs => ?_⟩
  split at h1
  · rename_i ds es
    have k : KeepF F1 H1 (fun a => F1 a ∨ a ∈ []) H1 := ⟨fun _ f => .inl f, fun _ _ _ e _ => e⟩
    cases rs with
    | d r1 rs => cases rs with
      | d r2 rs => cases rs; cases r1 with
        | tup a1 b1 => cases r2 with
          | tup a2 b2 => exact ⟨_, _, _, _, rfl, .inr ⟨a1.sq, a2.sq, h1 F1 O1 H1 E1 S1 _ [] .nil (by simp) (gs_zipT (k.fzT a1) (k.rds b1) (k.fzT a2) (k.rds b2))⟩⟩
  · exact h1.elim
/-- enumerate of a tuple -/
def mEnumT (ms : M (List W)) : M Src := bnd ms fun ws st => match ws with
  | [.d (.tup ds)] => .ok (.fz (ds.zipIdx.map fun p => .many [.int (p.2 : Nat), p.1])) st
  | _ => .bad
theorem di_enumT {e : Expr} {p tpos : Pos} {elts : List Expr} {kk : Nat} {ms : M (List W)} (hm : X.mg "enumerate" = none) (ha : DA T X [e] ms) (hg : Gl X "enumerate" := by rfl) (hs : starEach [e] X.env = [(false, eval e X.env)] := by rfl) :
    DI T X (.Tuple elts kk tpos) (.Call (.Name "enumerate" p) [e] [] pos) (mEnumT ms) := by
  refine ⟨fun Wx tk => PI.weak (pi_enumT hg hm (ha.pa Wx tk) hs) fun σ H R h => ?_⟩
  obtain ⟨F, O, st, S, h⟩ := h
  refine ⟨F, O, st, S, h.bind .refl fun ws st1 F1 O1 H1 E1 _ S1 h1 vs rs => ?_⟩
  split at h1
  · rename_i ds
    have k : KeepF F1 H1 (fun a => F1 a ∨ a ∈ []) H1 := ⟨fun _ f => .inl f, fun _ _ _ e _ => e⟩
    cases rs with
    | d r1 rs => cases rs; cases r1 with
      | tup a1 b1 => exact ⟨_, _, rfl, a1.sq, h1 F1 O1 H1 E1 S1 _ [] .nil (by simp) (gs_enumT (k.fzT a1) (k.rds b1))⟩
  · exact h1.elim
end
end DP
end
section
set_option Elab.async false
set_option linter.all false
set_option maxRecDepth 100000
set_option maxHeartbeats 4000000
/-! DP6: list comprehensions. -/
namespace DP
open PySem PySem.Spec PyProof.Rows L2
def wipeS (st : St) : List Nat → St
  | [] => st
  | v :: vs => (wipeS st vs).set v .no
/-- the block's own slots hold nothing owned -/
def okW (vs : List Nat) (st : St) : Bool := vs.all fun v => match st[v]? with
  | some (.o _ _) => false
  | some _ => true
  | none => false
def backS (st0 : St) : List Nat → St → St
  | [], st => st
  | v :: vs, st => backS st0 vs (st.set v (match st0[v]? with
    | some (.d x) => .d x
    | _ => .no))
section
variable {K : PySem.W.Frag} {T : Tb} {F : AP} {H : Hp} {O : List Addr} {σ : L2.St} {st : St}
theorem SL.wiped (h : SL K T F H σ st O) : ∀ vs, ∃ O', SL K T F H (wipe σ vs) (wipeS st vs) O' ∧ O'.Sublist O
  | [] => ⟨O, h, List.Sublist.refl _⟩
  | v :: vs => by
    obtain ⟨O1, h1, s1⟩ := SL.wiped h vs
    obtain ⟨O2, h2, s2⟩ := h1.set_no v none
    exact ⟨O2, h2, s2.trans s1⟩
theorem wipe_get {σ : L2.St} {j : Nat} : ∀ {vs : List Nat}, j ∉ vs → (wipe σ vs)[j]? = σ[j]?
  | [], _ => rfl
  | v :: vs, h => by
    unfold wipe
    rw [List.getElem?_set_ne (fun z => h (by subst z; exact List.mem_cons_self))]
    exact wipe_get fun z => h (List.mem_cons_of_mem _ z)
theorem wipe_at {σ : L2.St} {j : Nat} : ∀ {vs : List Nat}, j ∈ vs → j < σ.length → (wipe σ vs)[j]? = some none
  | v :: vs, h, hj => by
    unfold wipe
    by_cases e : v = j
    · subst e; rw [List.getElem?_set_self (by rw [wipe_length]; exact hj)]
    · rw [List.getElem?_set_ne e]
      refine wipe_at ?_ hj
      rcases List.mem_cons.mp h with z | z
      · exact absurd z.symm e
      · exact z
theorem wipe_eq {σ σ' : L2.St} {vs : List Nat} (hl : σ'.length = σ.length) (h : ∀ j, j ∉ vs → σ'[j]? = σ[j]?) : wipe σ' vs = wipe σ vs := by
  refine List.ext_getElem? fun j => ?_
  by_cases e : j ∈ vs
  · by_cases hj : j < σ.length
    · rw [wipe_at e hj, wipe_at e (by omega)]
    · rw [List.getElem?_eq_none (by rw [wipe_length]; omega), List.getElem?_eq_none (by rw [wipe_length]; omega)]
  · rw [wipe_get e, wipe_get e, h j e]
theorem wipe_wipe {σ : L2.St} {vs : List Nat} : wipe (wipe σ vs) vs = wipe σ vs := wipe_eq (wipe_length _ _) fun j h => wipe_get h
theorem wipe_off {σ σ' : L2.St} {sl vs : List Nat} (o : Off sl (wipe σ vs) σ') (hs : ∀ i ∈ sl, i ∈ vs) : wipe σ' vs = wipe σ vs := by
  rw [← wipe_wipe (σ := σ)]
  exact wipe_eq o.1 fun j h => o.2 j fun z => h (hs j z)
/-- the slots of the block are given back -/
theorem SL.back {st0 : St} {σ0 : L2.St} : ∀ (vs : List Nat) {st : St} {O : List Addr}, vs.Nodup → (∀ v ∈ vs, ∀ x, st0[v]? = some (.d x) → ∃ u, σ0[v]? = some (some u) ∧ RD K T F H u x) → SL K T F H (wipe σ0 vs) st O →
    ∃ O', SL K T F H σ0 (backS st0 vs st) O' ∧ O'.Sublist O
  | [], st, O, _, _, h => ⟨O, h, List.Sublist.refl _⟩
  | v :: vs, st, O, nd, g, h => by
    have nd' := List.nodup_cons.mp nd
    have e : ∀ u, (wipe σ0 vs)[v]? = some u → ((wipe σ0 vs).set v none).set v u = wipe σ0 vs := by
      intro u hu
      refine List.ext_getElem? fun j => ?_
      by_cases hj : j = v
      · subst hj
        have hl := (List.getElem?_eq_some_iff.mp hu).1
        rw [List.getElem?_set_self (by simpa using hl), hu]
      · rw [List.getElem?_set_ne (Ne.symm hj), List.getElem?_set_ne (Ne.symm hj)]
    have hget : (wipe σ0 vs)[v]? = σ0[v]? := wipe_get nd'.1
    unfold wipe at h
    unfold backS
    split
    · rename_i x e0
      obtain ⟨u, hu, r⟩ := g v List.mem_cons_self x e0
      obtain ⟨O1, h1, s1⟩ := h.set_d v r
      rw [e (some u) (by rw [hget]; exact hu)] at h1
      obtain ⟨O2, h2, s2⟩ := SL.back vs nd'.2 (fun w hw => g w (List.mem_cons_of_mem _ hw)) h1
      exact ⟨O2, h2, s2.trans s1⟩
    · by_cases hv : v < σ0.length
      · obtain ⟨O1, h1, s1⟩ := h.set_no v (σ0[v]'hv)
        rw [e (σ0[v]'hv) (by rw [hget]; simp)] at h1
        obtain ⟨O2, h2, s2⟩ := SL.back vs nd'.2 (fun w hw => g w (List.mem_cons_of_mem _ hw)) h1
        exact ⟨O2, h2, s2.trans s1⟩
      · obtain ⟨O1, h1, s1⟩ := h.set_no v none
        have e2 : ((wipe σ0 vs).set v none).set v none = wipe σ0 vs := by
          refine List.ext_getElem? fun j => ?_
          by_cases hj : j = v
          · subst hj
            rw [List.getElem?_eq_none (by simp [wipe_length]; omega), List.getElem?_eq_none (by simp [wipe_length]; omega)]
          · rw [List.getElem?_set_ne (Ne.symm hj), List.getElem?_set_ne (Ne.symm hj)]
        rw [e2] at h1
        obtain ⟨O2, h2, s2⟩ := SL.back vs nd'.2 (fun w hw => g w (List.mem_cons_of_mem _ hw)) h1
        exact ⟨O2, h2, s2.trans s1⟩
end
open Classical in
/-- the turns of a comprehension -/
noncomputable def cLoop (src : Src) (t : Item → M Unit) (test : M Bool) (elt : M W) (vs : List Nat) : List Item → List D → M (List D)
  | [], acc => fun st => if src.ok st then .ok acc st else .bad
  | it :: its, acc => fun st => if src.ok st then bnd (t it) (fun _ => bnd test fun b => if b then bnd elt (fun w st2 => match w.fzD with
      | some d => if acc.length < 1000000 then cLoop src t test elt vs its (acc ++ [d]) (wipeS st2 vs) else .bad
      | none => .bad) else fun st2 => cLoop src t test elt vs its acc (wipeS st2 vs)) st else .bad
def mLcEnd (vs : List Nat) (st1 : St) : Res (List D) → Res W
  | .ok acc st2 => .ok (.o (.lst acc)) (backS st1 vs st2)
  | _ => .bad
noncomputable def mLc (vs : List Nat) (src : M Src) (t : Item → M Unit) (test : M Bool) (elt : M W) : M W := bnd src fun s st1 =>
  if okW vs st1 then mLcEnd vs st1 (cLoop s t test elt vs s.items [] (wipeS st1 vs)) else .bad
/-- a clause's tests -/
structure DTs (T : Tb) (X : Cx) (ifs : List Expr) (m : M Bool) : Prop where
  pts : ∀ Wx, Takes X Wx → PTs X ifs (liftB X.K T Wx m)
theorem PTs.weak {X : Cx} {ifs : List Expr} {t t' : TT} (h : PTs X ifs t) (w : ∀ σ H Q, t' σ H Q → t σ H Q) : PTs X ifs t' := ⟨fun pins s σ H Q I q => h.run pins s σ H Q I (w σ H Q q)⟩
section
variable {X : Cx} {T : Tb} {pos : Pos}
theorem dts_nil : DTs T X [] (ret true) := ⟨fun Wx tk => PTs.weak pts_nil fun σ H Q ⟨F, O, st, S, h⟩ => h F O H .refl S⟩
theorem dts_one {c : Expr} {m : M Bool} (h : DT T X c m) : DTs T X [c] m := ⟨fun Wx tk => pts_one (h.pt Wx tk)⟩
/-- a good end alone: nothing is raised -/
theorem Post.good {α : Type} {K : PySem.W.Frag} {F : AP} {O : List Addr} {H : Hp} {σ : L2.St} {r : Res α} {G : α → St → AP → List Addr → Hp → Prop} (h : ∃ a st', r = .ok a st' ∧ ∀ F' O' H', Ext F O H F' O' H' → SRel K T F' O' H' σ st' → G a st' F' O' H') {Wx : WX} : Post K T Wx σ F O H r G := by
  obtain ⟨a, st', e, h⟩ := h
  rw [e]
  exact h
theorem bnd_okR {α β : Type} {m : M α} {k : α → M β} {st : St} (h : ∃ b s, bnd m k st = .ok b s) : ∃ a s, m st = .ok a s ∧ bnd m k st = k a s := by
  obtain ⟨b, s, h⟩ := h
  cases e : m st with
  | ok a s' => exact ⟨a, s', rfl, bnd_ok e⟩
  | exc e' s' => rw [bnd_exc e] at h; cases h
  | bad => unfold bnd at h; rw [e] at h; cases h
abbrev W0 : WX := fun _ _ _ _ => False
theorem lc_main {Wx : WX} {σ : L2.St} {H H1 : Hp} {F F1' : AP} {O O1 : List Addr} {st1 : St} {s : Src} {vs : List Nat} {t : Item → M Unit} {sl : List Nat} {test : M Bool} {elt : M W} {g : TG} {Q : VK} {Gd : AP → Hp → Prop} {J : It} (hg : LG X.K T g t sl) (hs : ∀ i ∈ sl, i ∈ vs) (nd : vs.Nodup)
    (h1 : Post X.K T Wx σ F O H (mLcEnd vs st1 (cLoop s t test elt vs s.items [] (wipeS st1 vs))) (GE X.K T σ H Q)) (E1' : Ext F O H F1' O1 H1) (S1' : SRel X.K T F1' O1 H1 σ st1) (G : Gs X.K T Gd J s.items)
    (hgd : ∀ F2 O2 H2 st2, Ext F1' O1 H1 F2 O2 H2 → SRel X.K T F2 O2 H2 (wipe σ vs) st2 → s.ok st2 → Gd F2 H2) (D : Addr) (hD : H1 D = none) :
    ∃ W : Nat → Nat → Hp → Prop, (∃ m, W 0 m (upd H1 D (.lst []))) ∧ ∀ i m H, W i m H →
      (J.stop i H ∧ Q (.ref D) H) ∨ (J.go i H ∧ ∃ Nx : Hp → Prop, (∀ H', Nx H' → ∃ m', m' < m ∧ W (i + 1) m' H') ∧ ∀ x H', J.yld i H x H' → g x (wipe σ vs) H' fun σ2 H2 => wipe σ2 vs = wipe σ vs ∧ liftB X.K T W0 test σ2 H2 fun b H3 =>
        if b = true then lift X.K T W0 elt σ2 H3 fun y H4 => ∃ acc, H4 D = some (.lst acc) ∧ acc.length < sizeLine ∧ Nx (upd H4 D (.lst (acc ++ [y]))) else Nx H3) := by
  let WW : Nat → Hp → Prop := fun i H2 => i ≤ s.items.length ∧ ∃ F2 O2 st2 accV accD, Ext F1' O1 H1 F2 O2 H2 ∧ SRel X.K T F2 O2 H2 (wipe σ vs) st2 ∧ H2 D = some (.lst accV) ∧ RDs X.K T F2 H2 accV accD ∧ D ∉ O2 ∧ ¬ F2 D ∧
    Post X.K T Wx σ F O H (mLcEnd vs st1 (cLoop s t test elt vs (s.items.drop i) accD st2)) (GE X.K T σ H Q)
  refine ⟨fun i m H2 => m = s.items.length - i ∧ WW i H2, ⟨_, rfl, ?_⟩, ?_⟩
  · obtain ⟨O2, sl2, sub2⟩ := (S1'.alloc (o := .lst []) hD).sl.wiped vs
    have fr := S1'.fresh hD
    exact ⟨Nat.zero_le _, F1', O2, _, [], [], ⟨fun _ f => f, (Ext.alloc (F := F1') (O := O1) hD).keep, fun _ f => .inl f, fun a ha => .inl (sub2.subset ha), (Ext.alloc (F := F1') (O := O1) hD).dom⟩, (S1'.alloc hD).sub sl2 sub2, upd_same, .nil, fun z => fr.1 (sub2.subset z), fr.2, h1⟩
  · rintro i m H2 ⟨rfl, hi, F2, O2, st2, accV, accD, E2, S2, hacc, racc, dO, dF, p⟩
    by_cases hlt : i < s.items.length
    · -- a turn
      right
      have hd : s.items.drop i = s.items[i] :: s.items.drop (i + 1) := List.drop_eq_getElem_cons hlt
      rw [hd] at p
      unfold cLoop at p
      by_cases hsok : s.ok st2
      · rw [if_pos hsok] at p
        have gd := hgd F2 O2 H2 st2 E2 S2 hsok
        -- the loop must end well
        have okr : ∃ b s', bnd (t s.items[i]) (fun _ => bnd test fun b => if b then bnd elt (fun w st2 => match w.fzD with
            | some d => if accD.length < 1000000 then cLoop s t test elt vs (s.items.drop (i + 1)) (accD ++ [d]) (wipeS st2 vs) else .bad
            | none => .bad) else fun st2 => cLoop s t test elt vs (s.items.drop (i + 1)) accD (wipeS st2 vs)) st2 = .ok b s' := by
          cases e : bnd (t s.items[i]) (fun _ => bnd test fun b => if b then bnd elt (fun w st2 => match w.fzD with
            | some d => if accD.length < 1000000 then cLoop s t test elt vs (s.items.drop (i + 1)) (accD ++ [d]) (wipeS st2 vs) else .bad
            | none => .bad) else fun st2 => cLoop s t test elt vs (s.items.drop (i + 1)) accD (wipeS st2 vs)) st2 with
          | ok b s' => exact ⟨b, s', rfl⟩
          | exc e' s' => rw [e] at p; exact p.elim
          | bad => rw [e] at p; exact p.elim
        refine ⟨G.go F2 H2 i gd hlt, fun H' => WW (i + 1) H', fun H' w => ⟨s.items.length - (i + 1), by omega, rfl, w⟩, fun x H' y => ?_⟩
        obtain ⟨F3, E3, S3, kp3, ri⟩ := G.yld F2 O2 H2 (wipe σ vs) st2 i x H' s.items[i] gd S2 (by simp [hlt]) y
        obtain ⟨u, st3, e3, e3'⟩ := bnd_okR okr
        rw [e3'] at okr p
        refine hg x (wipe σ vs) H' F3 O2 st2 st3 s.items[i] _ S3 ri e3 fun σ3 O3 hO3 S4 off => ⟨wipe_off off hs, F3, O3, st3, S4, ?_⟩
        have E34 : Ext F2 O2 H2 F3 O3 H' := ⟨E3.fz, E3.keep, E3.newF, fun a ha => E3.newO a (hO3 a ha), E3.dom⟩
        have hacc3 : H' D = some (.lst accV) := kp3 _ _ hacc
        have racc3 : RDs X.K T F3 H' accV accD := E3.rds S2.nf racc
        have dF3 : ¬ F3 D := fun z => by
          rcases E3.newF D z with q | q | q
          · exact dF q
          · exact dO q
          · rw [hacc] at q; cases q
        obtain ⟨b, st4, e4, e4'⟩ := bnd_okR okr
        rw [e4'] at okr p
        refine Post.good ⟨b, st4, e4, fun F5 O5 H5 E5 S5 => ?_⟩
        have dO3 : D ∉ O3 := fun z => dO (hO3 D z)
        have hacc5 : H5 D = some (.lst accV) := E5.keep _ _ hacc3 dO3 (fun ps z => by cases z)
        have racc5 : RDs X.K T F5 H5 accV accD := E5.rds S4.nf racc3
        have fr5 : D ∉ O5 ∧ ¬ F5 D := ⟨(fun z => (E5.newO D z).elim (fun q => dO3 q) (fun q => by rw [hacc3] at q; cases q)), (fun z => (E5.newF D z).elim (fun q => dF3 q) (fun q => q.elim (fun q => dO3 q) (fun q => by rw [hacc3] at q; cases q)))⟩
        have E15 : Ext F1' O1 H1 F5 O5 H5 := (E2.trans E34).trans E5
        show if b = true then _ else _
        cases b with
        | true =>
          show lift X.K T W0 elt σ3 H5 fun y H4 => ∃ acc, H4 D = some (.lst acc) ∧ acc.length < sizeLine ∧ WW (i + 1) (upd H4 D (.lst (acc ++ [y])))
          rw [if_pos rfl] at okr p
          obtain ⟨w, st5, e5, e5'⟩ := bnd_okR okr
          rw [e5'] at okr p
          refine ⟨F5, O5, st4, S5, Post.good ⟨w, st5, e5, fun F6 O6 H6 E6 S6 y own ry oky => ?_⟩⟩
          have hacc6 : H6 D = some (.lst accV) := E6.keep _ _ hacc5 fr5.1 (fun ps z => by cases z)
          have fr6 : D ∉ O6 ∧ ¬ F6 D := ⟨(fun z => (E6.newO D z).elim (fun q => fr5.1 q) (fun q => by rw [hacc5] at q; cases q)), (fun z => (E6.newF D z).elim (fun q => fr5.2 q) (fun q => q.elim (fun q => fr5.1 q) (fun q => by rw [hacc5] at q; cases q)))⟩
          have dOwn : D ∉ own := fun z => by
            have := (oky D z).2.2
            rw [hacc5] at this; cases this
          split at p
          · rename_i d ed
            split at p
            · rename_i hlen
              refine ⟨accV, hacc6, by rw [(E6.rds S5.nf racc5).len, sizeLine_eq]; omega, by omega, ?_⟩
              have oky' : OwnOk F6 O6 H1 own := fun a ha => ⟨(oky a ha).1, (oky a ha).2.1, E15.none_of (oky a ha).2.2⟩
              have S6' := S6.give oky ry.there
              have ne : ∀ a, (F6 a ∨ a ∈ own) → a ≠ D := fun a q z => by
                subst z
                rcases q with q | q
                · exact fr6.2 q
                · exact dOwn q
              have neO : ∀ a ∈ O6, a ≠ D := fun a q z => fr6.1 (z ▸ q)
              have S7 : SRel X.K T (fun a => F6 a ∨ a ∈ own) O6 (upd H6 D (.lst (accV ++ [y]))) σ3 st5 :=
                ⟨S6'.sl.mono (fun _ f => f) (fun a o q e _ => by
                  rw [upd_ne (q.elim (ne a) (neO a))]; exact e), S6'.nd, S6'.nf, fun a q => by rw [upd_ne (ne a q)]; exact S6'.fd a q⟩
              obtain ⟨O7, sl7, sub7⟩ := S7.sl.wiped vs
              rw [wipe_off off hs] at sl7
              have E16 : Ext F1' O1 H1 (fun a => F6 a ∨ a ∈ own) O6 H6 := (E15.trans E6).give oky'
              refine ⟨_, O7, _, accV ++ [y], accD ++ [d], ⟨E16.fz, fun a o e n tb => ?_, E16.newF, fun a ha => E16.newO a (sub7.subset ha), fun a ha => ?_⟩, S7.sub sl7 sub7, upd_same, ?_, fun z => fr6.1 (sub7.subset z), fun z => ne D z rfl, p⟩
              · rw [upd_ne (ne_of_none e hD)]; exact E16.keep a o e n tb
              · by_cases q : a = D
                · subst q; rw [upd_same]; simp
                · rw [upd_ne q]; exact E16.dom a ha
              · have r1 : RDs X.K T (fun a => F6 a ∨ a ∈ own) H6 (accV ++ [y]) (accD ++ [d]) :=
                  (RDs.mono (fun _ f => .inl f) (fun _ _ _ e _ => e) _ _ (E6.rds S5.nf racc5)).app (.cons (ry.fzD ed) .nil)
                exact RDs.mono (fun _ f => f) (fun a o q e _ => by rw [upd_ne (ne a q)]; exact e) _ _ r1
            · exact p.elim
          · exact p.elim
        | false =>
          show WW (i + 1) H5
          rw [if_neg Bool.false_ne_true] at p
          obtain ⟨O7, sl7, sub7⟩ := S5.sl.wiped vs
          rw [wipe_off off hs] at sl7
          exact ⟨by omega, F5, O7, _, accV, accD, ⟨E15.fz, E15.keep, E15.newF, fun a ha => E15.newO a (sub7.subset ha), E15.dom⟩, S5.sub sl7 sub7, hacc5, racc5, fun z => fr5.1 (sub7.subset z), fr5.2, p⟩
      · rw [if_neg hsok] at p; exact p.elim
    · -- the end
      left
      have hi' : i = s.items.length := by omega
      subst hi'
      rw [List.drop_length] at p
      unfold cLoop at p
      by_cases hsok : s.ok st2
      · rw [if_pos hsok] at p
        refine ⟨G.stop F2 H2 (hgd F2 O2 H2 st2 E2 S2 hsok), ?_⟩
        have back := SL.back (K := X.K) (T := T) (F := F2) (H := H2) (st0 := st1) (σ0 := σ) vs nd (fun v hv x e => by
          obtain ⟨u, h1, h2⟩ := S1'.sl.get_d e
          exact ⟨u, h1, E2.rd S1'.nf h2⟩) S2.sl
        obtain ⟨O3, sl3, sub3⟩ := back
        have E3 : Ext F1' O1 H1 F2 O3 H2 := ⟨E2.fz, E2.keep, E2.newF, fun a ha => E2.newO a (sub3.subset ha), E2.dom⟩
        exact p F2 O3 H2 (E1'.trans E3) (S2.sub sl3 sub3) (.ref D) [D] (.o (.lst hacc racc)) fun a ha => by
          simp at ha; subst ha; exact ⟨fun z => dO (sub3.subset z), dF, E1'.none_of hD⟩
      · rw [if_neg hsok] at p; exact p.elim
theorem run_lc {Wx : WX} {σ : L2.St} {H : Hp} {vs : List Nat} {src : M Src} {t : Item → M Unit} {sl : List Nat} {test : M Bool} {elt : M W} {g : TG} {Q : VK} (hg : LG X.K T g t sl) (hs : ∀ i ∈ sl, i ∈ vs) (nd : vs.Nodup)
    (h : lift X.K T Wx (mLc vs src t test elt) σ H Q) : tLc (liftI X.K T Wx src) g (liftB X.K T W0 test) (lift X.K T W0 elt) vs σ H Q := by
  obtain ⟨F, O, st, S, h⟩ := h
  refine ⟨F, O, st, S, h.bind .refl fun s st1 F1 O1 H1 E1 _ S1 h1 => ?_⟩
  split at h1
  · rename_i hok
    cases s with
    | fz its =>
      intro J own oko tro G
      have E1' := E1.give oko
      exact lc_main hg hs nd h1 E1' (S1.give oko tro) G fun F2 O2 H2 st2 E2 S2 _ => ⟨E2.fz, fun a o f e tb => E2.keep a o e (fun z => (S1.give oko tro).nf a z f) tb⟩
    | live i ds =>
      intro a ha
      have hiv : i ∉ vs ∨ ¬ (Src.live i ds).ok (wipeS st1 vs) := by
        by_cases q : i ∈ vs
        · right
          rintro ⟨t', e⟩
          obtain ⟨O2, sl2, _⟩ := S1.sl.wiped vs
          obtain ⟨u, own, s1, _⟩ := sl2.get_o e
          by_cases hi : i < σ.length
          · rw [wipe_at q hi] at s1; cases s1
          · rw [List.getElem?_eq_none (by rw [wipe_length]; omega)] at s1; cases s1
        · exact .inl q
      rcases hiv with hiv | hiv
      · refine lc_main (Gd := fun F2 H2 => ∃ xs, H2 a = some (.lst xs) ∧ RDs X.K T F2 H2 xs ds) hg hs nd h1 E1 S1 (gs_list (vs := []) fun F' H' g => g) fun F2 O2 H2 st2 E2 S2 hk => ?_
        obtain ⟨t', e⟩ := hk
        obtain ⟨u, own, s1, _, r, _⟩ := S2.sl.get_o e
        rw [wipe_get hiv, ha] at s1
        have : u = .ref a := by simpa using s1.symm
        subst this
        cases r with
        | lst q1 q2 => exact ⟨_, q1, q2⟩
      · -- it does not even begin
        exfalso
        have : cLoop (Src.live i ds) t test elt vs (Src.live i ds).items [] (wipeS st1 vs) = .bad := by
          cases (Src.live i ds).items with
          | nil => unfold cLoop; rw [if_neg hiv]
          | cons it its => unfold cLoop; rw [if_neg hiv]
        rw [this] at h1
        exact h1
  · exact h1.elim
theorem de_lc {elt tg iter : Expr} {ifs : List Expr} {scope : Scope} {own : List (Str × Nat)} {src : M Src} {t : Item → M Unit} {sl : List Nat} {test : M Bool} {me : M W} {g : TG} (hc : X.calm = true) (hN : X.N.Nodup) (hi : DI T X tg iter src) (ok : blkC X.N X.env.scope scope own = true)
    (hg : ∀ (s : Shared) (H : Hp) (C : Addr) (cl : List (Str × Addr)) (fp : List Addr), DG T (X.blk s H scope (compEnvC scope cl C X.env) fp) tg g t sl) (ht : ∀ (s : Shared) (H : Hp) (C : Addr) (cl : List (Str × Addr)) (fp : List Addr), DTs T (X.blk s H scope (compEnvC scope cl C X.env) fp) ifs test)
    (he : ∀ (s : Shared) (H : Hp) (C : Addr) (cl : List (Str × Addr)) (fp : List Addr), DE T (X.blk s H scope (compEnvC scope cl C X.env) fp) elt me) (hsl : ∀ i ∈ sl, i ∈ own.map (·.2)) (nd : (own.map (·.2)).Nodup) (hs : ∀ x, foldedSetIterable iter X.env x = pure x := by intro _; rfl) :
    DE T X (.ListComp elt [⟨tg, iter, ifs, 0⟩] scope pos) (mLc (own.map (·.2)) src t test me) := by
  refine ⟨fun Wx tk => PE.weak (pe_lc hc hN (hi.pi Wx tk) (blkOk_by ok) (fun s H C cl fp => (hg s H C cl fp).pg) (fun s H C cl fp => (ht s H C cl fp).pts W0 takes0) (fun s H C cl fp => (he s H C cl fp).pe W0 takes0) hs) fun σ H Q h => run_lc (hg {} H 0 [] []).lg hsl nd h⟩
end
end DP
end
section
set_option Elab.async false
set_option linter.all false
set_option maxRecDepth 100000
set_option maxHeartbeats 4000000
/-! DP7: statements. -/
namespace DP
open PySem PySem.Spec PyProof.Rows L2
inductive Fl where
  | nx | bk | ct | ret (w : W)
def RetOk (F' : AP) (O' O : List Addr) (H : Hp) (own : List Addr) : Prop := ∀ a ∈ own, a ∉ O' ∧ ¬ F' a ∧ (a ∈ O ∨ H a = none)
def PostS (K : PySem.W.Frag) (T : Tb) (Wx : WX) (F : AP) (O : List Addr) (H : Hp) (r : Res Fl) (D : Ends) : Prop := match r with
  | .ok .nx st' => ∀ F' O' H' σ', Ext F O H F' O' H' → SRel K T F' O' H' σ' st' → D.nx σ' H'
  | .ok .bk st' => ∀ F' O' H' σ', Ext F O H F' O' H' → SRel K T F' O' H' σ' st' → D.bk σ' H'
  | .ok .ct st' => ∀ F' O' H' σ', Ext F O H F' O' H' → SRel K T F' O' H' σ' st' → D.ct σ' H'
  | .ok (.ret w) st' => ∀ F' O' H' σ' v own, Ext F O H F' O' H' → SRel K T F' O' H' σ' st' → VR K T F' H' σ' w v own → RetOk F' O' O H own → D.rt v H'
  | .exc e st' => ∀ F' O' H' σ' cls dx, Ext F O H F' O' H' → SRel K T F' O' H' σ' st' → ER K T F' H' e cls dx → Wx cls dx σ' H'
  | .bad => False
def liftS (K : PySem.W.Frag) (T : Tb) (Wx : WX) (m : M Fl) : TS := fun D σ H => ∃ F O st, SRel K T F O H σ st ∧ PostS K T Wx F O H (m st) D
structure DS (T : Tb) (X : Cx) (s : Stmt) (m : M Fl) : Prop where
  ps : ∀ Wx, Takes X Wx → PassesOwn (model X.prog X.w) X.A X.env X.xe → PS X s (liftS X.K T Wx m)
structure DSs (T : Tb) (X : Cx) (s : List Stmt) (m : M Fl) : Prop where
  pss : ∀ Wx, Takes X Wx → PassesOwn (model X.prog X.w) X.A X.env X.xe → PSs X s (liftS X.K T Wx m)
theorem PS.weak {X : Cx} {s : Stmt} {t t' : TS} (h : PS X s t) (w : ∀ D σ H, t' D σ H → t D σ H) : PS X s t' := ⟨fun pins s σ H D I q => h.run pins s σ H D I (w D σ H q)⟩
theorem PSs.weak {X : Cx} {s : List Stmt} {t t' : TS} (h : PSs X s t) (w : ∀ D σ H, t' D σ H → t D σ H) : PSs X s t' := ⟨fun pins s σ H D I q => h.run pins s σ H D I (w D σ H q)⟩
section
variable {K : PySem.W.Frag} {T : Tb} {Wx : WX} {F F1 : AP} {O O1 : List Addr} {H H1 : Hp} {σ : L2.St} {st : St} {D D' : Ends}
theorem Ext.alt {a : Addr} (E1 : Ext F O H F1 O1 H1) (h : a ∈ O1 ∨ H1 a = none) : a ∈ O ∨ H a = none := h.elim (E1.newO a) fun q => .inr (E1.none_of q)
theorem PostS.on {r : Res Fl} (E1 : Ext F O H F1 O1 H1) (h : PostS K T Wx F O H r D) : PostS K T Wx F1 O1 H1 r D := by
  cases r with
  | ok f st' => cases f with
    | nx => exact fun F' O' H' σ' x S => h F' O' H' σ' (E1.trans x) S
    | bk => exact fun F' O' H' σ' x S => h F' O' H' σ' (E1.trans x) S
    | ct => exact fun F' O' H' σ' x S => h F' O' H' σ' (E1.trans x) S
    | ret w => exact fun F' O' H' σ' v own x S r ok => h F' O' H' σ' v own (E1.trans x) S r fun a ha => ⟨(ok a ha).1, (ok a ha).2.1, E1.alt (ok a ha).2.2⟩
  | exc e st' => exact fun F' O' H' σ' cls dx x S r => h F' O' H' σ' cls dx (E1.trans x) S r
  | bad => exact h
/-- expressions within a statement -/
theorem PostS.bind {α : Type} {m : M α} {k : α → M Fl} {G1 : α → St → AP → List Addr → Hp → Prop} (E1 : Ext F O H F1 O1 H1) (h : PostS K T Wx F O H (bnd m k st) D)
    (hk : ∀ a st2 F2 O2 H2, Ext F O H F2 O2 H2 → Ext F1 O1 H1 F2 O2 H2 → SRel K T F2 O2 H2 σ st2 → PostS K T Wx F O H (k a st2) D → G1 a st2 F2 O2 H2) : Post K T Wx σ F1 O1 H1 (m st) G1 := by
  unfold bnd at h
  cases e : m st with
  | ok a s => rw [e] at h; exact fun F' O' H' x S => hk a s F' O' H' (E1.trans x) x S h
  | exc e' s => rw [e] at h; exact fun F' O' H' cls dx x S r => h F' O' H' σ cls dx (E1.trans x) S r
  | bad => rw [e] at h; exact h
/-! ### in order -/
def thenS (m2 : M Fl) : Fl → M Fl
  | .nx => m2
  | f => ret f
def sNx : M Fl := ret .nx
def sSeq (m1 m2 : M Fl) : M Fl := bnd m1 (thenS m2)
/-- behind a statement -/
theorem PostS.seq {m1 : M Fl} {k : Fl → M Fl} {D1 : Ends} (h : PostS K T Wx F O H (bnd m1 k st) D)
    (nx : ∀ F' O' H' σ' st', Ext F O H F' O' H' → SRel K T F' O' H' σ' st' → PostS K T Wx F O H (k .nx st') D → D1.nx σ' H')
    (bk : ∀ F' O' H' σ' st', Ext F O H F' O' H' → SRel K T F' O' H' σ' st' → PostS K T Wx F O H (k .bk st') D → D1.bk σ' H')
    (ct : ∀ F' O' H' σ' st', Ext F O H F' O' H' → SRel K T F' O' H' σ' st' → PostS K T Wx F O H (k .ct st') D → D1.ct σ' H')
    (rt : ∀ w st', k (.ret w) st' = .ok (.ret w) st') (hr : ∀ v H', D.rt v H' → D1.rt v H') : PostS K T Wx F O H (m1 st) D1 := by
  unfold bnd at h
  cases e : m1 st with
  | ok f s =>
    rw [e] at h
    cases f with
    | nx => exact fun F' O' H' σ' x S => nx F' O' H' σ' s x S h
    | bk => exact fun F' O' H' σ' x S => bk F' O' H' σ' s x S h
    | ct => exact fun F' O' H' σ' x S => ct F' O' H' σ' s x S h
    | ret w =>
      replace h : PostS K T Wx F O H (k (.ret w) s) D := h
      rw [rt] at h
      exact fun F' O' H' σ' v own x S r ok => hr v H' (h F' O' H' σ' v own x S r ok)
  | exc e' s => rw [e] at h; exact h
  | bad => rw [e] at h; exact h
theorem liftS_seq {m1 m2 : M Fl} (h : liftS K T Wx (sSeq m1 m2) D σ H) : liftS K T Wx m1 { D with nx := liftS K T Wx m2 D } σ H := by
  obtain ⟨F, O, st, S, h⟩ := h
  exact ⟨F, O, st, S, PostS.seq (D1 := { D with nx := liftS K T Wx m2 D }) h (fun F' O' H' σ' st' x S' q => ⟨F', O', st', S', q.on x⟩) (fun F' O' H' σ' st' x S' q => q F' O' H' σ' x S') (fun F' O' H' σ' st' x S' q => q F' O' H' σ' x S') (fun _ _ => rfl) fun _ _ q => q⟩
/-! ### the slots -/
def asgW (i : Nat) (w : W) (st : St) : Option St := match st[i]? with
  | some s => if freeS s then (match w with
    | .d x => some (st.set i (.d x))
    | .o x => some (st.set i (.o none x))
    | .b _ => none) else none
  | none => none
theorem SRel.asg {i : Nat} {w : W} {v : V} {own : List Addr} {st' : St} (S : SRel K T F O H σ st) (r : VR K T F H σ w v own) (ok : ∀ a ∈ own, a ∉ O ∧ ¬ F a) (e : asgW i w st = some st') :
    ∃ O', SRel K T F O' H (σ.set i (some v)) st' ∧ ∀ a ∈ O', a ∈ O ∨ a ∈ own := by
  unfold asgW at e
  split at e
  · split at e
    · cases r with
      | d r =>
        cases e
        obtain ⟨O', sl, sub⟩ := S.sl.set_d i r
        exact ⟨O', S.sub sl sub, fun a ha => .inl (sub.subset ha)⟩
      | o r =>
        cases e
        obtain ⟨O', sl, m, nd⟩ := S.sl.set_o i (t := none) S.nd (fun u z => by cases z) r (fun a ha => (ok a ha).1)
        exact ⟨O', ⟨sl, nd, fun a ha => (m a ha).elim (S.nf a) fun q => (ok a q).2, S.fd⟩, m⟩
      | b r => cases e
    · cases e
  · cases e
theorem Ext.asg {F0 : AP} {O0 O' own : List Addr} {H0 : Hp} (E : Ext F0 O0 H0 F O H) (m : ∀ a ∈ O', a ∈ O ∨ a ∈ own) (ok : ∀ a ∈ own, a ∈ O0 ∨ H0 a = none) : Ext F0 O0 H0 F O' H :=
  ⟨E.fz, E.keep, E.newF, fun a ha => (m a ha).elim (E.newO a) (ok a), E.dom⟩
/-- a slot's owned thing is taken out -/
theorem SL.drop : ∀ {σ : L2.St} {st : St} {O : List Addr} {i : Nat} {t : Option Nat} {x : OD}, SL K T F H σ st O → O.Nodup → st[i]? = some (.o t x) →
    ∃ v own O', σ[i]? = some (some v) ∧ (∀ j, t = some j → T.pin j = v) ∧ RO K T F H v x own ∧ SL K T F H σ (st.set i .no) O' ∧ O'.Sublist O ∧ ∀ a ∈ own, a ∈ O ∧ a ∉ O'
  | _, _, _, i, _, _, .nil, _, e => by simp at e
  | _, _, _, 0, _, _, .no h, _, e => by simp at e
  | _, _, _, 0, _, _, .d hv h, _, e => by simp at e
  | _, _, _, 0, _, _, .o ht hv h, n, e => by
    simp at e
    obtain ⟨rfl, rfl⟩ := e
    exact ⟨_, _, _, rfl, ht, hv, .no h, List.sublist_append_right _ _, fun a ha => ⟨List.mem_append_left _ ha, (nodup_app.mp n).2.2 a ha⟩⟩
  | _, _, _, i + 1, _, _, .no h, n, e => by
    obtain ⟨v, own, O', h1, h2, h3, h4, h5, h6⟩ := SL.drop (i := i) h n (by simpa using e)
    exact ⟨v, own, O', by simpa using h1, h2, h3, .no h4, h5, h6⟩
  | _, _, _, i + 1, _, _, .d hv h, n, e => by
    obtain ⟨v, own, O', h1, h2, h3, h4, h5, h6⟩ := SL.drop (i := i) h n (by simpa using e)
    exact ⟨v, own, O', by simpa using h1, h2, h3, .d hv h4, h5, h6⟩
  | _, _, _, i + 1, _, _, .o (own := ow) ht hv h, n, e => by
    obtain ⟨n1, n2, n3⟩ := nodup_app.mp n
    obtain ⟨v, own, O', h1, h2, h3, h4, h5, h6⟩ := SL.drop (i := i) h n2 (by simpa using e)
    refine ⟨v, own, ow ++ O', by simpa using h1, h2, h3, .o ht hv h4, List.Sublist.append (List.Sublist.refl _) h5, fun a ha => ⟨List.mem_append_right _ (h6 a ha).1, fun z => ?_⟩⟩
    rcases List.mem_append.mp z with q | q
    · exact n3 a q (h6 a ha).1
    · exact (h6 a ha).2 q
theorem set_same {σ : L2.St} {i : Nat} {v : V} (h : σ[i]? = some (some v)) : σ.set i (some v) = σ := by
  refine List.ext_getElem? fun j => ?_
  by_cases hj : j = i
  · subst hj
    rw [List.getElem?_set_self (List.getElem?_eq_some_iff.mp h).1, h]
  · rw [List.getElem?_set_ne (Ne.symm hj)]
/-- the owned thing of a slot is given up -/
theorem SRel.frz {i : Nat} {t : Option Nat} {x : OD} (S : SRel K T F O H σ st) (e : st[i]? = some (.o t x)) :
    ∃ F' O' v, SRel K T F' O' H σ (st.set i (.d (fz x))) ∧ Ext F O H F' O' H ∧ σ[i]? = some (some v) ∧ RD K T F' H v (fz x) := by
  obtain ⟨v, own, O', h1, _, h3, h4, h5, h6⟩ := S.sl.drop S.nd e
  have r : RD K T (fun a => F a ∨ a ∈ own) H v (fz x) := h3.freeze (fun _ f => .inl f) (fun _ f => .inr f)
  have nf : ∀ a ∈ O', ¬ (F a ∨ a ∈ own) := fun a ha z => z.elim (S.nf a (h5.subset ha)) fun q => (h6 a q).2 ha
  obtain ⟨O2, sl, sub⟩ := (h4.mono (F' := fun a => F a ∨ a ∈ own) (H' := H) (fun _ f => .inl f) (fun _ _ _ e _ => e)).set_d i r
  rw [set_same h1, List.set_set] at sl
  refine ⟨_, O2, v, ⟨sl, (S.nd.sublist h5).sublist sub, fun a ha => nf a (sub.subset ha), fun a z => z.elim (S.fd a) (h3.there a)⟩, ⟨fun a f => .inl f, fun _ _ e _ _ => e, fun a z => z.elim .inl fun q => .inr (.inl (h6 a q).1), fun a ha => .inl (h5.subset (sub.subset ha)), fun _ h => h⟩, h1, r⟩
/-- the owned list of a slot is rewritten in place -/
theorem SRel.putL {i : Nat} {t : Option Nat} {ds es : List DP.D} {p : Addr} {ys : List V} (S : SRel K T F O H σ st) (e : st[i]? = some (.o t (.lst ds))) (hp : σ[i]? = some (some (.ref p))) (r : RDs K T F H ys es) :
    SRel K T F O (upd H p (.lst ys)) σ (st.set i (.o t (.lst es))) ∧ Ext F O H F O (upd H p (.lst ys)) := by
  obtain ⟨v, own, s1, s2, ro, mo⟩ := S.sl.get_o e
  rw [hp] at s1
  have : v = .ref p := by simpa using s1.symm
  subst this
  cases ro with
  | lst ha hs =>
    have pO := mo p (by simp)
    have ne : ∀ a, F a → a ≠ p := fun a f z => S.nf p pO (z ▸ f)
    refine ⟨⟨S.sl.chg i S.nd e (fun v own e2 r2 m2 => ?_) (fun a o q e2 _ => ?_), S.nd, S.nf, fun a f => ?_⟩, ⟨fun _ f => f, fun a o e2 n _ => ?_, fun _ f => .inl f, fun _ f => .inl f, fun a z => ?_⟩⟩
    · cases r2 with
      | @lst a2 xs2 _ h2 hs2 =>
        rw [hp] at e2
        have : p = a2 := by simpa using e2
        subst this
        exact .lst upd_same (RDs.mono (fun _ f => f) (fun a o f e3 _ => by rw [upd_ne (ne a f)]; exact e3) _ _ r)
    · rw [upd_ne]
      · exact e2
      · rcases q with f | ⟨q1, q2⟩
        · exact ne a f
        · intro z
          subst z
          exact q2 _ _ hp (.lst ha hs) (by simp)
    · rw [upd_ne (ne a f)]; exact S.fd a f
    · rw [upd_ne (fun z => by subst z; exact n pO)]; exact e2
    · by_cases q : a = p
      · subst q; rw [upd_same]; simp
      · rw [upd_ne q]; exact z
end
section
variable {X : Cx} {T : Tb} {pos : Pos}
theorem dss_nil : DSs T X [] sNx := ⟨fun Wx tk po => PSs.weak pss_nil fun D σ H ⟨F, O, st, S, h⟩ => h F O H σ .refl S⟩
theorem dss_cons {s : Stmt} {ss : List Stmt} {m ms : M Fl} (h : DS T X s m) (hs : DSs T X ss ms) : DSs T X (s :: ss) (sSeq m ms) := ⟨fun Wx tk po => PSs.weak (pss_cons (h.ps Wx tk po) (hs.pss Wx tk po)) fun D σ H q => liftS_seq q⟩
theorem dss_one {s : Stmt} {m : M Fl} (h : DS T X s m) : DSs T X [s] m := ⟨fun Wx tk po => pss_one (h.ps Wx tk po)⟩
theorem ds_pass : DS T X (.Pass pos) sNx := ⟨fun Wx tk po => PS.weak ps_pass fun D σ H ⟨F, O, st, S, h⟩ => h F O H σ .refl S⟩
theorem ds_break : DS T X (.Break pos) (ret .bk) := ⟨fun Wx tk po => PS.weak ps_break fun D σ H ⟨F, O, st, S, h⟩ => h F O H σ .refl S⟩
theorem ds_continue : DS T X (.Continue pos) (ret .ct) := ⟨fun Wx tk po => PS.weak ps_continue fun D σ H ⟨F, O, st, S, h⟩ => h F O H σ .refl S⟩
theorem ds_doc {x j pos'} : DS T X (.Expr (.Constant (.str x) j pos) pos') sNx := ⟨fun Wx tk po => PS.weak ps_doc fun D σ H ⟨F, O, st, S, h⟩ => h F O H σ .refl S⟩
def sBad : M Fl := fun _ => .bad
theorem ds_never {s : Stmt} : DS T X s sBad := ⟨fun Wx tk po => PS.weak ps_never fun D σ H ⟨F, O, st, S, h⟩ => h⟩
theorem dss_never {s : List Stmt} : DSs T X s sBad := ⟨fun Wx tk po => PSs.weak pss_never fun D σ H ⟨F, O, st, S, h⟩ => h⟩
def sDrop (m : M W) : M Fl := bnd m fun _ => sNx
theorem ds_expr {e : Expr} {m : M W} (h : DE T X e m) (hs : swapsWith e none pos.line X.env = pure false := by rfl) : DS T X (.Expr e pos) (sDrop m) := by
  refine ⟨fun Wx tk po => PS.weak (ps_expr (h.pe Wx tk) hs) fun D σ H h => ?_⟩
  obtain ⟨F, O, st, S, h⟩ := h
  exact ⟨F, O, st, S, PostS.bind .refl h fun w st1 F1 O1 H1 E1 _ S1 h1 v own r ok => h1 F1 O1 H1 σ E1 S1⟩
def retW (w : W) : M Fl := fun st => match w with
  | .b i => match st[i]? with
    | some (.o none x) => .ok (.ret (.o x)) (st.set i .no)
    | _ => .bad
  | w => .ok (.ret w) st
def sRet (m : M W) : M Fl := bnd m retW
theorem ds_ret {e : Expr} {m : M W} (h : DE T X e m) : DS T X (.Return (some e) pos) (sRet m) := by
  refine ⟨fun Wx tk po => PS.weak (ps_ret (h.pe Wx tk)) fun D σ H h => ?_⟩
  obtain ⟨F, O, st, S, h⟩ := h
  refine ⟨F, O, st, S, PostS.bind .refl h fun w st1 F1 O1 H1 E1 _ S1 h1 v own r ok => ?_⟩
  unfold retW at h1
  have ok' : RetOk F1 O1 O H own := fun a ha => ⟨(ok a ha).1, (ok a ha).2.1, .inr (ok a ha).2.2⟩
  cases w with
  | d x => exact h1 F1 O1 H1 σ v own E1 S1 r ok'
  | o x => exact h1 F1 O1 H1 σ v own E1 S1 r ok'
  | b i =>
    dsimp only at h1
    split at h1
    · rename_i x e
      obtain ⟨v2, own2, O2, q1, q2, q3, q4, q5, q6⟩ := S1.sl.drop S1.nd e
      cases r with
      | b hv =>
        rw [hv] at q1
        have : v = v2 := by simpa using q1
        subst this
        exact h1 F1 O2 H1 σ v own2 ⟨E1.fz, E1.keep, E1.newF, fun a ha => E1.newO a (q5.subset ha), E1.dom⟩ (S1.sub q4 q5) (.o q3) fun a ha => ⟨(q6 a ha).2, S1.nf a (q6 a ha).1, E1.newO a (q6 a ha).1⟩
    · exact h1.elim
theorem ds_retN : DS T X (.Return none pos) (ret (.ret (.d .non))) := ⟨fun Wx tk po => PS.weak ps_retN fun D σ H ⟨F, O, st, S, h⟩ => h F O H σ .non [] .refl S (.d .non) fun a ha => by simp at ha⟩
def sIf (c : M Bool) (a b : M Fl) : M Fl := bnd c fun t => if t then a else b
theorem ds_if {c : Expr} {a b : List Stmt} {mc : M Bool} {ma mb : M Fl} (hc : DT T X c mc) (ha : DSs T X a ma) (hb : DSs T X b mb) : DS T X (.If c a b pos) (sIf mc ma mb) := by
  refine ⟨fun Wx tk po => PS.weak (ps_if (hc.pt Wx tk) (ha.pss Wx tk po) (hb.pss Wx tk po)) fun D σ H h => ?_⟩
  obtain ⟨F, O, st, S, h⟩ := h
  refine ⟨F, O, st, S, PostS.bind .refl h fun b st1 F1 O1 H1 E1 _ S1 h1 => ?_⟩
  cases b with
  | true => exact ⟨F1, O1, st1, S1, h1.on E1⟩
  | false => exact ⟨F1, O1, st1, S1, h1.on E1⟩
/-! ### assignments -/
/-- what a slot holds is given up -/
def mFz (m : M W) : M W := bnd m fun w st => match w with
  | .d x => .ok (.d x) st
  | .o x => .ok (.d (fz x)) st
  | .b i => match st[i]? with
    | some (.o none x) => .ok (.d (fz x)) (st.set i (.d (fz x)))
    | _ => .bad
theorem de_fz {e : Expr} {m : M W} (h : DE T X e m) : DE T X e (mFz m) := by
  refine ⟨fun Wx tk => PE.weak (h.pe Wx tk) fun σ H Q h => ?_⟩
  obtain ⟨F, O, st, S, h⟩ := h
  refine ⟨F, O, st, S, h.bind .refl fun w st1 F1 O1 H1 E1 _ S1 h1 v own r ok => ?_⟩
  cases w with
  | d x => exact h1 F1 O1 H1 E1 S1 v own r ok
  | o x => exact h1 _ O1 H1 (E1.give ok) (S1.give ok r.there) v [] (.d (r.fzD rfl)) .nil
  | b i =>
    dsimp only at h1
    split at h1
    · rename_i x e
      obtain ⟨F2, O2, v2, S2, E2, q1, q2⟩ := S1.frz e
      cases r with
      | b hv =>
        rw [hv] at q1
        have : v = v2 := by simpa using q1
        subst this
        exact h1 F2 O2 H1 (E1.trans E2) S2 v [] (.d q2) .nil
    · exact h1.elim
def endS (o : Option St) : Res Fl := match o with
  | some st => .ok .nx st
  | none => .bad
def sSet (i : Nat) (m : M W) : M Fl := bnd m fun w st => endS (asgW i w st)
theorem sSet_end {Wx : WX} {F F1 : AP} {O O1 : List Addr} {H H1 : Hp} {σ : L2.St} {st1 : St} {D : Ends} {i : Nat} {w : W} {v : V} {own : List Addr} (h : PostS X.K T Wx F O H (endS (asgW i w st1)) D) (E1 : Ext F O H F1 O1 H1) (S1 : SRel X.K T F1 O1 H1 σ st1) (r : VR X.K T F1 H1 σ w v own) (ok : OwnOk F1 O1 H own) :
    D.nx (σ.set i (some v)) H1 := by
  cases e : asgW i w st1 with
  | none => rw [e] at h; exact h.elim
  | some st2 =>
    rw [e] at h
    obtain ⟨O2, S2, m⟩ := S1.asg r (fun a ha => ⟨(ok a ha).1, (ok a ha).2.1⟩) e
    exact h F1 O2 H1 _ (E1.asg m fun a ha => .inr (ok a ha).2.2) S2
theorem ds_set (i : Nat) {x : Str} {e : Expr} {m : M W} {pos' : Pos} (hN : X.N.Nodup) (h : DE T X e m) (hi : X.N[i]? = some x := by rfl) (hx : Loc X.env.scope x := by first | exact Or.inl rfl | exact Or.inr rfl) (hs : swapsWith e (some (.Name x pos')) pos.line X.env = pure false := by rfl)
    (hf : X.fn x = true ∨ X.env.scope.names.lookup x = some .local := by first | exact .inl rfl | exact .inr rfl) : DS T X (.Assign [.Name x pos'] e pos) (sSet i m) := by
  refine ⟨fun Wx tk po => PS.weak (ps_set hN hi hx (h.pe Wx tk) hs hf) fun D σ H h => ?_⟩
  obtain ⟨F, O, st, S, h⟩ := h
  exact ⟨F, O, st, S, PostS.bind .refl h fun w st1 F1 O1 H1 E1 _ S1 h1 v own r ok => sSet_end h1 E1 S1 r ok⟩
/-- name = [..] on one line -/
theorem ds_setLc (i : Nat) {y : Str} {py spos : Pos} {elt tg iter : Expr} {ifs : List Expr} {scope : Scope} {own : List (Str × Nat)} {src : M Src} {t : Item → M Unit} {sl : List Nat} {test : M Bool} {me : M W} {g : TG} (hc : X.calm = true) (hN : X.N.Nodup) (hi : DI T X tg iter src) (ok : blkC X.N X.env.scope scope own = true)
    (hg : ∀ (s : Shared) (H : Hp) (C : Addr) (cl : List (Str × Addr)) (fp : List Addr), DG T (X.blk s H scope (compEnvC scope cl C X.env) fp) tg g t sl) (ht : ∀ (s : Shared) (H : Hp) (C : Addr) (cl : List (Str × Addr)) (fp : List Addr), DTs T (X.blk s H scope (compEnvC scope cl C X.env) fp) ifs test)
    (he : ∀ (s : Shared) (H : Hp) (C : Addr) (cl : List (Str × Addr)) (fp : List Addr), DE T (X.blk s H scope (compEnvC scope cl C X.env) fp) elt me) (hsl : ∀ i ∈ sl, i ∈ own.map (·.2)) (nd : (own.map (·.2)).Nodup)
    (hsw : swapsWith (.ListComp elt [⟨tg, iter, ifs, 0⟩] scope pos) (some (.Name y py)) spos.line X.env = pure true) (hy : X.N[i]? = some y := by rfl) (hyl : X.env.scope.names.lookup y = some .local := by rfl) (hs : ∀ x, foldedSetIterable iter X.env x = pure x := by intro _; rfl) :
    DS T X (.Assign [.Name y py] (.ListComp elt [⟨tg, iter, ifs, 0⟩] scope pos) spos) (sSet i (mLc (own.map (·.2)) src t test me)) := by
  refine ⟨fun Wx tk po => PS.weak (ps_setLc (te := lift X.K T W0 me) (tt := liftB X.K T W0 test) (wi := liftI X.K T Wx src) hc hN hy hyl hsw (hi.pi Wx tk) (blkOk_by ok) (fun s H C cl fp => (hg s H C cl fp).pg) (fun s H C cl fp => (ht s H C cl fp).pts W0 takes0) (fun s H C cl fp => (he s H C cl fp).pe W0 takes0) hs) fun D σ H h => ?_⟩
  obtain ⟨F, O, st, S, h⟩ := h
  exact run_lc (Wx := Wx) (hg {} H 0 [] []).lg hsl nd ⟨F, O, st, S, PostS.bind .refl h fun w st1 F1 O1 H1 E1 _ S1 h1 v own r ok => sSet_end h1 E1 S1 r ok⟩
/-- targets = a value -/
def sUnp (t : Item → M Unit) (m : M W) : M Fl := bnd m fun w st => match w.fzD with
  | some d => match t (.one d) st with
    | .ok _ st' => .ok .nx st'
    | _ => .bad
  | none => .bad
theorem ds_unp {tg e : Expr} {g : TG} {t : Item → M Unit} {sl : List Nat} {m : M W} (hg : DG T X tg g t sl) (h : DE T X e m) (hs : swapsWithSole [tg] e pos.line X.env = pure false := by rfl) (hw : swappedStores [tg] e X.env = pure none := by rfl)
    (h1 : (assignEach [tg] X.env).map (·.2) = [assign tg X.env] := by rfl) : DS T X (.Assign [tg] e pos) (sUnp t m) := by
  refine ⟨fun Wx tk po => PS.weak (ps_asg (h.pe Wx tk) hg.pg hs hw h1) fun D σ H h => ?_⟩
  obtain ⟨F, O, st, S, h⟩ := h
  refine ⟨F, O, st, S, PostS.bind .refl h fun w st1 F1 O1 H1 E1 _ S1 h1 v own r ok => ?_⟩
  split at h1
  · rename_i d e
    split at h1
    · rename_i u st2 e2
      exact hg.lg v σ H1 _ O1 st1 st2 (.one d) D.nx (S1.give ok r.there) (.one (r.fzD e)) e2 fun σ2 O2 hO S2 _ => h1 _ O2 H1 σ2 ((E1.give ok).asg (own := []) (fun a ha => .inl (hO a ha)) (by simp)) S2
    · exact h1.elim
  · exact h1.elim
/-- x, y = a, b -/
def sPar (i j : Nat) (ma mb : M W) : M Fl := bnd ma fun w => bnd mb fun u st => match asgW i w st with
  | some st2 => endS (asgW j u st2)
  | none => .bad
theorem VR.chg {K : PySem.W.Frag} {F : AP} {H : Hp} {σ σ' : L2.St} {w : W} {v : V} {own : List Addr} (h : VR K T F H σ w v own) (hb : ∀ i, w ≠ .b i) : VR K T F H σ' w v own := by
  cases h with
  | d h => exact .d h
  | o h => exact .o h
  | b h => exact absurd rfl (hb _)
theorem asgW_nb {i : Nat} {w : W} {st st' : St} (e : asgW i w st = some st') : ∀ k, w ≠ .b k := by
  rintro k rfl
  unfold asgW at e
  split at e
  · split at e <;> cases e
  · cases e
theorem ds_par (i j : Nat) {x y : Str} {a b : Expr} {px py pt : Pos} {kt k2 pt2} {ma mb : M W} (hc : X.calm = true) (hN : X.N.Nodup) (ha : DE T X a ma) (hb : DE T X b mb) (hi : X.N[i]? = some x := by rfl) (hj : X.N[j]? = some y := by rfl) (hij : i ≠ j := by decide)
    (hx : X.env.scope.names.lookup x = some .local := by rfl) (hy : X.env.scope.names.lookup y = some .local := by rfl) (he : starEach [a, b] X.env = (false, eval a X.env) :: starEach [b] X.env := by rfl) (he2 : starEach [b] X.env = (false, eval b X.env) :: starEach [] X.env := by rfl)
    (hw : swappedStores [.Tuple [.Name x px, .Name y py] kt pt] (.Tuple [a, b] k2 pt2) X.env = pure (some [x, y]) := by rfl) (hs : swapsWithSole [.Tuple [.Name x px, .Name y py] kt pt] (.Tuple [a, b] k2 pt2) pos.line X.env = pure false := by rfl) :
    DS T X (.Assign [.Tuple [.Name x px, .Name y py] kt pt] (.Tuple [a, b] k2 pt2) pos) (sPar i j ma mb) := by
  refine ⟨fun Wx tk po => PS.weak (ps_par hc hN hi hj hij hx hy (pa_cons (ha.pe Wx tk) (pa_cons (hb.pe Wx tk) pa_nil he2) he) hw hs) fun D σ H h => ?_⟩
  obtain ⟨F, O, st, S, h⟩ := h
  refine ⟨F, O, st, S, PostS.bind .refl h fun w st1 F1 O1 H1 E1 _ S1 h1 v own r ok => ⟨F1, O1, st1, S1, PostS.bind E1 h1 fun u st2 F2 O2 H2 E2 E12 S2 h2 v2 own2 r2 ok2 => ⟨v, v2, rfl, ?_⟩⟩⟩
  obtain ⟨r', ok'⟩ := r.ext ok S1.nf E12
  split at h2
  · rename_i st3 e3
    obtain ⟨O3, S3, m3⟩ := S2.asg r' (fun a ha => ⟨(ok' a ha).1, (ok' a ha).2.1⟩) e3
    have E3 : Ext F O H F2 O3 H2 := E2.asg m3 fun a ha => .inr (ok' a ha).2.2
    cases e4 : asgW j u st3 with
    | none => rw [e4] at h2; exact h2.elim
    | some st4 =>
      rw [e4] at h2
      obtain ⟨O4, S4, m4⟩ := S3.asg (r2.chg (asgW_nb e4)) (fun a ha => ⟨(fun z => (m3 a z).elim (fun q => (ok2 a ha).1 q) (fun q => r.there a q (ok2 a ha).2.2)), (ok2 a ha).2.1⟩) e4
      exact h2 F2 O4 H2 _ (E3.asg m4 fun a ha => .inr (E1.none_of (ok2 a ha).2.2)) S4
  · exact h2.elim
end
end DP
end
section
set_option Elab.async false
set_option linter.all false
set_option maxRecDepth 100000
set_option maxHeartbeats 4000000
/-! DP8: lists rewritten in place; for, while. -/
namespace DP
open PySem PySem.Spec PyProof.Rows L2
section
variable {X : Cx} {T : Tb} {pos : Pos}
/-- xs[i] of a list, by values -/
theorem get_list : PGet X (rIxL X.K) := by
  intro pins s σ H x y v u Q I rx ry h
  obtain ⟨p, xs, i, z, rfl, rfl, hq, he, q⟩ := h
  cases rx
  obtain ⟨t, rfl⟩ := ry
  obtain ⟨its, r, pl, hz⟩ := I.list hq
  obtain ⟨j, h1, h2, h3, h4, h5⟩ := atI_get he
  obtain ⟨w, ew, rw'⟩ := r.get h2
  have hl := r.length
  have hn := line63
  have fin : EP X pins σ Q w s := ⟨z, H, I, rw', q⟩
  by_cases h0 : 0 ≤ i
  · have hj : i.toNat = j := by
      rw [seqIndex_of h0 h5] at h1
      exact Option.some.inj h1
    exact wpAny_getItem_list pl.isList h0 (by omega) (by rw [hj]; simpa using ew) fin
  · have hj : (i + (its.toArray.size : Int)).toNat = j := by
      rw [seqIndex_neg (by omega) h4] at h1
      rw [List.size_toArray, ← hl]
      exact Option.some.inj h1
    exact wpAny_getItem_list_neg pl.isList (by omega) (by rw [List.size_toArray] <;> omega) (by omega) (by rw [hj]; simpa using ew) fin
theorem VR.up {K : PySem.W.Frag} {F F' : AP} {H : Hp} {σ : L2.St} {w : W} {v : V} {own : List Addr} (h : VR K T F H σ w v own) (hF : ∀ a, F a → F' a) : VR K T F' H σ w v own := by
  cases h with
  | d h => exact .d (RD.mono hF (fun _ _ _ e _ => e) _ _ h)
  | o h => exact .o (h.mono hF fun _ _ _ e _ => e)
  | b h => exact .b h
theorem mV_ok {i : Nat} {st s : St} {w : W} (h : mV i st = .ok w s) : s = st ∧ ((∃ x, st[i]? = some (.d x) ∧ w = .d x) ∨ w = .b i) := by
  unfold mV at h
  split at h
  · cases h; exact ⟨rfl, .inl ⟨_, by assumption, rfl⟩⟩
  · cases h; exact ⟨rfl, .inr rfl⟩
  · cases h
theorem mV_exc {i : Nat} {st s : St} {e : DP.D} (h : mV i st = .exc e s) : False := by
  unfold mV at h
  split at h <;> cases h
/-! ### xs[i] = e -/
def putAt (o i : W) (d : D) : M Fl := fun st => match o, i with
  | .b k, .d (.int j) => match st[k]? with
    | some (.o t (.lst ds)) => match ixN ds.length j with
      | some n => .ok .nx (st.set k (.o t (.lst (ds.set n d))))
      | none => .bad
    | _ => .bad
  | _, _ => .bad
def sPut (me mo mi : M W) : M Fl := bnd me fun w => bnd mo fun o => bnd mi fun i st => match w.fzD with
  | some d => putAt o i d st
  | none => .bad
theorem putAt_end {Wx : WX} {F F1 : AP} {O O1 : List Addr} {H H1 : Hp} {σ : L2.St} {st1 : St} {E : Ends} {o i : W} {d : D} {vo vi v : V} {oo oi : List Addr} (h : PostS X.K T Wx F O H (putAt o i d st1) E) (E1 : Ext F O H F1 O1 H1) (S1 : SRel X.K T F1 O1 H1 σ st1)
    (ro : VR X.K T F1 H1 σ o vo oo) (ri : VR X.K T F1 H1 σ i vi oi) (r : RD X.K T F1 H1 v d) : rSetL vo vi v H1 fun H2 => E.nx σ H2 := by
  unfold putAt at h
  split at h
  · rename_i k j
    split at h
    · rename_i t ds e
      split at h
      · rename_i n hn
        obtain ⟨u, own, s1, _, rr, _⟩ := S1.sl.get_o e
        cases ro with
        | b hv =>
          have hv' := hv
          rw [hv] at s1
          have : vo = u := by simpa using s1
          subst this
          cases rr with
          | @lst p xs _ ha hs =>
            cases ri with
            | d ri => cases ri; exact ⟨p, xs, j, n, rfl, rfl, ha, by rw [hs.len]; exact hn, by
                obtain ⟨S2, E2⟩ := S1.putL e hv' (hs.set r n)
                exact h _ _ _ _ (E1.trans E2) S2⟩
      · exact h.elim
    · exact h.elim
  · exact h.elim
theorem ds_put {o i e : Expr} {me mo mi : M W} {tpos : Pos} (h : DE T X e me) (ho : DE T X o mo) (hi : DE T X i mi) (hs : swapsWithSole [.Subscript o i tpos] e pos.line X.env = pure false := by rfl) (hw : swappedStores [.Subscript o i tpos] e X.env = pure none := by rfl)
    (h1 : (assignEach [.Subscript o i tpos] X.env).map (·.2) = [assign (.Subscript o i tpos) X.env] := by rfl)
    (ha : ∀ v, assign (.Subscript o i tpos) X.env v = (do
      let ov ← holding [v] (eval o X.env)
      let iv ← holding [v, ov] (eval i X.env)
      standAt tpos
      holding [v, ov, iv] (setItem ov iv v)
      release [v, ov, iv] []) := by intro _; rfl) : DS T X (.Assign [.Subscript o i tpos] e pos) (sPut me mo mi) := by
  refine ⟨fun Wx tk po => PS.weak (ps_asg (h.pe Wx tk) (pg_sub (ho.pe Wx tk) (hi.pe Wx tk) set_list ha) hs hw h1) fun D σ H h => ?_⟩
  obtain ⟨F, O, st, S, h⟩ := h
  refine ⟨F, O, st, S, PostS.bind .refl h fun w st1 F1 O1 H1 E1 _ S1 h1 v own r ok => ⟨F1, O1, st1, S1, PostS.bind E1 h1 fun wo st2 F2 O2 H2 E2 E12 S2 h2 vo oo ro oko => ⟨F2, O2, st2, S2, PostS.bind E2 h2 fun wi st3 F3 O3 H3 E3 E23 S3 h3 vi oi ri oki => ?_⟩⟩⟩
  obtain ⟨r', ok'⟩ := r.ext ok S1.nf E12
  obtain ⟨r'', ok''⟩ := r'.ext ok' S2.nf E23
  obtain ⟨ro', oko'⟩ := ro.ext oko S2.nf E23
  split at h3
  · rename_i d e
    have rd' := r''.fzD e
    exact putAt_end h3 (E3.give ok'') (S3.give ok'' r''.there) (ro'.up fun _ f => .inl f) (ri.up fun _ f => .inl f) rd'
  · exact h3.elim
/-! ### xs[i] += e, ints -/
def sAugL (f : Int → Int → Int) (mo mi me : M W) : M Fl := bnd mo fun o => bnd mi fun i st1 => match o, i with
  | .b k, .d (.int j) => (match st1[k]? with
    | some (.o _ (.lst ds)) => (match atI ds j with
      | some (.int a) => bnd me (fun w => match w with
        | .d (.int b) => putAt o i (.int (f a b))
        | _ => sBad) st1
      | _ => .bad)
    | _ => .bad)
  | _, _ => .bad
theorem ds_augL {o i e : Expr} {mo mi me : M W} {tpos : Pos} {op : Operator} {f : Int → Int → Int} (ho : DE T X o mo) (hi : DE T X i mi) (h : DE T X e me) (hp : PIp X op (ipI f))
    (ha : ∀ ov iv new, augStore i ov iv new = (do holding [new, ov, iv] (setItem ov iv new); release [new, ov, iv] []; pure .next) := by intros; rfl) : DS T X (.AugAssign (.Subscript o i tpos) op e pos) (sAugL f mo mi me) := by
  refine ⟨fun Wx tk po => PS.weak (ps_augS (ho.pe Wx tk) (hi.pe Wx tk) get_list (h.pe Wx tk) hp set_list ha) fun D σ H h => ?_⟩
  obtain ⟨F, O, st, S, h⟩ := h
  refine ⟨F, O, st, S, PostS.bind .refl h fun wo st1 F1 O1 H1 E1 _ S1 h1 vo oo ro oko => ⟨F1, O1, st1, S1, PostS.bind E1 h1 fun wi st2 F2 O2 H2 E2 E12 S2 h2 vi oi ri oki => ?_⟩⟩
  obtain ⟨ro', oko'⟩ := ro.ext oko S1.nf E12
  split at h2
  · rename_i k j
    split at h2
    · rename_i t ds e
      split at h2
      · rename_i a ea
        obtain ⟨u, own, s1, _, rr, _⟩ := S2.sl.get_o e
        cases ro' with
        | b hv =>
          have hv' := hv
          rw [hv] at s1
          have : vo = u := by simpa using s1
          subst this
          cases rr with
          | @lst p xs _ hl hs =>
            have ri0 := ri
            cases ri with
            | d ri => cases ri; exact ⟨p, xs, j, .int a, rfl, rfl, .inl (.inl hl), by
                unfold atI at ea ⊢
                rw [hs.len]
                cases hx : ixN ds.length j with
                | none => rw [hx] at ea; cases ea
                | some n =>
                  rw [hx] at ea
                  obtain ⟨v1, q1, q2⟩ := hs.get (i := n) ea
                  cases q2
                  exact q1, F2, O2, st2, S2, PostS.bind E2 h2 fun w st3 F3 O3 H3 E3 E23 S3 h3 v3 o3 r3 ok3 => by
                    split at h3
                    · rename_i b
                      cases r3 with
                      | d r3 => cases r3; exact ⟨a, b, rfl, rfl, putAt_end h3 E3 S3 (.b hv') (.d (.int j)) (.int _)⟩
                    · exact h3.elim⟩
      · exact h2.elim
    · exact h2.elim
  · exact h2.elim
/-! ### name op= e, ints -/
def sAug (i : Nat) (f : Int → Int → Int) (me : M W) : M Fl := bnd (mV i) fun w => match w with
  | .d (.int a) => bnd me fun u => match u with
    | .d (.int b) => fun st => endS (asgW i (.d (.int (f a b))) st)
    | _ => sBad
  | _ => sBad
theorem ds_aug (i : Nat) {x : Str} {e : Expr} {me : M W} {op : Operator} {f : Int → Int → Int} {pos' : Pos} (hN : X.N.Nodup) (h : DE T X e me) (hp : PIp X op (ipI f)) (hi : X.N[i]? = some x := by rfl) (hx : Loc X.env.scope x := by first | exact Or.inl rfl | exact Or.inr rfl)
    (hf : X.fn x = true ∨ X.env.scope.names.lookup x = some .local := by first | exact .inl rfl | exact .inr rfl) : DS T X (.AugAssign (.Name x pos') op e pos) (sAug i f me) := by
  refine ⟨fun Wx tk po => PS.weak (ps_aug hN hi hx (h.pe Wx tk) hp hf) fun D σ H h => ?_⟩
  obtain ⟨F, O, st, S, h⟩ := h
  unfold sAug at h
  cases e1 : mV i st with
  | ok w s =>
    rw [bnd_ok e1] at h
    obtain ⟨rfl, e1⟩ := mV_ok e1
    rcases e1 with ⟨d, e2, rfl⟩ | rfl
    · cases d with
      | int a =>
        obtain ⟨v, q1, q2⟩ := S.sl.get_d e2
        cases q2
        refine ⟨_, q1, F, O, _, S, PostS.bind (m := me) .refl h fun u st1 F1 O1 H1 E1 _ S1 h1 v own r ok => ?_⟩
        split at h1
        · rename_i b
          cases r with
          | d r => cases r; exact ⟨a, b, rfl, rfl, sSet_end h1 E1 S1 (.d (.int _)) .nil⟩
        · exact h1.elim
      | _ => exact h.elim
    · exact h.elim
  | exc e' s => exact (mV_exc e1).elim
  | bad => unfold bnd at h; rw [e1] at h; exact h.elim
/-! ### append, extend -/
/-- what stands in a slot's list ahead of the arguments -/
def isL (o : W) (st : St) : Bool := match o with
  | .b k => (match st[k]? with
    | some (.o _ (.lst _)) => true
    | _ => false)
  | _ => false
def sAppL (g : List D → List D → List D) (ok : List D → List W → St → Option (List D)) (mo : M W) (ma : M (List W)) : M Fl := bnd mo fun o st1 => if isL o st1 then bnd ma (fun ws st => match o with
  | .b k => (match st[k]? with
    | some (.o t (.lst ds)) => (match ok ds ws st with
      | some es => .ok .nx (st.set k (.o t (.lst (g ds es))))
      | none => .bad)
    | _ => .bad)
  | _ => .bad) st1 else .bad
def okApp (ds : List D) (ws : List W) (_ : St) : Option (List D) := match ws with
  | [.d d] => if ds.length < 1000000 then some [d] else none
  | _ => none
def okExt (ds : List D) (ws : List W) (st : St) : Option (List D) := match ws with
  | [w] => (match rd w st with
    | some (.lst es) => if ds.length + es.length ≤ 1000000 then some es else none
    | _ => none)
  | _ => none
def sAppend (mo : M W) (ma : M (List W)) : M Fl := sAppL (fun ds es => ds ++ es) okApp mo ma
def sExtend (mo : M W) (ma : M (List W)) : M Fl := sAppL (fun ds es => ds ++ es) okExt mo ma
theorem isL_ty {F : AP} {O : List Addr} {H : Hp} {σ : L2.St} {st : St} {o : W} {v : V} {own : List Addr} (h : isL o st = true) (S : SRel X.K T F O H σ st) (r : VR X.K T F H σ o v own) : tyV X.K "list" v H := by
  unfold isL at h
  split at h
  · rename_i k
    split at h
    · rename_i t ds e
      obtain ⟨u, own', s1, _, rr, _⟩ := S.sl.get_o e
      cases r with
      | b hv =>
        rw [hv] at s1
        have : v = u := by simpa using s1
        subst this
        cases rr with
        | lst ha hs => exact .inl ⟨rfl, _, .inl (.inl ha)⟩
    · cases h
  · cases h
theorem run_app {Wx : WX} {r : V → List V → Hp → VK → Prop} {ok : List D → List W → St → Option (List D)} {mo : M W} {ma : M (List W)} {E : Ends} {σ : L2.St} {H : Hp}
    (p : ∀ (F : AP) (O : List Addr) (H : Hp) (st : St) (k : Nat) (t : Option Nat) (ds es : List D) (ws : List W) (vs : List V) (a : Addr) (xs : List V) (Q : VK), SRel X.K T F O H σ st → VRs X.K T F H σ ws vs → ok ds ws st = some es → H a = some (.lst xs) → RDs X.K T F H xs ds → (∀ ys, RDs X.K T F H ys es → Q .non (upd H a (.lst (xs ++ ys)))) → r (.ref a) vs H Q)
    (h : liftS X.K T Wx (sAppL (fun ds es => ds ++ es) ok mo ma) E σ H) : tDrop (tBM X.K "list" r (lift X.K T Wx mo) (liftA X.K T Wx ma)) E σ H := by
  obtain ⟨F, O, st, S, h⟩ := h
  refine ⟨F, O, st, S, PostS.bind .refl h fun wo st1 F1 O1 H1 E1 _ S1 h1 vo oo ro oko => ?_⟩
  split at h1
  · rename_i hl
    refine ⟨isL_ty hl S1 ro, F1, O1, st1, S1, PostS.bind E1 h1 fun ws st2 F2 O2 H2 E2 E12 S2 h2 vs rs => ?_⟩
    split at h2
    · rename_i k
      split at h2
      · rename_i t ds e
        split at h2
        · rename_i es e3
          obtain ⟨u, own', s1, _, rr, _⟩ := S2.sl.get_o e
          cases ro with
          | b hv =>
            have hv' := hv
            rw [hv] at s1
            have : vo = u := by simpa using s1
            subst this
            cases rr with
            | lst ha hs =>
              refine p F2 O2 H2 st2 k t ds es ws vs _ _ _ S2 rs e3 ha hs (fun ys ry => ?_)
              obtain ⟨S3, E3⟩ := S2.putL e hv' (hs.app ry)
              exact h2 _ _ _ _ (E2.trans E3) S3
        · exact h2.elim
      · exact h2.elim
    · exact h2.elim
  · exact h1.elim
theorem ds_append {o e : Expr} {mo : M W} {ma : M (List W)} {apos cpos : Pos} (ho : DE T X o mo) (ha : DA T X [e] ma) (hs0 : swapsWith (.Call (.Attribute o ("append" : Str) apos) [e] [] cpos) none pos.line X.env = pure false := by rfl)
    (hbase : attributeBase o ("append" : Str) X.env (eval o X.env) = eval o X.env := by rfl)
    (hfew : ((backTo cpos (starEach [e] X.env)).all (fun x => !x.1) && (backToKw cpos (keywordEach [] X.env)).all (fun x => x.1.isSome)
      && decide ([e].length + ([] : List Keyword).length + (if ([] : List Keyword).isEmpty then 0 else 1) < 30)) = true := by rfl)
    (hline : (apos.endLine == cpos.line) = true := by rfl) (hs : starEach [e] X.env = (false, eval e X.env) :: starEach [] X.env := by rfl) (hplain : (backTo cpos (starEach [] X.env)).any (·.1) = false := by rfl) :
    DS T X (.Expr (.Call (.Attribute o ("append" : Str) apos) [e] [] cpos) pos) (sAppend mo ma) := by
  refine ⟨fun Wx tk po => PS.weak (ps_expr (pe_bm PySem.F.plainAttrs_list PySem.F.slot_list_append PySem.F.type_list_append mt_append (ho.pe Wx tk) (ha.pa Wx tk) hbase hfew hline hs hplain) hs0) fun E σ H h => run_app ?_ h⟩
  intro F O H st k t ds es ws vs a xs Q S rs e ha hx q
  unfold okApp at e
  split at e
  · rename_i d
    split at e
    · rename_i hlt
      cases e
      cases rs with
      | d r rs => cases rs; exact ⟨a, xs, _, rfl, rfl, ha, by rw [hx.len, sizeLine_eq]; omega, q _ (.cons r .nil)⟩
    · cases e
  · cases e
theorem ds_extend {o e : Expr} {mo : M W} {ma : M (List W)} {apos cpos : Pos} (ho : DE T X o mo) (ha : DA T X [e] ma) (hs0 : swapsWith (.Call (.Attribute o ("extend" : Str) apos) [e] [] cpos) none pos.line X.env = pure false := by rfl)
    (hbase : attributeBase o ("extend" : Str) X.env (eval o X.env) = eval o X.env := by rfl)
    (hfew : ((backTo cpos (starEach [e] X.env)).all (fun x => !x.1) && (backToKw cpos (keywordEach [] X.env)).all (fun x => x.1.isSome)
      && decide ([e].length + ([] : List Keyword).length + (if ([] : List Keyword).isEmpty then 0 else 1) < 30)) = true := by rfl)
    (hline : (apos.endLine == cpos.line) = true := by rfl) (hs : starEach [e] X.env = (false, eval e X.env) :: starEach [] X.env := by rfl) (hplain : (backTo cpos (starEach [] X.env)).any (·.1) = false := by rfl) :
    DS T X (.Expr (.Call (.Attribute o ("extend" : Str) apos) [e] [] cpos) pos) (sExtend mo ma) := by
  refine ⟨fun Wx tk po => PS.weak (ps_expr (pe_bm PySem.F.plainAttrs_list PySem.F.slot_list_extend PySem.F.type_list_extend mt_extend (ho.pe Wx tk) (ha.pa Wx tk) hbase hfew hline hs hplain) hs0) fun E σ H h => run_app ?_ h⟩
  intro F O H st k t ds es ws vs a xs Q S rs e ha hx q
  unfold okExt at e
  split at e
  · rename_i w
    split at e
    · rename_i es2 er
      split at e
      · rename_i hle
        cases e
        obtain ⟨v, rfl, vw⟩ := rs.vw1 S.sl er
        cases vw with
        | lst hb hy => exact ⟨a, _, xs, _, rfl, rfl, ha, hb, by rw [hx.len, hy.len, sizeLine_eq]; omega, q _ hy⟩
      · cases e
    · cases e
  · cases e
end
/-! ### for -/
def forL (t : Item → M Unit) (b : M Fl) : List Item → M Fl
  | [] => ret .nx
  | it :: its => fun st => match t it st with
    | .ok _ st1 => bnd b (fun f => match f with
      | .nx => forL t b its
      | .ct => forL t b its
      | .bk => ret .nx
      | .ret w => ret (.ret w)) st1
    | _ => .bad
def sFor (src : M Src) (t : Item → M Unit) (b : M Fl) : M Fl := bnd src fun s => match s with
  | .fz its => forL t b its
  | .live _ _ => sBad
section
variable {X : Cx} {T : Tb} {pos : Pos}
theorem run_for {Wx : WX} {σ : L2.St} {H : Hp} {src : M Src} {t : Item → M Unit} {sl : List Nat} {b : M Fl} {g : TG} {D : Ends} (hg : LG X.K T g t sl) (h : liftS X.K T Wx (sFor src t b) D σ H) : tFor (liftI X.K T Wx src) g (liftS X.K T Wx b) D σ H := by
  obtain ⟨F, O, st, S, h⟩ := h
  refine ⟨F, O, st, S, PostS.bind .refl h fun s st1 F1 O1 H1 E1 _ S1 h1 => ?_⟩
  cases s with
  | live i ds => exact h1.elim
  | fz its =>
  intro J own oko tro G
  have E1' := E1.give oko
  have S1' := S1.give oko tro
  replace G : Gs X.K T (KeepF (fun a => F1 a ∨ a ∈ own) H1) J its := G
  let WW : Nat → L2.St → Hp → Prop := fun i σ2 H2 => i ≤ its.length ∧ ∃ F2 O2 st2, Ext (fun a => F1 a ∨ a ∈ own) O1 H1 F2 O2 H2 ∧ SRel X.K T F2 O2 H2 σ2 st2 ∧ PostS X.K T Wx F O H (forL t b (its.drop i) st2) D
  refine ⟨fun i m σ2 H2 => m = its.length - i ∧ WW i σ2 H2, ⟨_, rfl, Nat.zero_le _, _, O1, st1, .refl, S1', h1⟩, ?_⟩
  rintro i m σ2 H2 ⟨rfl, hi, F2, O2, st2, E2, S2, p⟩
  have gd : KeepF (fun a => F1 a ∨ a ∈ own) H1 F2 H2 := ⟨E2.fz, fun a o f e tb => E2.keep a o e (fun z => S1'.nf a z f) tb⟩
  by_cases hlt : i < its.length
  · right
    have hd : its.drop i = its[i] :: its.drop (i + 1) := List.drop_eq_getElem_cons hlt
    rw [hd] at p
    unfold forL at p
    refine ⟨G.go F2 H2 i gd hlt, WW (i + 1), fun σ' H' w => ⟨its.length - (i + 1), by omega, rfl, w⟩, fun x H' y => ?_⟩
    obtain ⟨F3, E3, S3, kp3, ri⟩ := G.yld F2 O2 H2 σ2 st2 i x H' its[i] gd S2 (by simp [hlt]) y
    cases e3 : t its[i] st2 with
    | ok u st3 =>
      rw [e3] at p
      dsimp only at p
      refine hg x σ2 H' F3 O2 st2 st3 its[i] _ S3 ri e3 fun σ3 O3 hO3 S4 off => ⟨F3, O3, st3, S4, ?_⟩
      have E14 : Ext (fun a => F1 a ∨ a ∈ own) O1 H1 F3 O3 H' := (E2.trans E3).asg (own := []) (fun a ha => .inl (hO3 a ha)) (by simp)
      have EF : Ext F O H F3 O3 H' := E1'.trans E14
      have again : ∀ {F5 O5 H5 σ5 st5}, Ext F3 O3 H' F5 O5 H5 → SRel X.K T F5 O5 H5 σ5 st5 → PostS X.K T Wx F O H (forL t b (its.drop (i + 1)) st5) D → WW (i + 1) σ5 H5 := fun x S5 q => ⟨by omega, _, _, _, E14.trans x, S5, q⟩
      unfold bnd at p
      cases e5 : b st3 with
      | ok f st5 =>
        rw [e5] at p
        cases f with
        | nx => exact fun F5 O5 H5 σ5 x S5 => again x S5 p
        | bk => exact fun F5 O5 H5 σ5 x S5 => p F5 O5 H5 σ5 (EF.trans x) S5
        | ct => exact fun F5 O5 H5 σ5 x S5 => again x S5 p
        | ret w => exact fun F5 O5 H5 σ5 v own x S5 r ok => p F5 O5 H5 σ5 v own (EF.trans x) S5 r fun a ha => ⟨(ok a ha).1, (ok a ha).2.1, EF.alt (ok a ha).2.2⟩
      | exc e' st5 => rw [e5] at p; exact p.on EF
      | bad => rw [e5] at p; exact p
    | exc e' st3 => rw [e3] at p; exact p.elim
    | bad => rw [e3] at p; exact p.elim
  · left
    have hi' : i = its.length := by omega
    subst hi'
    rw [List.drop_length] at p
    exact ⟨G.stop F2 H2 gd, p F2 O2 H2 σ2 (E1'.trans E2) S2⟩
theorem ds_for {tg iter : Expr} {body : List Stmt} {src : M Src} {g : TG} {t : Item → M Unit} {sl : List Nat} {b : M Fl} (hc : X.calm = true) (hi : DI T X tg iter src) (hg : DG T X tg g t sl) (hb : DSs T X body b) (hs : ∀ x, foldedSetIterable iter X.env x = pure x := by intro _; rfl) :
    DS T X (.For tg iter body [] pos) (sFor src t b) :=
  ⟨fun Wx tk po => PS.weak (ps_for po hc (hi.pi Wx tk) hg.pg (hb.pss Wx tk po) hs) fun D σ H h => run_for hg.lg h⟩
end
/-! ### while -/
def whL (c : M Bool) (b : M Fl) : Nat → M Fl
  | 0 => sBad
  | n + 1 => bnd c fun t => if t then bnd b (fun f => match f with
      | .nx => whL c b n
      | .ct => whL c b n
      | .bk => ret .nx
      | .ret w => ret (.ret w)) else ret .nx
section
open Classical
noncomputable def sWhile (c : M Bool) (b : M Fl) : M Fl := fun st => if h : ∃ n, whL c b n st ≠ .bad then whL c b h.choose st else .bad
end
section
variable {X : Cx} {T : Tb} {pos : Pos}
theorem run_while {Wx : WX} {σ : L2.St} {H : Hp} {c : M Bool} {b : M Fl} {D : Ends} (h : liftS X.K T Wx (sWhile c b) D σ H) : tWhile (liftB X.K T Wx c) (liftS X.K T Wx b) D σ H := by
  obtain ⟨F, O, st, S, h⟩ := h
  unfold sWhile at h
  split at h
  · rename_i hn
    refine ⟨fun m σ2 H2 => ∃ F2 O2 st2, Ext F O H F2 O2 H2 ∧ SRel X.K T F2 O2 H2 σ2 st2 ∧ PostS X.K T Wx F O H (whL c b m st2) D, ⟨_, F, O, st, .refl, S, h⟩, ?_⟩
    rintro m σ2 H2 ⟨F2, O2, st2, E2, S2, p⟩
    cases m with
    | zero => exact p.elim
    | succ m =>
      refine ⟨F2, O2, st2, S2, PostS.bind E2 p fun t st3 F3 O3 H3 E3 E23 S3 p3 => ?_⟩
      cases t with
      | true =>
        refine ⟨fun σ5 H5 => ∃ F2 O2 st2, Ext F O H F2 O2 H5 ∧ SRel X.K T F2 O2 H5 σ5 st2 ∧ PostS X.K T Wx F O H (whL c b m st2) D, fun σ' H' w => ⟨m, by omega, w⟩, F3, O3, st3, S3, ?_⟩
        rw [if_pos rfl] at p3
        unfold bnd at p3
        cases e5 : b st3 with
        | ok f st5 =>
          rw [e5] at p3
          cases f with
          | nx => exact fun F5 O5 H5 σ5 x S5 => ⟨F5, O5, st5, E3.trans x, S5, p3⟩
          | bk => exact fun F5 O5 H5 σ5 x S5 => p3 F5 O5 H5 σ5 (E3.trans x) S5
          | ct => exact fun F5 O5 H5 σ5 x S5 => ⟨F5, O5, st5, E3.trans x, S5, p3⟩
          | ret w => exact fun F5 O5 H5 σ5 v own x S5 r ok => p3 F5 O5 H5 σ5 v own (E3.trans x) S5 r fun a ha => ⟨(ok a ha).1, (ok a ha).2.1, E3.alt (ok a ha).2.2⟩
        | exc e' st5 => rw [e5] at p3; exact p3.on E3
        | bad => rw [e5] at p3; exact p3
      | false => exact p3 F3 O3 H3 σ2 E3 S3
  · exact h.elim
theorem ds_while {c : Expr} {body : List Stmt} {mc : M Bool} {b : M Fl} (hc : DT T X c mc) (hb : DSs T X body b) : DS T X (.While c body [] pos) (sWhile mc b) :=
  ⟨fun Wx tk po => PS.weak (ps_while po (hc.pt Wx tk) (hb.pss Wx tk po)) fun D σ H h => run_while h⟩
/-- more fuel changes nothing -/
theorem whL_succ {c : M Bool} {b : M Fl} : ∀ {n : Nat} {st : St}, whL c b n st ≠ .bad → whL c b (n + 1) st = whL c b n st := by
  intro n
  induction n with
  | zero => intro st h; exact absurd rfl h
  | succ n ih =>
    intro st h
    unfold whL at h ⊢
    unfold bnd at h ⊢
    cases e : c st with
    | ok t s =>
      rw [e] at h
      dsimp only at h ⊢
      cases t with
      | true =>
        rw [if_pos rfl] at h ⊢
        rw [if_pos rfl]
        cases e2 : b s with
        | ok f s2 =>
          rw [e2] at h
          dsimp only at h ⊢
          cases f with
          | nx => exact ih h
          | ct => exact ih h
          | bk => rfl
          | ret w => rfl
        | exc e' s2 => rfl
        | bad => rfl
      | false => rfl
    | exc e' s => rfl
    | bad => rfl
theorem whL_le {c : M Bool} {b : M Fl} {n k : Nat} {st : St} (h : whL c b n st ≠ .bad) : whL c b (n + k) st = whL c b n st := by
  induction k with
  | zero => rfl
  | succ k ih => rw [← Nat.add_assoc, whL_succ (by rw [ih]; exact h), ih]
theorem sWhile_of {c : M Bool} {b : M Fl} {n : Nat} {st : St} {r : Res Fl} (h : whL c b n st = r) (hr : r ≠ .bad) : sWhile c b st = r := by
  have hx : ∃ n, whL c b n st ≠ .bad := ⟨n, by rw [h]; exact hr⟩
  unfold sWhile
  rw [dif_pos hx]
  have h1 := whL_le (k := n) hx.choose_spec
  have h2 := whL_le (n := n) (k := hx.choose) (st := st) (c := c) (b := b) (by rw [h]; exact hr)
  rw [← h1, Nat.add_comm, h2, h]
end
end DP
end
section
set_option Elab.async false
set_option linter.all false
set_option maxRecDepth 100000
set_option maxHeartbeats 4000000
/-! DP9: defs and calls. -/
namespace DP
open PySem PySem.Spec PyProof.Rows L2
/-- tables that differ in the pins alone -/
structure Same (T T' : Tb) : Prop where
  cls : T.cls = T'.cls
  fnA : T.fnA = T'.fnA
theorem Same.symm {T T' : Tb} (h : Same T T') : Same T' T := ⟨h.cls.symm, h.fnA.symm⟩
def Tb.withPin (T : Tb) (p : Nat → V) : Tb := ⟨T.cls, T.fnA, p⟩
theorem same_pin {T : Tb} {p : Nat → V} : Same T (T.withPin p) := ⟨rfl, rfl⟩
section
variable {K : PySem.W.Frag} {T T' : Tb} {F : AP} {H : Hp}
mutual
theorem RD.cv (e : Same T T') : ∀ (d : D) (v : V), RD K T F H v d → RD K T' F H v d
  | .non, _, h => by cases h; exact .non
  | .bl _, _, h => by cases h; exact .bl _
  | .int _, _, h => by cases h; exact .int _
  | .str _, _, h => by cases h; exact .str _
  | .ty _, _, h => by cases h; exact .ty _
  | .fn _, _, h => by cases h with | fn h => exact .fn (e.fnA ▸ h)
  | .cls _, _, h => by cases h with | cls h => exact .cls (e.cls ▸ h)
  | .tup ds, _, h => by cases h with | tup h hs => exact .tup h (RDs.cv e ds _ hs)
  | .lst ds, _, h => by cases h with | lst h hs => exact .lst h (RDs.cv e ds _ hs)
  | .ins c fs, _, h => by cases h with | ins hf hc h hs => exact .ins hf (e.cls ▸ hc) h (RFs.cv e fs _ hs)
  | .dic kvs, _, h => by cases h with | dic hf h hs => exact .dic hf h (RKs.cv e kvs _ hs)
  | .scr ns, _, h => by cases h with | scr h => exact .scr h
theorem RDs.cv (e : Same T T') : ∀ (ds : List D) (vs : List V), RDs K T F H vs ds → RDs K T' F H vs ds
  | [], _, h => by cases h; exact .nil
  | d :: ds, _, h => by cases h with | cons h hs => exact .cons (RD.cv e d _ h) (RDs.cv e ds _ hs)
theorem RFs.cv (e : Same T T') : ∀ (ds : List (String × D)) (vs : List (Str × V)), RFs K T F H vs ds → RFs K T' F H vs ds
  | [], _, h => by cases h; exact .nil
  | (_, d) :: ds, _, h => by cases h with | cons h hs => exact .cons (RD.cv e d _ h) (RFs.cv e ds _ hs)
theorem RKs.cv (e : Same T T') : ∀ (ds : List (Key × D)) (vs : List (Key × V)), RKs K T F H vs ds → RKs K T' F H vs ds
  | [], _, h => by cases h; exact .nil
  | (_, d) :: ds, _, h => by cases h with | cons h hs => exact .cons (RD.cv e d _ h) (RKs.cv e ds _ hs)
end
theorem RO.cv {v : V} {od : OD} {own : List Addr} (e : Same T T') (h : RO K T F H v od own) : RO K T' F H v od own := by
  cases h with
  | lst h hs => exact .lst h (RDs.cv e _ _ hs)
  | dic h hs => exact .dic h (RKs.cv e _ _ hs)
  | ins hc h hs => exact .ins (e.cls ▸ hc) h (RFs.cv e _ _ hs)
theorem VR.cv {σ : L2.St} {w : W} {v : V} {own : List Addr} (e : Same T T') (h : VR K T F H σ w v own) : VR K T' F H σ w v own := by
  cases h with
  | d h => exact .d (RD.cv e _ _ h)
  | o h => exact .o (h.cv e)
  | b h => exact .b h
theorem ER.cv {d : D} {c : Value} {dx : Option Addr} (e : Same T T') (h : ER K T F H d c dx) : ER K T' F H d c dx := by
  cases h with
  | none hc => exact .none (e.cls ▸ hc)
  | some hc hf h hs => exact .some (e.cls ▸ hc) hf h (RFs.cv e _ _ hs)
end
/-- what is handed in: data, or the caller's owned thing -/
inductive Arg where
  | d (x : D) | r (x : OD)
inductive FRes where
  | ok (w : W) (ods : List OD) | exc (e : D) (ods : List OD) | bad
abbrev Fn := List Arg → FRes
section
variable (K : PySem.W.Frag) (T : Tb) (F : AP) (H : Hp)
inductive AR : List Arg → List V → List Addr → Prop
  | nil : AR [] [] []
  | d {x : D} {v : V} {as : List Arg} {vs : List V} {O : List Addr} (h : RD K T F H v x) (hs : AR as vs O) : AR (.d x :: as) (v :: vs) O
  | r {x : OD} {v : V} {own : List Addr} {as : List Arg} {vs : List V} {O : List Addr} (h : RO K T F H v x own) (hs : AR as vs O) : AR (.r x :: as) (v :: vs) (own ++ O)
end
def putA : List Arg → List OD → List Arg
  | [], _ => []
  | .d x :: as, ods => .d x :: putA as ods
  | .r _ :: as, y :: ods => .r y :: putA as ods
  | .r x :: as, [] => .r x :: putA as []
def PostF (K : PySem.W.Frag) (T : Tb) (F : AP) (O : List Addr) (H : Hp) (as : List Arg) (vs : List V) (r : FRes) (Q : VK) (E : XK) : Prop := match r with
  | .ok w ods => ∀ F' H' v own, Ext F O H F' O H' → AR K T F' H' (putA as ods) vs O → (∀ a ∈ O, ¬ F' a) → (∀ a, F' a → H' a ≠ none) → VR K T F' H' [] w v own → OwnOk F' O H own → Q v H'
  | .exc e ods => ∀ F' H' cls dx, Ext F O H F' O H' → AR K T F' H' (putA as ods) vs O → (∀ a ∈ O, ¬ F' a) → (∀ a, F' a → H' a ≠ none) → ER K T F' H' e cls dx → E cls dx H'
  | .bad => False
def liftF (K : PySem.W.Frag) (T : Tb) (n : Nat) (fn : Fn) : Sp := fun vs H Q E => ∃ F O as, AR K T F H as vs O ∧ as.length = n ∧ O.Nodup ∧ (∀ a ∈ O, ¬ F a) ∧ (∀ a, F a → H a ≠ none) ∧ PostF K T F O H as vs (fn as) Q E
section
variable {K : PySem.W.Frag} {T T' : Tb} {F F' : AP} {O O' : List Addr} {H H' : Hp}
theorem AR.len {as : List Arg} {vs : List V} (h : AR K T F H as vs O) : vs.length = as.length := by
  induction h with
  | nil => rfl
  | d _ _ ih => simp [ih]
  | r _ _ ih => simp [ih]
theorem AR.cv {as : List Arg} {vs : List V} (e : Same T T') (h : AR K T F H as vs O) : AR K T' F H as vs O := by
  induction h with
  | nil => exact .nil
  | d h _ ih => exact .d (RD.cv e _ _ h) ih
  | r h _ ih => exact .r (h.cv e) ih
/-! ### a def's body -/
def stOf (j : Nat) : List Arg → St
  | [] => []
  | .d x :: as => .d x :: stOf (j + 1) as
  | .r x :: as => .o (some j) x :: stOf (j + 1) as
def refs (j : Nat) : List Arg → St → Option (List OD)
  | [], _ => some []
  | .d _ :: as, st => refs (j + 1) as st
  | .r _ :: as, st => match st[j]? with
    | some (.o (some i) x) => if i = j then (refs (j + 1) as st).map (x :: ·) else none
    | _ => none
def withRefs (as : List Arg) (st : St) (k : List OD → FRes) : FRes := match refs 0 as st with
  | some ods => k ods
  | none => .bad
def finF (as : List Arg) : Res Fl → FRes
  | .ok .nx st => withRefs as st (.ok (.d .non))
  | .ok (.ret (.d x)) st => withRefs as st (.ok (.d x))
  | .ok (.ret (.o x)) st => withRefs as st (.ok (.o x))
  | .exc e st => withRefs as st (.exc e)
  | _ => .bad
theorem withRefs_ok {P : FRes → Prop} {as : List Arg} {st : St} {k : List OD → FRes} (h : P (withRefs as st k)) (hb : ¬ P .bad) : ∃ ods, refs 0 as st = some ods ∧ P (k ods) := by
  unfold withRefs at h
  cases e : refs 0 as st with
  | none => rw [e] at h; exact absurd h hb
  | some ods => rw [e] at h; exact ⟨ods, rfl, h⟩
/-- N slots -/
def mkFn (N : Nat) (m : M Fl) : Fn := fun as => finF as (m (stOf 0 as ++ List.replicate (N - as.length) .no))
theorem sl_none (n : Nat) : SL K T F H (List.replicate n none) (List.replicate n .no) [] := by
  induction n with
  | zero => exact .nil
  | succ n ih => exact .no ih
theorem AR.sl {as : List Arg} {vs : List V} {σ : L2.St} {st : St} (h : AR K T F H as vs O) (t : SL K T F H σ st []) : ∀ (j : Nat), (∀ i v, vs[i]? = some v → T.pin (j + i) = v) → SL K T F H (vs.map some ++ σ) (stOf j as ++ st) O := by
  induction h with
  | nil => intro j _; exact t
  | @d x v as vs O h hs ih => intro j hp; exact .d h (ih (j + 1) fun i v e => by rw [Nat.add_assoc, Nat.add_comm 1]; exact hp (i + 1) v (by simpa using e))
  | @r x v own as vs O h hs ih => intro j hp; exact .o (fun k e => by cases e; exact hp 0 v rfl) h (ih (j + 1) fun i v e => by rw [Nat.add_assoc, Nat.add_comm 1]; exact hp (i + 1) v (by simpa using e))
theorem refs_ar {σ' : L2.St} {st' : St} (e : Same T' T) (S : SRel K T' F' O' H' σ' st') (E : Ext F O H F' O' H') (nf : ∀ a ∈ O, ¬ F a) : ∀ {as : List Arg} {vs : List V} {Oa : List Addr} {ods : List OD} (j : Nat), AR K T F H as vs Oa → refs j as st' = some ods → (∀ i v, vs[i]? = some v → T'.pin (j + i) = v) →
    AR K T F' H' (putA as ods) vs Oa ∧ ∀ a ∈ Oa, a ∈ O'
  | [], _, _, _, j, .nil, _, _ => ⟨by unfold putA; exact .nil, fun a ha => by simp at ha⟩
  | .d x :: as, _, _, ods, j, .d h hs, er, hp => by
    obtain ⟨q1, q2⟩ := refs_ar e S E nf (j + 1) hs er fun i v e => by rw [Nat.add_assoc, Nat.add_comm 1]; exact hp (i + 1) v (by simpa using e)
    exact ⟨.d (E.rd nf h) q1, q2⟩
  | .r x :: as, _, _, ods, j, .r (v := v) (own := own) h hs, er, hp => by
    unfold refs at er
    split at er
    · rename_i i y e1
      split at er
      · rename_i hij
        subst hij
        simp only [Option.map_eq_some_iff] at er
        obtain ⟨ods', er, rfl⟩ := er
        obtain ⟨q1, q2⟩ := refs_ar e S E nf (i + 1) hs er fun k v e => by rw [Nat.add_assoc, Nat.add_comm 1]; exact hp (k + 1) v (by simpa using e)
        obtain ⟨v2, own2, s1, s2, s3, s4⟩ := S.sl.get_o e1
        have : v = v2 := (hp 0 v rfl).symm.trans (s2 i rfl)
        subst this
        have : own2 = own := by cases s3 <;> cases h <;> rfl
        subst this
        exact ⟨.r (s3.cv e) q1, fun a ha => (List.mem_append.mp ha).elim (s4 a) (q2 a)⟩
      · cases er
    · cases er
theorem Ext.back {Oa : List Addr} (E : Ext F Oa H F' O' H') : Ext F Oa H F' Oa H' := ⟨E.fz, E.keep, E.newF, fun a ha => .inl ha, E.dom⟩
theorem finF_post {as : List Arg} {vs : List V} {r : Res Fl} {Q : VK} {E : XK} (ha : AR K T F H as vs O) (nf : ∀ a ∈ O, ¬ F a) (e : Same T T') (hp : ∀ i v, vs[i]? = some v → T'.pin i = v) (h : PostF K T F O H as vs (finF as r) Q E) :
    PostS K T' (fun cls d _ H => E cls d H) F O H r { nx := fun _ H' => Q .non H', rt := Q } := by
  have hp0 : ∀ i v, vs[i]? = some v → T'.pin (0 + i) = v := fun i v q => by rw [Nat.zero_add]; exact hp i v q
  cases r with
  | ok f st' =>
    cases f with
    | nx =>
      obtain ⟨ods, er, h⟩ := withRefs_ok (P := fun r => PostF K T F O H as vs r Q E) h id
      intro F' O' H' σ' x S
      obtain ⟨q1, q2⟩ := refs_ar e.symm S x nf 0 ha er hp0
      exact h F' H' .non [] x.back q1 (fun a ha => S.nf a (q2 a ha)) S.fd (.d .non) .nil
    | bk => exact h.elim
    | ct => exact h.elim
    | ret w =>
      cases w with
      | d y =>
        obtain ⟨ods, er, h⟩ := withRefs_ok (P := fun r => PostF K T F O H as vs r Q E) h id
        intro F' O' H' σ' v own x S r ok
        obtain ⟨q1, q2⟩ := refs_ar e.symm S x nf 0 ha er hp0
        cases r with
        | d r => exact h F' H' v [] x.back q1 (fun a ha => S.nf a (q2 a ha)) S.fd (.d (RD.cv e.symm _ _ r)) .nil
      | o y =>
        obtain ⟨ods, er, h⟩ := withRefs_ok (P := fun r => PostF K T F O H as vs r Q E) h id
        intro F' O' H' σ' v own x S r ok
        obtain ⟨q1, q2⟩ := refs_ar e.symm S x nf 0 ha er hp0
        cases r with
        | o r => exact h F' H' v own x.back q1 (fun a ha => S.nf a (q2 a ha)) S.fd (.o (r.cv e.symm)) fun a ha => ⟨fun z => (ok a ha).1 (q2 a z), (ok a ha).2.1, (ok a ha).2.2.elim (fun z => absurd (q2 a z) (ok a ha).1) id⟩
      | b i => exact h.elim
  | exc e' st' =>
    obtain ⟨ods, er, h⟩ := withRefs_ok (P := fun r => PostF K T F O H as vs r Q E) h id
    intro F' O' H' σ' cls dx x S r
    obtain ⟨q1, q2⟩ := refs_ar e.symm S x nf 0 ha er hp0
    exact h F' H' cls dx x.back q1 (fun a ha => S.nf a (q2 a ha)) S.fd (r.cv e.symm)
  | bad => exact h.elim
end
abbrev CXx (P : Program) (w : World) : CXT := L2.CX P w
/-- a def by its body's function -/
theorem fn_ok {P : Program} {w : World} {K : PySem.W.Frag} {T : Tb} {mg : Str → Option Value} {base : Heap} {k : Nat} {f : Addr} {name qual : Str} {params : Arguments} {body : List Stmt} {scope : Scope} {dV kV doc pm cdv ct oc : Value} {an od : Option Addr}
    {osl : Array (Option Value)} {N ps : List Str} {m : M Fl} (lk : K.lookup f = some ⟨oc, od, .func (PySem.W.fnOf name qual params body scope dV kV doc pm an cdv ct), osl⟩) (hcd : PySem.W.codeIn K cdv qual = true) (S : FnScope N ps scope)
    (hbody : ∀ (p : Nat → V) (A : Around) (outer : List Env) (s : Shared) (H : Hp) (E : XK), Room k (A.deeper (envOfC qual scope s.heap.objs.size f cdv)) → DSs (T.withPin p) (cxOf (CXx P w) P w K mg base N qual scope f cdv A outer s H E) body m) :
    FnOk P w K mg base (CXx P w) (k + 1) f (PySem.W.fnOf name qual params body scope dV kV doc pm an cdv ct) ps (liftF K T ps.length (mkFn N.length m)) := by
  refine fn_of lk hcd S (fun vs H Q E h => ?_) fun A outer s H vs Q E hr h => ?_
  · obtain ⟨F, O, as, ha, hl, _⟩ := h
    rw [ha.len]; exact hl
  · obtain ⟨F, O, as, ha, hl, nd, nf, fd, h⟩ := h
    have tk : Takes (cxOf (CXx P w) P w K mg base N qual scope f cdv A outer s H E) (fun cls d _ H => E cls d H) := takes_of rfl rfl rfl rfl
    refine ⟨_, (hbody (fun i => vs.getD i .non) A outer s H E hr).pss _ tk (passes_of rfl), F, O, _, ⟨?_, nd, nf, fd⟩, finF_post (T' := T.withPin fun i => vs.getD i .non) ha nf same_pin (fun i v e => ?_) h⟩
    · have e := (ha.cv (same_pin (p := fun i => vs.getD i .non))).sl (sl_none (N.length - as.length)) 0 (fun i v e => by
        show vs.getD (0 + i) .non = v
        rw [Nat.zero_add, List.getD_eq_getElem?_getD, e]; rfl)
      unfold L2.start
      rw [ha.len]
      exact e
    · show vs.getD i .non = v
      rw [List.getD_eq_getElem?_getD, e]; rfl
/-! ### calls -/
def argsOf (st : St) : List W → Option (List Arg)
  | [] => some []
  | .d x :: ws => (argsOf st ws).map (.d x :: ·)
  | .b i :: ws => match st[i]? with
    | some (.o _ x) => (argsOf st ws).map (.r x :: ·)
    | _ => none
  | .o _ :: _ => none
def slotsOf : List W → List Nat
  | [] => []
  | .b i :: ws => i :: slotsOf ws
  | _ :: ws => slotsOf ws
def tagOf (st : St) (i : Nat) : Option Nat := match st[i]? with
  | some (.o t _) => t
  | _ => none
def putBack (st : St) : List W → List OD → St
  | .b i :: ws, y :: ods => (putBack st ws ods).set i (.o (tagOf st i) y)
  | .d _ :: ws, ods => putBack st ws ods
  | .o _ :: ws, ods => putBack st ws ods
  | _, _ => st
def callW (n : Nat) (fn : Fn) (dd : List D) (ws : List W) : M W := fun st => match argsOf st ws with
  | some as => if (slotsOf ws).Nodup ∧ (as ++ dd.map Arg.d).length = n then (match fn (as ++ dd.map .d) with
    | .ok w ods => if (slotsOf ws).length = ods.length then .ok w (putBack st ws ods) else .bad
    | .exc e ods => if (slotsOf ws).length = ods.length then .exc e (putBack st ws ods) else .bad
    | .bad => .bad) else .bad
  | none => .bad
def mCall (n : Nat) (fn : Fn) (dd : List D) (ms : M (List W)) : M W := bnd ms (callW n fn dd)
section
variable {K : PySem.W.Frag} {T T' : Tb} {F F' : AP} {O O' : List Addr} {H H' : Hp} {σ : L2.St} {st : St}
theorem RO.self {a : Addr} {x : OD} {own : List Addr} (h : RO K T F H (.ref a) x own) : own = [a] := by cases h <;> rfl
theorem SL.inj : ∀ {σ : L2.St} {st : St} {O : List Addr} {i j : Nat} {a : Addr} {t t' : Option Nat} {x x' : OD}, SL K T F H σ st O → O.Nodup → st[i]? = some (.o t x) → st[j]? = some (.o t' x') → σ[i]? = some (some (.ref a)) → σ[j]? = some (some (.ref a)) → i = j
  | _, _, _, i, j, _, _, _, _, _, .nil, _, e, _, _, _ => by simp at e
  | _, _, _, 0, j, _, _, _, _, _, .no h, n, e, e', _, _ => by simp at e
  | _, _, _, 0, j, _, _, _, _, _, .d hv h, n, e, e', _, _ => by simp at e
  | _, _, _, i + 1, 0, _, _, _, _, _, .no h, n, e, e', _, _ => by simp at e'
  | _, _, _, i + 1, 0, _, _, _, _, _, .d hv h, n, e, e', _, _ => by simp at e'
  | _, _, _, i + 1, j + 1, _, _, _, _, _, .no h, n, e, e', f, f' => by rw [SL.inj (i := i) (j := j) h n (by simpa using e) (by simpa using e') (by simpa using f) (by simpa using f')]
  | _, _, _, i + 1, j + 1, _, _, _, _, _, .d hv h, n, e, e', f, f' => by rw [SL.inj (i := i) (j := j) h n (by simpa using e) (by simpa using e') (by simpa using f) (by simpa using f')]
  | _, _, _, 0, 0, _, _, _, _, _, .o ht hv h, n, e, e', f, f' => rfl
  | _, _, _, i + 1, j + 1, _, _, _, _, _, .o ht hv h, n, e, e', f, f' => by rw [SL.inj (i := i) (j := j) h (nodup_app.mp n).2.1 (by simpa using e) (by simpa using e') (by simpa using f) (by simpa using f')]
  | _, _, _, 0, j + 1, a, _, _, _, _, .o (v := v0) ht hv h, n, e, e', f, f' => by
    obtain ⟨v, own, s1, _, s3, s4⟩ := SL.get_o (i := j) h (by simpa using e')
    have q1 : v = .ref a := by
      have : some (some v) = some (some (V.ref a)) := by rw [← s1]; simpa using f'
      simpa using this
    have q2 : v0 = .ref a := by simpa using f
    subst q1; subst q2
    have := s3.self; subst this
    have := hv.self; subst this
    exact absurd (s4 a (by simp)) ((nodup_app.mp n).2.2 a (by simp))
  | _, _, _, i + 1, 0, a, _, _, _, _, .o (v := v0) ht hv h, n, e, e', f, f' => by
    obtain ⟨v, own, s1, _, s3, s4⟩ := SL.get_o (i := i) h (by simpa using e)
    have q1 : v = .ref a := by
      have : some (some v) = some (some (V.ref a)) := by rw [← s1]; simpa using f
      simpa using this
    have q2 : v0 = .ref a := by simpa using f'
    subst q1; subst q2
    have := s3.self; subst this
    have := hv.self; subst this
    exact absurd (s4 a (by simp)) ((nodup_app.mp n).2.2 a (by simp))
/-- the arguments, as the callee sees them -/
theorem args_ar (S : SRel K T F O H σ st) : ∀ {ws : List W} {vs : List V} {as : List Arg}, VRs K T F H σ ws vs → argsOf st ws = some as → (slotsOf ws).Nodup →
    ∃ Oa, AR K T F H as vs Oa ∧ Oa.Nodup ∧ (∀ a ∈ Oa, a ∈ O ∧ ∃ i ∈ slotsOf ws, σ[i]? = some (some (.ref a))) ∧ ∀ i ∈ slotsOf ws, ∃ t x, st[i]? = some (.o t x)
  | [], _, _, .nil, e, _ => by
    simp [argsOf] at e; subst e
    exact ⟨[], .nil, List.nodup_nil, fun a ha => by simp at ha, fun i hi => by simp [slotsOf] at hi⟩
  | .d x :: ws, _, _, .d h hs, e, n => by
    simp only [argsOf, Option.map_eq_some_iff] at e
    obtain ⟨as, e, rfl⟩ := e
    obtain ⟨Oa, q1, q2, q3, q4⟩ := args_ar S hs e n
    exact ⟨Oa, .d h q1, q2, q3, q4⟩
  | .b i :: ws, _, _, .b (v := v1) hv hs, e, n => by
    unfold argsOf at e
    split at e
    · rename_i t x e1
      simp only [Option.map_eq_some_iff] at e
      obtain ⟨as, e, rfl⟩ := e
      have n' := List.nodup_cons.mp (show (i :: slotsOf ws).Nodup from n)
      obtain ⟨Oa, q1, q2, q3, q4⟩ := args_ar S hs e n'.2
      obtain ⟨v, own, s1, s2, s3, s4⟩ := S.sl.get_o e1
      rw [hv] at s1
      obtain rfl : v1 = v := by simpa using s1
      refine ⟨own ++ Oa, .r s3 q1, nodup_app.mpr ⟨s3.nodup, q2, fun a ha hb => ?_⟩, fun a ha => ?_, fun j hj => ?_⟩
      · obtain ⟨_, j, hj, ej⟩ := q3 a hb
        obtain ⟨t', x', e2⟩ := q4 j hj
        have : own = [a] := by cases s3 <;> (simp at ha; subst ha; rfl)
        subst this
        have hva : σ[i]? = some (some (.ref a)) := by cases s3 <;> exact hv
        have := S.sl.inj S.nd e1 e2 hva ej
        subst this
        exact n'.1 hj
      · rcases List.mem_append.mp ha with z | z
        · refine ⟨s4 a z, i, List.mem_cons_self, ?_⟩
          cases s3 <;> (simp at z; subst z; exact hv)
        · obtain ⟨z1, j, z2, z3⟩ := q3 a z
          exact ⟨z1, j, List.mem_cons_of_mem _ z2, z3⟩
      · rcases List.mem_cons.mp (show j ∈ i :: slotsOf ws from hj) with z | z
        · subst z; exact ⟨t, x, e1⟩
        · exact q4 j z
    · cases e
/-- what the callee has made of them -/
theorem back_get : ∀ {ws : List W} {vs : List V} {as : List Arg} {ods : List OD} {Oa : List Addr}, VRs K T F H σ ws vs → argsOf st ws = some as → AR K T F' H' (putA as ods) vs Oa → (slotsOf ws).Nodup → (slotsOf ws).length = ods.length → ∀ i, (i ∉ slotsOf ws → (putBack st ws ods)[i]? = st[i]?) ∧
    (i ∈ slotsOf ws → ∃ t x x' v own, st[i]? = some (.o t x) ∧ (putBack st ws ods)[i]? = some (.o t x') ∧ σ[i]? = some (some v) ∧ RO K T F' H' v x' own)
  | [], _, _, _, _, .nil, e, _, _, _, i => ⟨fun _ => by unfold putBack; rfl, fun h => by simp [slotsOf] at h⟩
  | .d x :: ws, _, _, ods, _, .d h hs, e, ar, n, hl, i => by
    simp only [argsOf, Option.map_eq_some_iff] at e
    obtain ⟨as, e, rfl⟩ := e
    cases ar with
    | d _ ar => exact back_get (ods := ods) hs e ar n hl i
  | .b k :: ws, _, _, ods, _, .b hv hs, e, ar, n, hl, i => by
    unfold argsOf at e
    split at e
    · rename_i t x e1
      simp only [Option.map_eq_some_iff] at e
      obtain ⟨as, e, rfl⟩ := e
      have n' := List.nodup_cons.mp (show (k :: slotsOf ws).Nodup from n)
      cases ods with
      | cons y ods =>
        cases ar with
        | r h1 ar =>
          have ih := back_get (ods := ods) hs e ar n'.2 (by simpa [slotsOf] using hl)
          have el : (putBack st (.b k :: ws) (y :: ods))[i]? = ((putBack st ws ods).set k (.o (tagOf st k) y))[i]? := rfl
          have tg : tagOf st k = t := by unfold tagOf; rw [e1]
          rw [el, tg]
          by_cases hik : k = i
          · subst hik
            have hk : (putBack st ws ods)[k]? = some (.o t x) := ((ih k).1 n'.1).trans e1
            refine ⟨fun z => absurd List.mem_cons_self z, fun _ => ⟨t, x, y, _, _, e1, ?_, hv, h1⟩⟩
            rw [List.getElem?_set_self (List.getElem?_eq_some_iff.mp hk).1]
          · rw [List.getElem?_set_ne hik]
            refine ⟨fun z => (ih i).1 fun q => z (List.mem_cons_of_mem _ q), fun z => ?_⟩
            rcases List.mem_cons.mp (show i ∈ k :: slotsOf ws from z) with q | q
            · exact absurd q.symm hik
            · exact (ih i).2 q
      | nil => simp [slotsOf] at hl
    · cases e
/-- slots, their owned things changed elsewhere -/
theorem SL.upd {F' : AP} {H' : Hp} (hF : ∀ a, F a → F' a) (k : ∀ a o, F a → H a = some o → NoTbl o → H' a = some o) : ∀ {σ : L2.St} {st st2 : St} {O : List Addr}, SL K T F H σ st O → st2.length = st.length →
    (∀ i : Nat, (st[i]? = some Sl.no → st2[i]? = some Sl.no) ∧ (∀ x, st[i]? = some (Sl.d x) → st2[i]? = some (Sl.d x)) ∧ (∀ t x, st[i]? = some (Sl.o t x) → ∃ x', st2[i]? = some (Sl.o t x') ∧ ∀ v own, σ[i]? = some (some v) → RO K T F H v x own → (∀ a ∈ own, a ∈ O) → RO K T F' H' v x' own)) → SL K T F' H' σ st2 O
  | _, _, [], _, .nil, _, _ => .nil
  | _, _, s :: st2, _, .no h, hl, g => by
    have g0 := (g 0).1 rfl
    obtain rfl : s = .no := by simpa using g0
    exact .no (SL.upd hF k h (by simpa using hl) fun i => g (i + 1))
  | _, _, s :: st2, _, .d (x := x) hv h, hl, g => by
    have g0 := (g 0).2.1 x rfl
    obtain rfl : s = .d x := by simpa using g0
    exact .d (RD.mono hF k _ _ hv) (SL.upd hF k h (by simpa using hl) fun i => g (i + 1))
  | _, _, s :: st2, _, .o (t := t) (x := x) ht hv h, hl, g => by
    obtain ⟨x', g0, g1⟩ := (g 0).2.2 t x rfl
    obtain rfl : s = .o t x' := by simpa using g0
    refine .o ht (g1 _ _ rfl hv fun a ha => List.mem_append_left _ ha) (SL.upd hF k h (by simpa using hl) fun i => ⟨(g (i + 1)).1, (g (i + 1)).2.1, fun t x e => ?_⟩)
    obtain ⟨y, q1, q2⟩ := (g (i + 1)).2.2 t x e
    exact ⟨y, q1, fun v own s r m => q2 v own s r fun a ha => List.mem_append_right _ (m a ha)⟩
theorem putBack_len : ∀ {ws : List W} {ods : List OD}, (putBack st ws ods).length = st.length
  | [], _ => by unfold putBack; rfl
  | .d _ :: ws, ods => putBack_len (ws := ws) (ods := ods)
  | .o _ :: ws, ods => putBack_len (ws := ws) (ods := ods)
  | .b k :: ws, y :: ods => (List.length_set ..).trans (putBack_len (ws := ws) (ods := ods))
  | .b k :: ws, [] => rfl
theorem AR.app {as bs : List Arg} {vs us : List V} {O' : List Addr} (h : AR K T F H as vs O) (h' : AR K T F H bs us O') : AR K T F H (as ++ bs) (vs ++ us) (O ++ O') := by
  induction h with
  | nil => exact h'
  | d h _ ih => exact .d h ih
  | r h _ ih => rw [List.append_assoc]; exact .r h ih
theorem AR.data {ds : List D} {vs : List V} (h : RDs K T F H vs ds) : AR K T F H (ds.map .d) vs [] := by
  induction ds generalizing vs with
  | nil => cases h; exact .nil
  | cons d ds ih => cases h with | cons h hs => exact .d h (ih hs)
/-- the defaults are handed back as they are -/
theorem AR.unapp : ∀ {as : List Arg} {dd : List D} {ods : List OD} {vs us : List V} {Oa : List Addr}, vs.length = as.length → AR K T F H (putA (as ++ dd.map .d) ods) (vs ++ us) Oa → AR K T F H (putA as ods) vs Oa
  | [], [], ods, [], us, _, _, h => by
    simp [putA] at h ⊢; cases h; exact .nil
  | [], q :: dd, ods, [], us, _, _, h => by
    have h : AR K T F H (Arg.d q :: putA (dd.map Arg.d) ods) us _ := h
    cases h with
    | d _ h =>
      have := AR.unapp (as := []) (dd := dd) (vs := []) rfl h
      exact this
  | .d x :: as, dd, ods, v :: vs, us, _, hl, h => by
    have h : AR K T F H (.d x :: putA (as ++ dd.map .d) ods) (v :: (vs ++ us)) _ := h
    cases h with
    | d h1 h => exact .d h1 (AR.unapp (by simpa using hl) h)
  | .r x :: as, dd, y :: ods, v :: vs, us, _, hl, h => by
    have h : AR K T F H (.r y :: putA (as ++ dd.map .d) ods) (v :: (vs ++ us)) _ := h
    cases h with
    | r h1 h2 => exact .r h1 (AR.unapp (by simpa using hl) h2)
  | .r x :: as, dd, [], v :: vs, us, _, hl, h => by
    have h : AR K T F H (.r x :: putA (as ++ dd.map .d) []) (v :: (vs ++ us)) _ := h
    cases h with
    | r h1 h2 => exact .r h1 (AR.unapp (by simpa using hl) h2)
/-- behind the call -/
theorem call_back {ws : List W} {vs : List V} {as : List Arg} {ods : List OD} {Oa : List Addr} (S : SRel K T F O H σ st) (rs : VRs K T F H σ ws vs) (e : argsOf st ws = some as) (n : (slotsOf ws).Nodup) (hl : (slotsOf ws).length = ods.length)
    (hO : ∀ a ∈ Oa, a ∈ O ∧ ∃ i ∈ slotsOf ws, σ[i]? = some (some (.ref a))) (E : Ext F Oa H F' Oa H') (ar : AR K T F' H' (putA as ods) vs Oa) (nf : ∀ a ∈ Oa, ¬ F' a) (fd : ∀ a, F' a → H' a ≠ none) :
    SRel K T F' O H' σ (putBack st ws ods) ∧ Ext F O H F' O H' := by
  have nfO : ∀ a ∈ O, ¬ F' a := fun a ha z => by
    rcases E.newF a z with q | q | q
    · exact S.nf a ha q
    · exact nf a q z
    · exact S.sl.there a ha q
  have kF : ∀ a o, F a → H a = some o → NoTbl o → H' a = some o := fun a o f e t => E.keep a o e (fun z => S.nf a (hO a z).1 f) t
  refine ⟨⟨SL.upd E.fz kF S.sl putBack_len fun i => ?_, S.nd, nfO, fd⟩, ⟨E.fz, fun a o e n t => E.keep a o e (fun z => n (hO a z).1) t, fun a z => ?_, fun a ha => .inl ha, E.dom⟩⟩
  · obtain ⟨b1, b2⟩ := back_get rs e ar n hl i
    by_cases hi : i ∈ slotsOf ws
    · obtain ⟨t, x, x', v, own, q1, q2, q3, q4⟩ := b2 hi
      refine ⟨(fun z => by rw [q1] at z; cases z), (fun y z => by rw [q1] at z; cases z), fun t2 x2 z => ?_⟩
      rw [q1] at z; cases z
      refine ⟨x', q2, fun v2 own2 s r _ => ?_⟩
      rw [q3] at s
      obtain rfl : v = v2 := by simpa using s
      obtain rfl : own = own2 := by cases q4 <;> cases r <;> rfl
      exact q4
    · rw [b1 hi]
      refine ⟨id, fun _ z => z, fun t x z => ⟨x, z, fun v own s r m => r.mono E.fz fun a o q e2 tb => E.keep a o e2 (fun za => ?_) tb⟩⟩
      obtain ⟨h1, j, h2, h3⟩ := hO a za
      rcases q with f | q
      · exact S.nf a h1 f
      · obtain ⟨t', y, y', v', own', p1, _⟩ := (back_get rs e ar n hl j).2 h2
        have hv : v = .ref a := by cases r <;> (simp at q; subst q; rfl)
        subst hv
        have := S.sl.inj S.nd z p1 s h3
        subst this
        exact hi h2
  · rcases E.newF a z with q | q | q
    · exact .inl q
    · exact .inr (.inl (hO a q).1)
    · exact .inr (.inr q)
end
section
variable {X : Cx} {T T0 : Tb} {pos : Pos}
theorem VR.slots0 {K : PySem.W.Frag} {F : AP} {H : Hp} {σ : L2.St} {w : W} {v : V} {own : List Addr} (h : VR K T F H σ w v own) (hb : ∀ i, w ≠ .b i) : VR K T F H [] w v own := h.chg hb
theorem run_callW {Wx : WX} {n : Nat} {fn : Fn} {dd : List D} {dvs : List V} {ws : List W} {vs : List V} {σ : L2.St} {F0 F : AP} {O0 O : List Addr} {H0 H : Hp} {st : St} {Q : VK} (e0 : Same T T0) (hd : ∀ F H, RDs X.K T F H dvs dd)
    (E0 : Ext F0 O0 H0 F O H) (S : SRel X.K T F O H σ st) (rs : VRs X.K T F H σ ws vs) (h : Post X.K T Wx σ F0 O0 H0 (callW n fn dd ws st) (GE X.K T σ H0 Q)) : liftF X.K T0 n fn (vs ++ dvs) H Q (WE Wx σ) := by
  unfold callW at h
  split at h
  · rename_i as ea
    split at h
    · rename_i nd
      obtain ⟨nd, hn⟩ := nd
      obtain ⟨Oa, q1, q2, q3, q4⟩ := args_ar S rs ea nd
      have qa : AR X.K T F H (as ++ dd.map .d) (vs ++ dvs) Oa := by
        have := q1.app (AR.data (hd F H)); rwa [List.append_nil] at this
      have nfa : ∀ a ∈ Oa, ¬ F a := fun a ha => S.nf a (q3 a ha).1
      have hl0 := q1.len
      cases ef : fn (as ++ dd.map .d) with
      | ok w ods =>
        rw [ef] at h
        dsimp only at h
        split at h
        · rename_i hl
          refine ⟨F, Oa, _, qa.cv e0, hn, q2, nfa, S.fd, ?_⟩
          rw [ef]
          intro F' H' v own E ar nf fd r ok
          obtain ⟨S', E'⟩ := call_back S rs ea nd hl q3 E (AR.unapp hl0 (ar.cv e0.symm)) nf fd
          refine h F' O H' (E0.trans E') S' v own ((r.cv e0.symm).chg fun i z => ?_) fun a ha => ⟨fun z => ?_, (ok a ha).2.1, E0.none_of (ok a ha).2.2⟩
          · subst z; cases r with | b z => simp at z
          · exact S.sl.there a z (ok a ha).2.2
        · exact h.elim
      | exc e' ods =>
        rw [ef] at h
        dsimp only at h
        split at h
        · rename_i hl
          refine ⟨F, Oa, _, qa.cv e0, hn, q2, nfa, S.fd, ?_⟩
          rw [ef]
          intro F' H' cls dx E ar nf fd r
          obtain ⟨S', E'⟩ := call_back S rs ea nd hl q3 E (AR.unapp hl0 (ar.cv e0.symm)) nf fd
          exact h F' O H' cls dx (E0.trans E') S' (r.cv e0.symm)
        · exact h.elim
      | bad => rw [ef] at h; exact h.elim
    · exact h.elim
  · exact h.elim
end
end DP
end
section
set_option Elab.async false
set_option linter.all false
set_option maxRecDepth 100000
set_option maxHeartbeats 4000000
/-! DPA: calls of functions, methods, classes; attributes stored. -/
namespace DP
open PySem PySem.Spec PyProof.Rows L2
section
variable {X : Cx} {CX : CXT} {k : Nat} {f C : Addr} {fd : FuncData} {ps : List Str} {sp : Sp} {dvs : List V} {ds : List Value} {E : L2.St → XK} {x m : Str} {p pos apos : Pos} {e o : Expr} {es : List Expr} {ta : TE} {t : TA}
theorem pe_callSD0 (F : FnOk X.prog X.w X.K X.mg X.base CX k f fd ps sp) (hr : Room k X.A) (hg : Gl X x) (hm : X.mg x = some (.ref f)) (hk : PySem.W.keepIn X.K (.ref f) = true) (hb : Binds X.K fd ps ds) (hd : Vals dvs ds) (hx : ∀ σ, PassesAt CX X σ (E σ))
    (hdb : (x == ("__debug__" : Str)) = false := by decide) : PE X (.Call (.Name x p) [] [] pos) (tCallSD sp dvs E tNil) := by
  refine ⟨fun pins s σ H Q I h => ?_⟩
  refine wpAny_Call_Name_kw (ld_glob I hg hm ?_ hdb)
  exact PySem.W.callWith_K0 I.kIn hk (run_fnSD (us := []) F hr hb hd (hx σ) I .nil h)
def tMethSD (C : Addr) (m : Str) (sp : Sp) (dvs : List V) (E : L2.St → XK) (ta : TE) (t : TA) : TE := fun σ H Q => ta σ H fun x H1 => ∃ a dx fs, x = .ref a ∧ H1 a = some (.ins C dx fs) ∧ fs.lookup m = none ∧ t σ H1 fun vs H2 => sp (x :: (vs ++ dvs)) H2 Q (E σ)
theorem pe_methSD {pl : Sem Bool} (he : PE X o ta) (c : Cls X.K C) (hm : Meth X.K C m f) (F : FnOk X.prog X.w X.K X.mg X.base CX k f fd ps sp) (hr : Room k X.A) (hb : Binds X.K fd ps ds) (hd : Vals dvs ds) (hx : ∀ σ, PassesAt CX X σ (E σ)) (ha : PA X (e :: es) t)
    (hst : starEach (e :: es) X.env = (false, eval e X.env) :: starEach es X.env := by rfl) (hpl : (backTo pos (starEach es X.env)).any (·.1) = false := by rfl)
    (ht : eval (.Call (.Attribute o m apos) (e :: es) [] pos) X.env = (do
      let ov ← eval o X.env
      standAt apos.atName
      let (f, first) ← holding [ov] (getMethod ov m pl)
      callWith pos f first (backTo pos (starEach (e :: es) X.env)) (backToKw pos (keywordEach [] X.env))) := by rfl) :
    PE X (.Call (.Attribute o m apos) (e :: es) [] pos) (tMethSD C m sp dvs E ta t) := by
  refine ⟨fun pins s σ H Q I h => ?_⟩
  refine PySem.W.methodCall_KW (pl := pl) (thn (he.run pins s σ H _ I h) fun u s1 ⟨x, H1, I1, rx, a, dx, fs, ex, ea, l, q⟩ => ?_) ht
  subst ex
  obtain rfl : u = Value.ref a := rx
  refine getmeth_ok I1 ea c hm l ?_
  refine PySem.W.callWith_K (first := [.ref a]) (h₀ := X.base) I.ok.mod.kin hm.kp (thn (ha.run pos pins s1 σ H1 _ I1 q) fun us s2 ⟨vs, H2, I2, r, q2⟩ => ⟨I2.kIn, ?_⟩) hst hpl
  exact run_fnSD (us := .ref a :: us) (vs := .ref a :: vs) F hr hb hd (hx σ) I2 (.cons rfl r) q2
theorem pe_methSD0 {pl : Sem Bool} (he : PE X o ta) (c : Cls X.K C) (hm : Meth X.K C m f) (F : FnOk X.prog X.w X.K X.mg X.base CX k f fd ps sp) (hr : Room k X.A) (hb : Binds X.K fd ps ds) (hd : Vals dvs ds) (hx : ∀ σ, PassesAt CX X σ (E σ))
    (ht : eval (.Call (.Attribute o m apos) [] [] pos) X.env = (do
      let ov ← eval o X.env
      standAt apos.atName
      let (f, first) ← holding [ov] (getMethod ov m pl)
      callWith pos f first (backTo pos (starEach [] X.env)) (backToKw pos (keywordEach [] X.env))) := by rfl) :
    PE X (.Call (.Attribute o m apos) [] [] pos) (tMethSD C m sp dvs E ta tNil) := by
  refine ⟨fun pins s σ H Q I h => ?_⟩
  refine PySem.W.methodCall_KW (pl := pl) (thn (he.run pins s σ H _ I h) fun u s1 ⟨x, H1, I1, rx, a, dx, fs, ex, ea, l, q⟩ => ?_) ht
  subst ex
  obtain rfl : u = Value.ref a := rx
  refine getmeth_ok I1 ea c hm l ?_
  exact PySem.W.callWith_K0 (first := [.ref a]) I1.kIn hm.kp (run_fnSD (us := [.ref a]) (vs := [.ref a]) F hr hb hd (hx σ) I1 (.cons rfl .nil) q)
def tMakeSD (C : Addr) (sp : Sp) (dvs : List V) (E : L2.St → XK) (t : TA) : TE := fun σ H Q => t σ H fun vs H1 => ∀ x dx, H1 x = none → H1 dx = none → dx ≠ x →
  sp (.ref x :: (vs ++ dvs)) (upd (upd H1 dx (.own x)) x (.ins C dx [])) (fun v H2 => v = .non ∧ Q (.ref x) H2) (E σ)
theorem run_makeSD {pins : List (Addr × Obj)} {σ : L2.St} {H : Hp} {s : Shared} {Q : VK} {us : List Value} {vs : List V} {E : XK} (M : Mk X.K C f) (F : FnOk X.prog X.w X.K X.mg X.base CX k f fd ps sp) (hr : Room (k + 1) X.A) (hb : Binds X.K fd ps ds) (hd : Vals dvs ds)
    (hx : PassesAt CX X σ E) (I : Inv X pins σ H s) (r : Vals vs us)
    (h : ∀ x dx, H x = none → H dx = none → dx ≠ x → sp (.ref x :: (vs ++ dvs)) (upd (upd H dx (.own x)) x (.ins C dx [])) (fun v H2 => v = .non ∧ Q (.ref x) H2) E) :
    wpAny (model X.prog X.w) X.A (call (.ref C) us) (EP X pins σ Q) X.xe s := by
  have hq := h (s.heap.objs.size + 1) s.heap.objs.size (I.hok.fresh (Nat.le_succ _)) (I.hok.fresh (Nat.le_refl _)) (Nat.ne_of_lt (Nat.lt_succ_self _))
  have I2 := Inv.made (C := C) I
  have r2 : Vals (V.ref (s.heap.objs.size + 1) :: (vs ++ dvs)) (Value.ref (s.heap.objs.size + 1) :: (us ++ ds)) := .cons rfl (r.append hd)
  have hl : (Value.ref (s.heap.objs.size + 1) :: us ++ ds).length = ps.length := by
    have e := r2.length
    rw [F.len _ _ _ _ hq] at e
    exact e.symm
  refine wpAny_call (make_map (f := f) I.kIn M.makes M.init (beq_iff_eq.mp M.fn) (codeAny_mono (F.run _ X.stack _ _ ⟨Value.ref (s.heap.objs.size + 1) :: us, []⟩ (Value.ref (s.heap.objs.size + 1) :: (us ++ ds)) _ _ E (hr.make C us [])
    (I2.env0.make C us []) (hb _ (Value.ref (s.heap.objs.size + 1) :: us) I2.kIn hl) r2 hq) fun r s' hq' => ?_))
  cases r with
  | error e => exact hx pins _ _ e s' I2 hq'
  | ok fl =>
    cases fl with
    | ret u =>
      obtain ⟨v, H', I3, rv, ev, q3⟩ := I2.after hq'
      subst ev
      exact ⟨rv, ⟨V.ref (s.heap.objs.size + 1), H', I3, rfl, q3⟩⟩
    | next => exact False.elim hq'
    | brk => exact False.elim hq'
    | cont => exact False.elim hq'
theorem pe_makeSD (M : Mk X.K C f) (F : FnOk X.prog X.w X.K X.mg X.base CX k f fd ps sp) (hr : Room (k + 1) X.A) (hg : Gl X x) (hm : X.mg x = some (.ref C)) (hb : Binds X.K fd ps ds) (hd : Vals dvs ds) (hx : ∀ σ, PassesAt CX X σ (E σ))
    (ha : PA X (e :: es) t) (hdb : (x == ("__debug__" : Str)) = false := by decide) (he : starEach (e :: es) X.env = (false, eval e X.env) :: starEach es X.env := by rfl) (hpl : (backTo pos (starEach es X.env)).any (·.1) = false := by rfl) :
    PE X (.Call (.Name x p) (e :: es) [] pos) (tMakeSD C sp dvs E t) := by
  refine ⟨fun pins s σ H Q I h => ?_⟩
  refine wpAny_Call_Name_kw (ld_glob I hg hm ?_ hdb)
  refine PySem.W.callWith_K (h₀ := X.base) I.ok.mod.kin M.kp (thn (ha.run pos pins s σ H _ I h) fun us s1 ⟨vs, H1, I1, r, q⟩ => ⟨I1.kIn, ?_⟩) he hpl
  exact run_makeSD M F hr hb hd (hx σ) I1 r q
end
/-- a def that may be called by its name -/
structure Cal (P : Program) (w : World) (K : PySem.W.Frag) (mg : Str → Option Value) (base : Heap) (T : Tb) (k : Nat) (x : Str) (n : Nat) (fn : Fn) (dd : List D) : Prop where
  ex : ∃ (T0 : Tb) (f : Addr) (fd : FuncData) (ps : List Str) (ds : List Value) (dvs : List V), DP.Same T T0 ∧ FnOk P w K mg base (CXx P w) k f fd ps (liftF K T0 n fn) ∧ mg x = some (.ref f) ∧ PySem.W.keepIn K (.ref f) = true ∧ Binds K fd ps ds ∧ Vals dvs ds ∧ ∀ F H, RDs K T F H dvs dd
theorem Cal.pin {P : Program} {w : World} {K : PySem.W.Frag} {mg : Str → Option Value} {base : Heap} {T : Tb} {k : Nat} {x : Str} {n : Nat} {fn : Fn} {dd : List D} (c : Cal P w K mg base T k x n fn dd) (p : Nat → V) : Cal P w K mg base (T.withPin p) k x n fn dd := by
  obtain ⟨T0, f, fd, ps, ds, dvs, e, h1, h2, h3, h4, h5, h6⟩ := c.ex
  exact ⟨T0, f, fd, ps, ds, dvs, ⟨e.cls, e.fnA⟩, h1, h2, h3, h4, h5, fun F H => RDs.cv same_pin _ _ (h6 F H)⟩
/-- a method of the class c -/
structure Met (P : Program) (w : World) (K : PySem.W.Frag) (mg : Str → Option Value) (base : Heap) (T : Tb) (k : Nat) (c : String) (m : Str) (n : Nat) (fn : Fn) (dd : List D) : Prop where
  ex : ∃ (T0 : Tb) (C f : Addr) (fd : FuncData) (ps : List Str) (ds : List Value) (dvs : List V), DP.Same T T0 ∧ T.cls c = some C ∧ Cls K C ∧ Meth K C m f ∧ FnOk P w K mg base (CXx P w) k f fd ps (liftF K T0 n fn) ∧ Binds K fd ps ds ∧ Vals dvs ds ∧ ∀ F H, RDs K T F H dvs dd
theorem Met.pin {P : Program} {w : World} {K : PySem.W.Frag} {mg : Str → Option Value} {base : Heap} {T : Tb} {k : Nat} {c : String} {m : Str} {n : Nat} {fn : Fn} {dd : List D} (h : Met P w K mg base T k c m n fn dd) (p : Nat → V) : Met P w K mg base (T.withPin p) k c m n fn dd := by
  obtain ⟨T0, C, f, fd, ps, ds, dvs, e, h1, h2, h3, h4, h5, h6, h7⟩ := h.ex
  exact ⟨T0, C, f, fd, ps, ds, dvs, ⟨e.cls, e.fnA⟩, h1, h2, h3, h4, h5, h6, fun F H => RDs.cv same_pin _ _ (h7 F H)⟩
/-- a class that is made by its name -/
structure Mak (P : Program) (w : World) (K : PySem.W.Frag) (mg : Str → Option Value) (base : Heap) (T : Tb) (k : Nat) (x : Str) (c : String) (n : Nat) (fn : Fn) (dd : List D) : Prop where
  ex : ∃ (T0 : Tb) (C f : Addr) (fd : FuncData) (ps : List Str) (ds : List Value) (dvs : List V), DP.Same T T0 ∧ T.cls c = some C ∧ Mk K C f ∧ mg x = some (.ref C) ∧ FnOk P w K mg base (CXx P w) k f fd ps (liftF K T0 n fn) ∧ Binds K fd ps ds ∧ Vals dvs ds ∧ ∀ F H, RDs K T F H dvs dd
theorem Mak.pin {P : Program} {w : World} {K : PySem.W.Frag} {mg : Str → Option Value} {base : Heap} {T : Tb} {k : Nat} {x : Str} {c : String} {n : Nat} {fn : Fn} {dd : List D} (h : Mak P w K mg base T k x c n fn dd) (p : Nat → V) : Mak P w K mg base (T.withPin p) k x c n fn dd := by
  obtain ⟨T0, C, f, fd, ps, ds, dvs, e, h1, h2, h3, h4, h5, h6, h7⟩ := h.ex
  exact ⟨T0, C, f, fd, ps, ds, dvs, ⟨e.cls, e.fnA⟩, h1, h2, h3, h4, h5, h6, fun F H => RDs.cv same_pin _ _ (h7 F H)⟩
section
variable {X : Cx} {T : Tb} {pos : Pos}
theorem de_call {k n : Nat} {x : Str} {fn : Fn} {dd : List D} {e : Expr} {es : List Expr} {ms : M (List W)} {p : Pos} (c : Cal X.prog X.w X.K X.mg X.base T k x n fn dd) (hr : Room k X.A) (ha : DA T X (e :: es) ms) (hg : Gl X x := by rfl)
    (hdb : (x == ("__debug__" : Str)) = false := by decide +kernel) (he : starEach (e :: es) X.env = (false, eval e X.env) :: starEach es X.env := by rfl) (hpl : (backTo pos (starEach es X.env)).any (·.1) = false := by rfl) : DE T X (.Call (.Name x p) (e :: es) [] pos) (mCall n fn dd ms) := by
  obtain ⟨T0, f, fd, ps, ds, dvs, e0, h1, h2, h3, h4, h5, h6⟩ := c.ex
  refine ⟨fun Wx tk => PE.weak (pe_callSD h1 hr hg h2 h3 h4 h5 (fun σ => passAt tk σ) (ha.pa Wx tk) hdb he hpl) fun σ H Q h => ?_⟩
  obtain ⟨F, O, st, S, h⟩ := h
  exact ⟨F, O, st, S, h.bind .refl fun ws st1 F1 O1 H1 E1 _ S1 h1 vs rs => run_callW e0 h6 E1 S1 rs h1⟩
theorem de_call0 {k n : Nat} {x : Str} {fn : Fn} {dd : List D} {p : Pos} (c : Cal X.prog X.w X.K X.mg X.base T k x n fn dd) (hr : Room k X.A) (hg : Gl X x := by rfl)
    (hdb : (x == ("__debug__" : Str)) = false := by decide +kernel) : DE T X (.Call (.Name x p) [] [] pos) (mCall n fn dd aNil) := by
  obtain ⟨T0, f, fd, ps, ds, dvs, e0, h1, h2, h3, h4, h5, h6⟩ := c.ex
  refine ⟨fun Wx tk => PE.weak (pe_callSD0 h1 hr hg h2 h3 h4 h5 (fun σ => passAt tk σ) hdb) fun σ H Q h => ?_⟩
  obtain ⟨F, O, st, S, h⟩ := h
  exact run_callW (ws := []) (vs := []) e0 h6 .refl S .nil h
/-- o.m(..) -/
def mMeth (c : String) (m : String) (n : Nat) (fn : Fn) (dd : List D) (mo : M W) (ms : M (List W)) : M W := bnd mo fun w st => match rd w st with
  | some (.ins c' fs) => if c' = c ∧ fldD m fs = none then bnd ms (fun ws => callW n fn dd (w :: ws)) st else .bad
  | _ => .bad
theorem VRs.of {K : PySem.W.Frag} {F : AP} {H : Hp} {σ : L2.St} {w : W} {v : V} {own : List Addr} {ws : List W} {vs : List V} (h : VR K T F H σ w v own) (ho : ∀ x, w ≠ .o x) (hs : VRs K T F H σ ws vs) : VRs K T F H σ (w :: ws) (v :: vs) := by
  cases h with
  | d h => exact .d h hs
  | o h => exact absurd rfl (ho _)
  | b h => exact .b h hs
theorem callW_no {n : Nat} {fn : Fn} {dd : List D} {x : OD} {ws : List W} {st : St} : callW n fn dd (.o x :: ws) st = .bad := by unfold callW argsOf; rfl
theorem run_meth {Wx : WX} {C : Addr} {c m : String} {n : Nat} {fn : Fn} {dd : List D} {dvs : List V} {mo : M W} {ms : M (List W)} {σ : L2.St} {H : Hp} {Q : VK} {T0 : Tb} (e0 : DP.Same T T0) (hC : T.cls c = some C) (hd : ∀ F H, RDs X.K T F H dvs dd)
    (h : lift X.K T Wx (mMeth c m n fn dd mo ms) σ H Q) : tMethSD C (Str.ofString m) (liftF X.K T0 n fn) dvs (WE Wx) (lift X.K T Wx mo) (liftA X.K T Wx ms) σ H Q := by
  obtain ⟨F, O, st, S, h⟩ := h
  refine ⟨F, O, st, S, h.bind .refl fun w st1 F1 O1 H1 E1 _ S1 h1 v own r ok => ?_⟩
  split at h1
  · rename_i c' fs e
    split at h1
    · rename_i hc
      obtain ⟨rfl, hf⟩ := hc
      cases r.vw S1.sl e with
      | ins hC' ha hs =>
        rw [hC] at hC'
        cases hC'
        refine ⟨_, _, _, rfl, ha, hs.none hf, F1, O1, st1, S1, h1.bind E1 fun ws st2 F2 O2 H2 E2 E12 S2 h2 vs rs => ?_⟩
        obtain ⟨r', ok'⟩ := r.ext ok S1.nf E12
        exact run_callW (vs := _ :: vs) e0 hd E2 S2 (VRs.of r' (fun x z => by subst z; rw [callW_no] at h2; exact h2) rs) h2
    · exact h1.elim
  · exact h1.elim
theorem de_meth {k n : Nat} {c m : String} {fn : Fn} {dd : List D} {o e : Expr} {es : List Expr} {mo : M W} {ms : M (List W)} {apos : Pos} {pl : Sem Bool} (M : Met X.prog X.w X.K X.mg X.base T k c (Str.ofString m) n fn dd) (hr : Room k X.A) (ho : DE T X o mo) (ha : DA T X (e :: es) ms)
    (hst : starEach (e :: es) X.env = (false, eval e X.env) :: starEach es X.env := by rfl) (hpl : (backTo pos (starEach es X.env)).any (·.1) = false := by rfl)
    (ht : eval (.Call (.Attribute o (Str.ofString m) apos) (e :: es) [] pos) X.env = (do
      let ov ← eval o X.env
      standAt apos.atName
      let (f, first) ← holding [ov] (getMethod ov (Str.ofString m) pl)
      callWith pos f first (backTo pos (starEach (e :: es) X.env)) (backToKw pos (keywordEach [] X.env))) := by rfl) : DE T X (.Call (.Attribute o (Str.ofString m) apos) (e :: es) [] pos) (mMeth c m n fn dd mo ms) := by
  obtain ⟨T0, C, f, fd, ps, ds, dvs, e0, h1, h2, h3, h4, h5, h6, h7⟩ := M.ex
  exact ⟨fun Wx tk => PE.weak (pe_methSD (ho.pe Wx tk) h2 h3 h4 hr h5 h6 (fun σ => passAt tk σ) (ha.pa Wx tk) hst hpl ht) fun σ H Q h => run_meth e0 h1 h7 h⟩
theorem de_meth0 {k n : Nat} {c m : String} {fn : Fn} {dd : List D} {o : Expr} {mo : M W} {apos : Pos} {pl : Sem Bool} (M : Met X.prog X.w X.K X.mg X.base T k c (Str.ofString m) n fn dd) (hr : Room k X.A) (ho : DE T X o mo)
    (ht : eval (.Call (.Attribute o (Str.ofString m) apos) [] [] pos) X.env = (do
      let ov ← eval o X.env
      standAt apos.atName
      let (f, first) ← holding [ov] (getMethod ov (Str.ofString m) pl)
      callWith pos f first (backTo pos (starEach [] X.env)) (backToKw pos (keywordEach [] X.env))) := by rfl) : DE T X (.Call (.Attribute o (Str.ofString m) apos) [] [] pos) (mMeth c m n fn dd mo aNil) := by
  obtain ⟨T0, C, f, fd, ps, ds, dvs, e0, h1, h2, h3, h4, h5, h6, h7⟩ := M.ex
  refine ⟨fun Wx tk => PE.weak (pe_methSD0 (ho.pe Wx tk) h2 h3 h4 hr h5 h6 (fun σ => passAt tk σ) ht) fun σ H Q h => ?_⟩
  obtain ⟨F, O, st, S, h⟩ := run_meth e0 h1 h7 h
  refine ⟨F, O, st, S, h.mono fun w st' F' O' H' E' S' g v own r ok => ?_⟩
  obtain ⟨a, dx, fs, q1, q2, q3, F2, O2, st2, S2, q4⟩ := g v own r ok
  exact ⟨a, dx, fs, q1, q2, q3, q4 F2 O2 H' .refl S2 [] .nil⟩
/-- C(..) -/
def makeW (c : String) (n : Nat) (fn : Fn) (dd : List D) (ws : List W) : M W := fun st => match argsOf st ws with
  | some as => if (slotsOf ws).Nodup ∧ (as ++ dd.map Arg.d).length + 1 = n then (match fn (.r (.ins c []) :: (as ++ dd.map Arg.d)) with
    | .ok (.d .non) (.ins c' fs :: ods) => if (slotsOf ws).length = ods.length then .ok (.o (.ins c' fs)) (putBack st ws ods) else .bad
    | .exc e (_ :: ods) => if (slotsOf ws).length = ods.length then .exc e (putBack st ws ods) else .bad
    | _ => .bad) else .bad
  | none => .bad
def mMake (c : String) (n : Nat) (fn : Fn) (dd : List D) (ms : M (List W)) : M W := bnd ms (makeW c n fn dd)
theorem run_makeW {Wx : WX} {n : Nat} {C : Addr} {c : String} {fn : Fn} {dd : List D} {dvs : List V} {ws : List W} {vs : List V} {σ : L2.St} {F0 F : AP} {O0 O : List Addr} {H0 H : Hp} {st : St} {Q : VK} {T0 : Tb} (e0 : DP.Same T T0) (hC : T.cls c = some C) (hd : ∀ F H, RDs X.K T F H dvs dd)
    (E0 : Ext F0 O0 H0 F O H) (S : SRel X.K T F O H σ st) (rs : VRs X.K T F H σ ws vs) (h : Post X.K T Wx σ F0 O0 H0 (makeW c n fn dd ws st) (GE X.K T σ H0 Q)) (x dx : Addr) (hx : H x = none) (hdx : H dx = none) (hne : dx ≠ x) :
    liftF X.K T0 n fn (.ref x :: (vs ++ dvs)) (upd (upd H dx (.own x)) x (.ins C dx [])) (fun v H2 => v = .non ∧ Q (.ref x) H2) (WE Wx σ) := by
  unfold makeW at h
  have hx2 : upd H dx (.own x) x = none := by rw [upd_ne (Ne.symm hne)]; exact hx
  have E2 : Ext F O H F O (upd (upd H dx (.own x)) x (.ins C dx [])) := (Ext.alloc hdx).trans (.alloc hx2)
  have S2 : SRel X.K T F O (upd (upd H dx (.own x)) x (.ins C dx [])) σ st := (S.alloc hdx).alloc hx2
  have fx := S.fresh hx
  split at h
  · rename_i as ea
    split at h
    · rename_i nd
      obtain ⟨nd, hn⟩ := nd
      have rs2 : VRs X.K T F (upd (upd H dx (.own x)) x (.ins C dx [])) σ ws vs := rs.ext S.nf E2
      obtain ⟨Oa, q1, q2, q3, q4⟩ := args_ar S2 rs2 ea nd
      have qa : AR X.K T F (upd (upd H dx (.own x)) x (.ins C dx [])) (.r (.ins c []) :: (as ++ dd.map .d)) (.ref x :: (vs ++ dvs)) ([x] ++ Oa) := by
        have := q1.app (AR.data (hd F _))
        rw [List.append_nil] at this
        exact .r (.ins hC upd_same .nil) this
      have xOa : x ∉ Oa := fun z => fx.1 (q3 x z).1
      have nd2 : ([x] ++ Oa).Nodup := List.nodup_cons.mpr ⟨xOa, q2⟩
      have nfa : ∀ a ∈ [x] ++ Oa, ¬ F a := fun a ha => by
        rcases List.mem_cons.mp (show a ∈ x :: Oa from ha) with z | z
        · rw [z]; exact fx.2
        · exact S.nf a (q3 a z).1
      have hl0 := q1.len
      -- behind the init
      have back : ∀ {F' H' ods ods0 y}, ods0 = y :: ods → (slotsOf ws).length = ods.length → Ext F ([x] ++ Oa) (upd (upd H dx (.own x)) x (.ins C dx [])) F' ([x] ++ Oa) H' → AR X.K T0 F' H' (putA (.r (.ins c []) :: (as ++ dd.map .d)) ods0) (.ref x :: (vs ++ dvs)) ([x] ++ Oa) →
          (∀ a ∈ [x] ++ Oa, ¬ F' a) → (∀ a, F' a → H' a ≠ none) → RO X.K T F' H' (.ref x) y [x] ∧ SRel X.K T F' O H' σ (putBack st ws ods) ∧ Ext F O H F' O H' := by
        rintro F' H' ods ods0 y rfl hl E ar nf fd
        generalize hOx : [x] ++ Oa = Ox at ar
        have ar : AR X.K T0 F' H' (.r y :: putA (as ++ dd.map .d) ods) (.ref x :: (vs ++ dvs)) Ox := ar
        cases ar with
        | @r _ _ own _ _ O5 h1 ar2 =>
          obtain rfl : own = [x] := h1.self
          obtain rfl : Oa = O5 := List.append_cancel_left hOx
          have E' : Ext F Oa (upd (upd H dx (.own x)) x (.ins C dx [])) F' Oa H' ∨ True := .inr trivial
          have E1 : Ext F Oa H F' Oa H' := ⟨E.fz, fun a o e n t => by
            have hax : a ≠ x := ne_of_none e hx
            refine E.keep a o ?_ (fun z => ?_) t
            · rw [upd_ne hax, upd_ne (ne_of_none e hdx)]; exact e
            · rcases List.mem_cons.mp (show a ∈ x :: Oa from z) with z | z
              · exact hax z
              · exact n z, fun a z => by
            rcases E.newF a z with q | q | q
            · exact .inl q
            · rcases List.mem_cons.mp (show a ∈ x :: Oa from q) with q | q
              · subst q; exact .inr (.inr hx)
              · exact .inr (.inl q)
            · exact .inr (.inr (E2.none_of q)), fun a ha => .inl ha, fun a z => E.dom a (E2.dom a z)⟩
          obtain ⟨S', E3⟩ := call_back S rs ea nd hl q3 E1 (AR.unapp hl0 (ar2.cv e0.symm)) (fun a ha => nf a (List.mem_cons_of_mem _ ha)) fd
          exact ⟨h1.cv e0.symm, S', E3⟩
      cases ef : fn (.r (.ins c []) :: (as ++ dd.map .d)) with
      | ok w ods =>
        rw [ef] at h
        split at h
        · rename_i c' fs ods' heq
          cases heq
          split at h
          · rename_i hl
            refine ⟨F, _, _, qa.cv e0, by simpa using hn, nd2, nfa, S2.fd, ?_⟩
            rw [ef]
            intro F' H' v own E ar nf fd r ok
            obtain ⟨ro, S', E'⟩ := back rfl hl E ar nf fd
            cases r with
            | d r =>
              cases r
              refine ⟨rfl, h F' O H' (E0.trans E') S' (.ref x) [x] (.o ro) fun a ha => ?_⟩
              obtain rfl : a = x := by simpa using ha
              exact ⟨fx.1, nf a (by simp), E0.none_of hx⟩
          · exact h.elim
        · rename_i heq; cases heq
        · exact h.elim
      | exc e' ods =>
        rw [ef] at h
        split at h
        · rename_i heq; cases heq
        · rename_i e2 y ods' heq
          cases heq
          split at h
          · rename_i hl
            refine ⟨F, _, _, qa.cv e0, by simpa using hn, nd2, nfa, S2.fd, ?_⟩
            rw [ef]
            intro F' H' cls dx' E ar nf fd r
            obtain ⟨ro, S', E'⟩ := back rfl hl E ar nf fd
            exact h F' O H' cls dx' (E0.trans E') S' (r.cv e0.symm)
          · exact h.elim
        · exact h.elim
      | bad => rw [ef] at h; exact h.elim
    · exact h.elim
  · exact h.elim
theorem de_make {k n : Nat} {x : Str} {c : String} {fn : Fn} {dd : List D} {e : Expr} {es : List Expr} {ms : M (List W)} {p : Pos} (c0 : Mak X.prog X.w X.K X.mg X.base T k x c n fn dd) (hr : Room (k + 1) X.A) (ha : DA T X (e :: es) ms) (hg : Gl X x := by rfl)
    (hdb : (x == ("__debug__" : Str)) = false := by decide +kernel) (he : starEach (e :: es) X.env = (false, eval e X.env) :: starEach es X.env := by rfl) (hpl : (backTo pos (starEach es X.env)).any (·.1) = false := by rfl) : DE T X (.Call (.Name x p) (e :: es) [] pos) (mMake c n fn dd ms) := by
  obtain ⟨T0, C, f, fd, ps, ds, dvs, e0, h1, h2, h3, h4, h5, h6, h7⟩ := c0.ex
  refine ⟨fun Wx tk => PE.weak (pe_makeSD h2 h4 hr hg h3 h5 h6 (fun σ => passAt tk σ) (ha.pa Wx tk) hdb he hpl) fun σ H Q h => ?_⟩
  obtain ⟨F, O, st, S, h⟩ := h
  exact ⟨F, O, st, S, h.bind .refl fun ws st1 F1 O1 H1 E1 _ S1 h' vs rs x dx hx hdx hne => run_makeW e0 h1 h7 E1 S1 rs h' x dx hx hdx hne⟩
/-! ### o.f = e -/
theorem SRel.putO {K : PySem.W.Frag} {F : AP} {O : List Addr} {H : Hp} {σ : L2.St} {st : St} {i : Nat} {t : Option Nat} {x y : OD} {p : Addr} {o : HO} (S : SRel K T F O H σ st) (e : st[i]? = some (.o t x)) (hp : σ[i]? = some (some (.ref p))) (r : RO K T F (upd H p o) (.ref p) y [p]) :
    SRel K T F O (upd H p o) σ (st.set i (.o t y)) ∧ Ext F O H F O (upd H p o) := by
  obtain ⟨v, own, s1, s2, ro, mo⟩ := S.sl.get_o e
  rw [hp] at s1
  obtain rfl : V.ref p = v := by simpa using s1
  obtain rfl := ro.self
  have pO := mo p (by simp)
  have ne : ∀ a, F a → a ≠ p := fun a f z => S.nf p pO (z ▸ f)
  refine ⟨⟨S.sl.chg i S.nd e (fun v own e2 r2 m2 => ?_) (fun a u q e2 _ => ?_), S.nd, S.nf, fun a f => ?_⟩, ⟨fun _ f => f, fun a u e2 n _ => ?_, fun _ f => .inl f, fun _ f => .inl f, fun a z => ?_⟩⟩
  · rw [hp] at e2
    obtain rfl : V.ref p = v := by simpa using e2
    rw [r2.self]; exact r
  · rw [upd_ne]
    · exact e2
    · rcases q with f | ⟨q1, q2⟩
      · exact ne a f
      · intro z
        subst z
        exact q2 _ _ hp ro (by simp)
  · rw [upd_ne (ne a f)]; exact S.fd a f
  · rw [upd_ne (fun z => by subst z; exact n pO)]; exact e2
  · by_cases q : a = p
    · subst q; rw [upd_same]; simp
    · rw [upd_ne q]; exact z
def putFld (cs : List String) (f : String) (o : W) (d : D) : M Fl := fun st => match o with
  | .b k => (match st[k]? with
    | some (.o t (.ins c fs)) => if c ∈ cs ∧ fs.length < 1000 then .ok .nx (st.set k (.o t (.ins c (putD f d fs)))) else .bad
    | _ => .bad)
  | _ => .bad
def sFldS (cs : List String) (f : String) (mo me : M W) : M Fl := bnd me fun w => bnd mo fun o st => match w.fzD with
  | some d => putFld cs f o d st
  | none => .bad
theorem ds_fld {o e : Expr} {cs : List String} {f : String} {mo me : M W} {pos' : Pos} (ho : DE T X o mo) (h : DE T X e me) (hf : FldOk X T cs f) (hs : swapsWith e (some (.Attribute o (Str.ofString f) pos')) pos.line X.env = pure false := by rfl) : DS T X (.Assign [.Attribute o (Str.ofString f) pos'] e pos) (sFldS cs f mo me) := by
  refine ⟨fun Wx tk po => PS.weak (ps_fld (ho.pe Wx tk) (h.pe Wx tk) hs) fun D σ H h => ?_⟩
  obtain ⟨F, O, st, S, h⟩ := h
  refine ⟨F, O, st, S, PostS.bind .refl h fun w st1 F1 O1 H1 E1 _ S1 h1 v own r ok => ⟨F1, O1, st1, S1, PostS.bind E1 h1 fun wo st2 F2 O2 H2 E2 E12 S2 h2 vo oo ro oko => ?_⟩⟩
  obtain ⟨r', ok'⟩ := r.ext ok S1.nf E12
  split at h2
  · rename_i d ed
    have rd' := r'.fzD ed
    have S3 := S2.give ok' r'.there
    have E3 := E2.give ok'
    unfold putFld at h2
    split at h2
    · rename_i k
      split at h2
      · rename_i t c fs e1
        split at h2
        · rename_i hc
          obtain ⟨u, own', s1, _, rr, _⟩ := S3.sl.get_o e1
          cases ro with
          | b hv =>
            have hv' := hv
            rw [hv] at s1
            obtain rfl : vo = u := by simpa using s1
            cases rr with
            | @ins p C dx _ vs _ hC hp hs =>
              obtain ⟨q1, q2⟩ := hf c hc.1 _ hC
              have pF : ∀ a, (F2 a ∨ a ∈ own) → a ≠ p := fun a z q => by
                have := (S3.sl.get_o e1)
                obtain ⟨u2, own2, t1, _, t3, t4⟩ := this
                rw [hv'] at t1
                obtain rfl : V.ref p = u2 := by simpa using t1
                rw [t3.self] at t4
                exact S3.nf p (t4 p (by simp)) (q ▸ z)
              refine ⟨p, C, dx, vs, rfl, hp, q1, q2, by rw [hs.len]; exact hc.2, ?_⟩
              have hs2 : RFs X.K T (fun a => F2 a ∨ a ∈ own) (upd H2 p (.ins C dx (putF (Str.ofString f) v vs))) (putF (Str.ofString f) v vs) (putD f d fs) :=
                RFs.mono (fun _ z => z) (fun a o z e2 _ => by rw [upd_ne (pF a z)]; exact e2) _ _ (hs.put rd')
              obtain ⟨S4, E4⟩ := S3.putO e1 hv' (.ins hC upd_same hs2)
              exact h2 _ _ _ _ (E3.trans E4) S4
        · exact h2.elim
      · exact h2.elim
    · exact h2.elim
  · exact h2.elim
end
end DP
end
section
set_option Elab.async false
set_option linter.all false
set_option maxRecDepth 100000
set_option maxHeartbeats 4000000
/-! DPB: what the printed walks lean on. -/
namespace DP
open PySem PySem.Spec PyProof.Rows L2
/-- the tables of a text: every name at its global -/
def TT (K : PySem.W.Frag) : Tb := ⟨fun c => some (He.ga K (Str.ofString c)), fun c => some (He.ga K (Str.ofString c)), fun _ => .non⟩
abbrev TP (K : PySem.W.Frag) (p : Nat → V) : Tb := (TT K).withPin p
section
variable {X : Cx} {T : Tb} {pos : Pos}
theorem de_gi {x : Str} {i : Int} (h : ∃ t, X.mg x = some (.int i t)) (hg : Gl X x := by rfl) (hd : (x == ("__debug__" : Str)) = false := by decide +kernel) : DE T X (.Name x pos) (mC (.int i)) := by
  obtain ⟨t, h⟩ := h
  exact de_glob (v := .int i) h ⟨t, rfl⟩ (fun _ _ => .int i) hg hd
theorem de_gs {x z : Str} (h : ∃ t, X.mg x = some (.str z t)) (hg : Gl X x := by rfl) (hd : (x == ("__debug__" : Str)) = false := by decide +kernel) : DE T X (.Name x pos) (mC (.str z)) := by
  obtain ⟨t, h⟩ := h
  exact de_glob (v := .str z) h ⟨t, rfl⟩ (fun _ _ => .str z) hg hd
theorem de_gf {x : Str} {n : String} {a : Addr} (h : X.mg x = some (.ref a)) (ha : T.fnA n = some a := by rfl) (hg : Gl X x := by rfl) (hd : (x == ("__debug__" : Str)) = false := by decide +kernel) : DE T X (.Name x pos) (mC (.fn n)) :=
  de_glob (v := .ref a) h rfl (fun _ _ => .fn ha) hg hd
/-- a def as a value that is called by a local name -/
structure CalA (P : Program) (w : World) (K : PySem.W.Frag) (mg : Str → Option Value) (base : Heap) (T : Tb) (k : Nat) (nm : String) (n : Nat) (fn : Fn) : Prop where
  ex : ∃ (T0 : Tb) (f : Addr) (fd : FuncData) (ps : List Str), DP.Same T T0 ∧ FnOk P w K mg base (CXx P w) k f fd ps (liftF K T0 n fn) ∧ T.fnA nm = some f ∧ PySem.W.keepIn K (.ref f) = true ∧ Binds K fd ps []
theorem pe_callLS {CX : CXT} {k i : Nat} {f : Addr} {fd : FuncData} {ps : List Str} {sp : Sp} {E : L2.St → XK} {x : Str} {p : Pos} {e : Expr} {es : List Expr} {t : TA} (F : FnOk X.prog X.w X.K X.mg X.base CX k f fd ps sp) (hr : Room k X.A) (hN : X.N[i]? = some x) (hv : Vis X.env.scope x) (hk : PySem.W.keepIn X.K (.ref f) = true) (hb : Binds X.K fd ps []) (hx : ∀ σ, PassesAt CX X σ (E σ)) (ha : PA X (e :: es) t)
    (hdb : (x == ("__debug__" : Str)) = false := by decide) (hcd : (x == ("__classdict__" : Str)) = false := by decide)
    (he : starEach (e :: es) X.env = (false, eval e X.env) :: starEach es X.env := by rfl) (hpl : (backTo pos (starEach es X.env)).any (·.1) = false := by rfl) : PE X (.Call (.Name x p) (e :: es) [] pos) (fun σ H Q => σ[i]? = some (some (.ref f)) ∧ t σ H fun vs H1 => sp (vs ++ []) H1 Q (E σ)) := by
  refine ⟨fun pins s σ H Q I h => ?_⟩
  obtain ⟨hs, ht⟩ := h
  refine wpAny_Call_Name_kw (thn ((pe_var (pos := p) hN hv hdb hcd).run pins s σ H (fun v H1 => v = .ref f ∧ H1 = H) I ⟨.ref f, hs, rfl, rfl⟩) fun u s1 ⟨v, H1, I1, r1, q1⟩ => ?_)
  obtain ⟨rfl, rfl⟩ := q1
  cases r1
  refine PySem.W.callWith_K (h₀ := X.base) I.ok.mod.kin hk (thn (ha.run pos pins s1 σ _ _ I1 ht) fun us s2 ⟨vs, H2, I2, r, q⟩ => ⟨I2.kIn, ?_⟩) he hpl
  exact run_fnSD F hr hb .nil (hx σ) I2 r q
def mCallL (i : Nat) (nm : String) (n : Nat) (fn : Fn) (ms : M (List W)) : M W := fun st => match st[i]? with
  | some (.d (.fn nm')) => if nm' = nm then mCall n fn [] ms st else .bad
  | _ => .bad
theorem de_callL (i : Nat) {k n : Nat} {x : Str} {nm : String} {fn : Fn} {e : Expr} {es : List Expr} {ms : M (List W)} {p : Pos} (c : CalA X.prog X.w X.K X.mg X.base T k nm n fn) (hr : Room k X.A) (ha : DA T X (e :: es) ms) (hN : X.N[i]? = some x := by rfl)
    (hv : Vis X.env.scope x := by first | exact Or.inl rfl | exact Or.inr (Or.inl rfl) | exact Or.inr (Or.inr rfl)) (hdb : (x == ("__debug__" : Str)) = false := by decide +kernel) (hcd : (x == ("__classdict__" : Str)) = false := by decide +kernel)
    (he : starEach (e :: es) X.env = (false, eval e X.env) :: starEach es X.env := by rfl) (hpl : (backTo pos (starEach es X.env)).any (·.1) = false := by rfl) : DE T X (.Call (.Name x p) (e :: es) [] pos) (mCallL i nm n fn ms) := by
  obtain ⟨T0, f, fd, ps, e0, h1, h2, h3, h4⟩ := c.ex
  refine ⟨fun Wx tk => PE.weak (pe_callLS (i := i) h1 hr hN hv h3 h4 (fun σ => passAt tk σ) (ha.pa Wx tk) hdb hcd he hpl) fun σ H Q h => ?_⟩
  obtain ⟨F, O, st, S, h⟩ := h
  unfold mCallL at h
  split at h
  · rename_i nm' e
    split at h
    · rename_i hn
      subst hn
      obtain ⟨v, q1, q2⟩ := S.sl.get_d e
      cases q2 with
      | fn hf =>
        rw [h2] at hf
        cases hf
        exact ⟨q1, F, O, st, S, h.bind .refl fun ws st1 F1 O1 H1 E1 _ S1 h1 vs rs => run_callW e0 (fun _ _ => .nil) E1 S1 rs h1⟩
    · exact h.elim
  · exact h.elim
abbrev gMax2 : D → D → Option D := gI fun i j => .int (if j > i then j else i)
abbrev gMin2 : D → D → Option D := gI fun i j => .int (if j < i then j else i)
theorem bnd_assoc {α β γ : Type} {m : M α} {f : α → M β} {g : β → M γ} : bnd (bnd m f) g = bnd m fun a => bnd (f a) g := by
  funext st
  unfold bnd
  cases m st <;> rfl
theorem ds_setLcF (i : Nat) {y : Str} {py spos : Pos} {elt tg iter : Expr} {ifs : List Expr} {scope : Scope} {own : List (Str × Nat)} {src : M Src} {t : Item → M Unit} {sl : List Nat} {test : M Bool} {me : M W} {g : TG} (hc : X.calm = true) (hN : X.N.Nodup) (hi : DI T X tg iter src) (ok : blkC X.N X.env.scope scope own = true)
    (hg : ∀ (s : Shared) (H : Hp) (C : Addr) (cl : List (Str × Addr)) (fp : List Addr), DG T (X.blk s H scope (compEnvC scope cl C X.env) fp) tg g t sl) (ht : ∀ (s : Shared) (H : Hp) (C : Addr) (cl : List (Str × Addr)) (fp : List Addr), DTs T (X.blk s H scope (compEnvC scope cl C X.env) fp) ifs test)
    (he : ∀ (s : Shared) (H : Hp) (C : Addr) (cl : List (Str × Addr)) (fp : List Addr), DE T (X.blk s H scope (compEnvC scope cl C X.env) fp) elt me) (hsl : ∀ i ∈ sl, i ∈ own.map (·.2)) (nd : (own.map (·.2)).Nodup)
    (hsw : swapsWith (.ListComp elt [⟨tg, iter, ifs, 0⟩] scope pos) (some (.Name y py)) spos.line X.env = pure true) (hy : X.N[i]? = some y := by rfl) (hyl : X.env.scope.names.lookup y = some .local := by rfl) (hs : ∀ x, foldedSetIterable iter X.env x = pure x := by intro _; rfl) :
    DS T X (.Assign [.Name y py] (.ListComp elt [⟨tg, iter, ifs, 0⟩] scope pos) spos) (sSet i (mFz (mLc (own.map (·.2)) src t test me))) := by
  refine ⟨fun Wx tk po => PS.weak (ps_setLc (te := lift X.K T W0 me) (tt := liftB X.K T W0 test) (wi := liftI X.K T Wx src) hc hN hy hyl hsw (hi.pi Wx tk) (blkOk_by ok) (fun s H C cl fp => (hg s H C cl fp).pg) (fun s H C cl fp => (ht s H C cl fp).pts W0 takes0) (fun s H C cl fp => (he s H C cl fp).pe W0 takes0) hs) fun D σ H h => ?_⟩
  obtain ⟨F, O, st, S, h⟩ := h
  unfold sSet mFz at h
  rw [bnd_assoc] at h
  refine run_lc (Wx := Wx) (hg {} H 0 [] []).lg hsl nd ⟨F, O, st, S, PostS.bind .refl h fun w st1 F1 O1 H1 E1 _ S1 h1 v own r ok => ?_⟩
  cases w with
  | d x => exact sSet_end h1 E1 S1 r ok
  | o x => exact sSet_end (w := .d (fz x)) (own := []) h1 (E1.give ok) (S1.give ok r.there) (.d (r.fzD rfl)) .nil
  | b i =>
    unfold bnd at h1
    dsimp only at h1
    cases e : st1[i]? with
    | none => rw [e] at h1; exact h1.elim
    | some s =>
      rw [e] at h1
      cases s with
      | no => exact h1.elim
      | d x => exact h1.elim
      | o t x =>
        cases t with
        | some j => exact h1.elim
        | none =>
          obtain ⟨F2, O2, v2, S2, E2, q1, q2⟩ := S1.frz e
          cases r with
          | b hv =>
            rw [hv] at q1
            obtain rfl : v = v2 := by simpa using q1
            exact sSet_end (w := .d (fz x)) (own := []) h1 (E1.trans E2) S2 (.d q2) .nil
/-- x, y = a, b where one of them is a cell: by way of a tuple -/
theorem ds_parC (i j : Nat) {x y : Str} {a b : Expr} {px py pt : Pos} {kt k2 pt2} {ma mb : M W} (hc : X.calm = true) (hN : X.N.Nodup) (ha : DE T X a ma) (hb : DE T X b mb) (hi : X.N[i]? = some x := by rfl) (hj : X.N[j]? = some y := by rfl)
    (hx : Loc X.env.scope x := by first | exact Or.inl rfl | exact Or.inr rfl) (hy : Loc X.env.scope y := by first | exact Or.inl rfl | exact Or.inr rfl) (hfx : X.fn x = true ∨ X.env.scope.names.lookup x = some .local := by first | exact .inl rfl | exact .inr rfl) (hfy : X.fn y = true ∨ X.env.scope.names.lookup y = some .local := by first | exact .inl rfl | exact .inr rfl)
    (he : starEach [a, b] X.env = (false, eval a X.env) :: starEach [b] X.env := by rfl) (he2 : starEach [b] X.env = (false, eval b X.env) :: starEach [] X.env := by rfl)
    (hs : swapsWithSole [.Tuple [.Name x px, .Name y py] kt pt] (.Tuple [a, b] k2 pt2) pos.line X.env = pure false := by rfl) (hw : swappedStores [.Tuple [.Name x px, .Name y py] kt pt] (.Tuple [a, b] k2 pt2) X.env = pure none := by rfl)
    (h1 : (assignEach [.Tuple [.Name x px, .Name y py] kt pt] X.env).map (·.2) = [assign (.Tuple [.Name x px, .Name y py] kt pt) X.env] := by rfl) (hn : (assignEach [.Name x px, .Name y py] X.env).length = 2 := by rfl) (hst : (assignEach [.Name x px, .Name y py] X.env).findIdx? (·.1) = none := by rfl)
    (hs1 : (assignEach (.Name x px :: [.Name y py]) X.env).map (·.2) = assign (.Name x px) X.env :: (assignEach [.Name y py] X.env).map (·.2) := by rfl) (hs2 : (assignEach (.Name y py :: []) X.env).map (·.2) = assign (.Name y py) X.env :: (assignEach [] X.env).map (·.2) := by rfl) :
    DS T X (.Assign [.Tuple [.Name x px, .Name y py] kt pt] (.Tuple [a, b] k2 pt2) pos) (sPar i j ma mb) := by
  refine ⟨fun Wx tk po => PS.weak (ps_asg (pe_tupF (pa_cons (ha.pe Wx tk) (pa_cons (hb.pe Wx tk) pa_nil he2) he)) (pg_tup (n := 2) hc (pgs_cons (pg_name hN hi hx hfx) (pgs_cons (pg_name hN hj hy hfy) pgs_nil hs2) hs1) hn hst) hs hw h1) fun D σ H h => ?_⟩
  obtain ⟨F, O, st, S, h⟩ := h
  refine ⟨F, O, st, S, PostS.bind .refl h fun w st1 F1 O1 H1 E1 _ S1 h1 v own r ok => ⟨F1, O1, st1, S1, PostS.bind E1 h1 fun u st2 F2 O2 H2 E2 E12 S2 h2 v2 own2 r2 ok2 => ⟨by show 2 ≤ sizeLine; decide, fun p o hp ho => ⟨p, [v, v2], rfl, .inl (.inr ⟨o, upd_same⟩), rfl, v, [v2], rfl, v2, [], rfl, rfl, ?_⟩⟩⟩⟩
  obtain ⟨r', ok'⟩ := r.ext ok S1.nf E12
  have Ea : Ext F2 O2 H2 F2 O2 (upd H2 p (.frz o (.tup [v, v2]))) := .alloc hp
  have Sa : SRel X.K T F2 O2 (upd H2 p (.frz o (.tup [v, v2]))) σ st2 := S2.alloc hp
  obtain ⟨ra, oka⟩ := r'.ext ok' S2.nf Ea
  obtain ⟨rb, okb⟩ := r2.ext ok2 S2.nf Ea
  have E2 := E2.trans Ea
  split at h2
  · rename_i st3 e3
    obtain ⟨O3, S3, m3⟩ := Sa.asg ra (fun a ha => ⟨(oka a ha).1, (oka a ha).2.1⟩) e3
    have E3 : Ext F O H F2 O3 _ := E2.asg m3 fun a ha => .inr (oka a ha).2.2
    cases e4 : asgW j u st3 with
    | none => rw [e4] at h2; exact h2.elim
    | some st4 =>
      rw [e4] at h2
      obtain ⟨O4, S4, m4⟩ := S3.asg (rb.chg (asgW_nb e4)) (fun a ha => ⟨(fun z => (m3 a z).elim (fun q => (okb a ha).1 q) (fun q => r.there a q (okb a ha).2.2)), (okb a ha).2.1⟩) e4
      exact h2 F2 O4 _ _ (E3.asg m4 fun a ha => .inr (E1.none_of (okb a ha).2.2)) S4
  · exact h2.elim
theorem hu64 {k : Nat} {A : Around} (hr : Room k A) : A.units + 64 < cLine := hr.units
end
section
variable {P : Program} {w : World} {K : PySem.W.Frag} {mg : Str → Option Value} {base : Heap}
theorem Cal.up {T : Tb} {j k n : Nat} {x : Str} {fn : Fn} {dd : List D} (c : Cal P w K mg base T j x n fn dd) (h : j ≤ k) : Cal P w K mg base T k x n fn dd := by
  obtain ⟨T0, f, fd, ps, ds, dvs, e, h1, h2⟩ := c.ex
  exact ⟨T0, f, fd, ps, ds, dvs, e, h1.mono h, h2⟩
theorem Met.up {T : Tb} {j k n : Nat} {c : String} {m : Str} {fn : Fn} {dd : List D} (M : Met P w K mg base T j c m n fn dd) (h : j ≤ k) : Met P w K mg base T k c m n fn dd := by
  obtain ⟨T0, C, f, fd, ps, ds, dvs, e, h1, h2, h3, h4, h5⟩ := M.ex
  exact ⟨T0, C, f, fd, ps, ds, dvs, e, h1, h2, h3, h4.mono h, h5⟩
theorem Mak.up {T : Tb} {j k n : Nat} {x : Str} {c : String} {fn : Fn} {dd : List D} (M : Mak P w K mg base T j x c n fn dd) (h : j ≤ k) : Mak P w K mg base T k x c n fn dd := by
  obtain ⟨T0, C, f, fd, ps, ds, dvs, e, h1, h2, h3, h4, h5⟩ := M.ex
  exact ⟨T0, C, f, fd, ps, ds, dvs, e, h1, h2, h3, h4.mono h, h5⟩
/-- a body, run -/
abbrev Body (P : Program) (w : World) (K : PySem.W.Frag) (mg : Str → Option Value) (base : Heap) (T : Tb) (k : Nat) (N : List Str) (qual : Str) (body : List Stmt) (scope : Scope) (m : M Fl) : Prop :=
  ∀ (p : Nat → V) (f : Addr) (cdv : Value) (A : Around) (outer : List Env) (s : Shared) (H : Hp) (E : XK), Room k (A.deeper (envOfC qual scope s.heap.objs.size f cdv)) → DSs (T.withPin p) (cxOf (CXx P w) P w K mg base N qual scope f cdv A outer s H E) body m
theorem fun_ok {x qual : Str} {params : Arguments} {body : List Stmt} {scope : Scope} {dvs : List V} {f : Addr} {fd : FuncData} {T : Tb} {N ps : List Str} {k : Nat} {m : M Fl} (F : FunD K x qual params body scope dvs [] f fd) (S : FnScope N ps scope) (B : Body P w K mg base T k N qual body scope m) :
    FnOk P w K mg base (CXx P w) (k + 1) f fd ps (liftF K T ps.length (mkFn N.length m)) := by
  obtain ⟨oc, od, dV, kV, doc, pm, an, cdv, ct, osl, rfl, lk, hcd, _, _⟩ := F.ex
  exact fn_ok lk hcd S fun p A outer s H E hr => B p f cdv A outer s H E hr
theorem cal_of {x : Str} {params : Arguments} {body : List Stmt} {scope : Scope} {f : Addr} {T : Tb} {N ps : List Str} {k : Nat} {m : M Fl} (F : ∃ fd, FunD K x x params body scope [] [] f fd) (hg : mg x = some (.ref f)) (S : FnScope N ps scope)
    (b : ∀ fd, FunD K x x params body scope [] [] f fd → Binds K fd ps []) (B : Body P w K mg base T k N x body scope m) : Cal P w K mg base T (k + 1) x ps.length (mkFn N.length m) [] := by
  obtain ⟨fd, F⟩ := F
  exact ⟨T, f, fd, ps, [], [], ⟨rfl, rfl⟩, fun_ok F S B, hg, F.kp, b fd F, .nil, fun _ _ => .nil⟩
theorem calA_of {x : Str} {nm : String} {params : Arguments} {body : List Stmt} {scope : Scope} {f : Addr} {T : Tb} {N ps : List Str} {k : Nat} {m : M Fl} (F : ∃ fd, FunD K x x params body scope [] [] f fd) (hg : T.fnA nm = some f) (S : FnScope N ps scope)
    (b : ∀ fd, FunD K x x params body scope [] [] f fd → Binds K fd ps []) (B : Body P w K mg base T k N x body scope m) (p : Nat → V) : CalA P w K mg base (T.withPin p) (k + 1) nm ps.length (mkFn N.length m) := by
  obtain ⟨fd, F⟩ := F
  exact ⟨T, f, fd, ps, ⟨rfl, rfl⟩, fun_ok F S B, hg, F.kp, b fd F⟩
theorem met_of {x qual : Str} {c : String} {C : Addr} {params : Arguments} {body : List Stmt} {scope : Scope} {f : Addr} {T : Tb} {N ps : List Str} {k : Nat} {m : M Fl} (F : ∃ fd, FunD K x qual params body scope [] [] f fd) (hc : T.cls c = some C) (cl : Cls K C) (me : Meth K C x f) (S : FnScope N ps scope)
    (b : ∀ fd, FunD K x qual params body scope [] [] f fd → Binds K fd ps []) (B : Body P w K mg base T k N qual body scope m) : Met P w K mg base T (k + 1) c x ps.length (mkFn N.length m) [] := by
  obtain ⟨fd, F⟩ := F
  exact ⟨T, C, f, fd, ps, [], [], ⟨rfl, rfl⟩, hc, cl, me, fun_ok F S B, b fd F, .nil, fun _ _ => .nil⟩
theorem mak_of {x qual nm : Str} {c : String} {C : Addr} {params : Arguments} {body : List Stmt} {scope : Scope} {f : Addr} {T : Tb} {N ps : List Str} {k : Nat} {m : M Fl} (F : ∃ fd, FunD K nm qual params body scope [] [] f fd) (hc : T.cls c = some C) (mk : Mk K C f) (hg : mg x = some (.ref C)) (S : FnScope N ps scope)
    (b : ∀ fd, FunD K nm qual params body scope [] [] f fd → Binds K fd ps []) (B : Body P w K mg base T k N qual body scope m) : Mak P w K mg base T (k + 1) x c ps.length (mkFn N.length m) [] := by
  obtain ⟨fd, F⟩ := F
  exact ⟨T, C, f, fd, ps, [], [], ⟨rfl, rfl⟩, hc, mk, hg, fun_ok F S B, b fd F, .nil, fun _ _ => .nil⟩
theorem fld_of {X : Cx} {p : Nat → V} {c f : String} (cl : Cls X.K (He.ga X.K (Str.ofString c))) (n : NoAttr X.K (He.ga X.K (Str.ofString c)) (Str.ofString f)) : FldOk X (TP X.K p) [c] f := by
  intro c' hc C e
  obtain rfl : c' = c := by simpa using hc
  cases e
  exact ⟨cl, n⟩
end
end DP
end
section
set_option Elab.async false
set_option linter.all false
set_option maxRecDepth 100000
set_option maxHeartbeats 4000000
/-! DPZ: y = zip(a, b), two tuples; return tuple([.. for .. in y ..]). -/
namespace DP
open PySem PySem.Spec PyProof.Rows L2
theorem adn {q i j : Nat} (h : i ≠ j) : q + i ≠ q + j := by omega
theorem ad0 {q i : Nat} (h : i ≠ 0) : q ≠ q + i := by omega
theorem five {q c : Nat} (h0 : c ≠ q) (h1 : c ≠ q + 1) (h2 : c ≠ q + 2) (h3 : c ≠ q + 3) (h4 : c ≠ q + 4) : c < q ∨ q + 4 < c := by omega
theorem off5 {q c : Nat} (h : c < q ∨ q + 4 < c) : c ≠ q + 4 ∧ c ≠ q + 3 ∧ c ≠ q + 2 ∧ c ≠ q + 1 ∧ c ≠ q := by omega
theorem le5 {q i : Nat} : q ≤ q + i := by omega
/-- the five records of a zip of two tuples: its iterators at q and q+1 -/
def zipH (H : Hp) (q a b : Addr) : Hp := upd (upd (upd (upd (upd H q (.ext fun h => h.IsTupleIter q a 0)) (q + 1) (.ext fun h => h.IsTupleIter (q + 1) b 0)) (q + 2) (.ext fun h => IsPair h (q + 2) (.ref q) (.ref (q + 1)))) (q + 3) (.ext fun h => IsPair h (q + 3) .none .none)) (q + 4) (.ext fun h => IsZip h (q + 4) (q + 2) (q + 3) .none)
def drop5 (H : Hp) (q : Addr) : Hp := ItX.dropH (ItX.dropH (ItX.dropH (ItX.dropH (ItX.dropH H (q + 4)) (q + 3)) (q + 2)) (q + 1)) q
theorem drop5_zip {H : Hp} {q a b : Addr} (h : ∀ c, q ≤ c → H c = none) : drop5 (zipH H q a b) q = H := by
  funext c
  unfold drop5 zipH ItX.dropH upd
  have e0 := h q (Nat.le_refl _)
  have e1 := h (q + 1) (Nat.le_add_right _ _)
  have e2 := h (q + 2) (Nat.le_add_right _ _)
  have e3 := h (q + 3) (Nat.le_add_right _ _)
  have e4 := h (q + 4) (Nat.le_add_right _ _)
  by_cases h0 : c = q
  · subst h0; simp [e0]
  by_cases h1 : c = q + 1
  · subst h1; simp [e1]
  by_cases h2 : c = q + 2
  · subst h2; simp [e2]
  by_cases h3 : c = q + 3
  · subst h3; simp [e3]
  by_cases h4 : c = q + 4
  · subst h4; simp [e4]
  simp [h0, h1, h2, h3, h4]
theorem zip_0 {H : Hp} {q a b : Addr} : zipH H q a b q = some (.ext fun h => h.IsTupleIter q a 0) := by
  unfold zipH; rw [upd_ne (ad0 (by decide)), upd_ne (ad0 (by decide)), upd_ne (ad0 (by decide)), upd_ne (ad0 (by decide)), upd_same]
theorem zip_1 {H : Hp} {q a b : Addr} : zipH H q a b (q + 1) = some (.ext fun h => h.IsTupleIter (q + 1) b 0) := by
  unfold zipH; rw [upd_ne (adn (by decide)), upd_ne (adn (by decide)), upd_ne (adn (by decide)), upd_same]
theorem zip_2 {H : Hp} {q a b : Addr} : zipH H q a b (q + 2) = some (.ext fun h => IsPair h (q + 2) (.ref q) (.ref (q + 1))) := by
  unfold zipH; rw [upd_ne (adn (by decide)), upd_ne (adn (by decide)), upd_same]
theorem zip_3 {H : Hp} {q a b : Addr} : zipH H q a b (q + 3) = some (.ext fun h => IsPair h (q + 3) .none .none) := by
  unfold zipH; rw [upd_ne (adn (by decide)), upd_same]
theorem zip_4 {H : Hp} {q a b : Addr} : zipH H q a b (q + 4) = some (.ext fun h => IsZip h (q + 4) (q + 2) (q + 3) .none) := by
  unfold zipH; rw [upd_same]
theorem zip_o {H : Hp} {q a b c : Addr} (h : c < q ∨ q + 4 < c) : zipH H q a b c = H c := by
  obtain ⟨h4, h3, h2, h1, h0⟩ := off5 h
  unfold zipH; rw [upd_ne h4, upd_ne h3, upd_ne h2, upd_ne h1, upd_ne h0]
section
variable {X : Cx} {T : Tb} {pos : Pos}
def tZipV (K : PySem.W.Frag) (n : Nat) (ta : TA) : TE := fun σ H Q => ta σ H fun vs H1 => ∃ a b xs ys, vs = [.ref a, .ref b] ∧ SqT K H1 a xs ∧ SqT K H1 b ys ∧ ∀ q, n ≤ q → (∀ c, q ≤ c → H1 c = none) → ZipApart (q + 4) (q + 2) (q + 3) q (q + 1) a b → Q (.ref (q + 4)) (zipH H1 q a b)
theorem pe_zipV {e e2 : Expr} {ta : TA} {p : Pos} (hg : Gl X "zip") (hm : X.mg "zip" = none) (ha : PA X [e, e2] ta) (hs : starEach [e, e2] X.env = (false, eval e X.env) :: starEach [e2] X.env := by rfl) (hpl : (backTo pos (starEach [e2] X.env)).any (·.1) = false := by rfl) :
    PE X (.Call (.Name "zip" p) [e, e2] [] pos) (tZipV X.K X.s_0.heap.objs.size ta) := by
  refine ⟨fun pins s σ H Q I h => ?_⟩
  refine Call_ (ld_blt I hg hm PyProof.Rows.boot_zip (PyProof.Rows.callWith_type1 (thn (ha.run pos pins s σ H _ I h) fun us s1 ⟨vs, H1, I1, r1, q1⟩ => ?_) hs hpl))
  obtain ⟨a, b, xs, ys, ex, hqx, hqy, qf⟩ := q1
  subst ex
  cases r1 with
  | cons r rr =>
    cases rr with
    | cons r' rr =>
      cases rr
      cases r
      cases r'
      obtain ⟨its, rv, p1, _⟩ := I1.tuple hqx
      obtain ⟨its2, rv2, p2, _⟩ := I1.tuple hqy
      obtain ⟨o1, ho1, _⟩ := id p1
      obtain ⟨o2, ho2, _⟩ := id p2
      refine RZ.call_zipT (show s1.heap.IsTuple a its.toArray from p1) (show s1.heap.IsTuple b its2.toArray from p2) fun h' hz hTI hTO h1 h2 hsz hk => ?_
      have fr : ∀ c, s1.heap.objs.size ≤ c → H1 c = none := fun c hc => I1.hok.fresh hc
      have low : ∀ c u, H1 c = some u → zipH H1 s1.heap.objs.size a b c = some u := fun c u e => by
        rw [zip_o (.inl ?_)]
        · exact e
        · exact Nat.lt_of_not_le fun z => by rw [fr c z] at e; cases e
      have hok : HOk X.prog X.w (zipH H1 s1.heap.objs.size a b) h' := by
        intro c u e
        by_cases e0 : c = s1.heap.objs.size
        · subst e0; rw [zip_0] at e; cases e
          obtain ⟨o, z1, z2, z3⟩ := id h1
          exact ⟨h1, ⟨o, z1⟩, fun u v hu k => Heap.IsTupleIter.at hu k⟩
        by_cases e1 : c = s1.heap.objs.size + 1
        · subst e1; rw [zip_1] at e; cases e
          obtain ⟨o, z1, z2, z3⟩ := id h2
          exact ⟨h2, ⟨o, z1⟩, fun u v hu k => Heap.IsTupleIter.at hu k⟩
        by_cases e2 : c = s1.heap.objs.size + 2
        · subst e2; rw [zip_2] at e; cases e; exact ⟨hTI, ⟨_, hTI⟩, fun u v hu k => k _ hu⟩
        by_cases e3 : c = s1.heap.objs.size + 3
        · subst e3; rw [zip_3] at e; cases e; exact ⟨hTO, ⟨_, hTO⟩, fun u v hu k => k _ hu⟩
        by_cases e4 : c = s1.heap.objs.size + 4
        · subst e4; rw [zip_4] at e; cases e; exact ⟨hz, ⟨_, hz⟩, fun u v hu k => k _ hu⟩
        rw [zip_o (five e0 e1 e2 e3 e4)] at e
        exact (I1.hok c u e).stay (fun d v _ q => hk d v q) (fun d q => low d _ q) fun d xs q => low d _ q
      have un : Un X.fs [] H1 (zipH H1 s1.heap.objs.size a b) s1.heap h' := ⟨fun d o e _ _ _ => hk d o e, fun d o e _ _ _ => ⟨o.slots, hk d o e⟩, fun d o e n _ => by rw [zip_o (.inl (Heap.lt_size e))]; exact n, fun d o e _ => ⟨o, hk d o e⟩, fun d xs e => low d _ e, fun d o u e => low d _ e,
        fun d ps e => ⟨#[], by rw [low d _ e]; simp⟩⟩
      exact ⟨.ref (s1.heap.objs.size + 4), _, I1.un (t' := s1.toks) un hok, rfl, qf _ I1.sz fr (PySem.W.ktu_apart _ a b (Heap.lt_size ho1) (Heap.lt_size ho2))⟩
/-- for .. in y: the zip that the slot holds; behind it the zip is forgotten -/
def iZv (K : PySem.W.Frag) (n k : Nat) : TI := fun σ H R => ∃ (q a b : Addr) (H1 : Hp), σ[k]? = some (some (.ref (q + 4))) ∧ n ≤ q ∧ (∀ c, q ≤ c → H1 c = none) ∧ ZipApart (q + 4) (q + 2) (q + 3) q (q + 1) a b ∧ H = zipH H1 q a b ∧ R (RZ.ItzT K a b) H1
theorem pi_zv {k : Nat} {x : Str} {p tpos : Pos} {elts : List Expr} {kk : Nat} (hN : X.N[k]? = some x) (hv : Vis X.env.scope x) (hd : (x == ("__debug__" : Str)) = false := by decide) (hcd : (x == ("__classdict__" : Str)) = false := by decide) : PI X (.Tuple elts kk tpos) (.Name x p) (iZv X.K X.s_0.heap.objs.size k) := by
  refine ⟨fun pins s σ H R I h => ?_⟩
  obtain ⟨q, a, b, H1, hs, hn, fr, D, rfl, r⟩ := h
  refine thn ((pe_var (pos := p) (i := k) hN hv hd hcd).run pins s σ _ (fun v H2 => v = .ref (q + 4) ∧ H2 = zipH H1 q a b) I ⟨.ref (q + 4), hs, rfl, rfl⟩) fun u s1 ⟨v, H2, I1, r1, ev, eH⟩ => ?_
  subst ev
  rw [eH] at I1
  cases r1
  have g0 := (I1.hok _ _ (zip_0 (H := H1) (q := q) (a := a) (b := b))).1
  have g1 := (I1.hok _ _ (zip_1 (H := H1) (q := q) (a := a) (b := b))).1
  have g2 := (I1.hok _ _ (zip_2 (H := H1) (q := q) (a := a) (b := b))).1
  have g3 := (I1.hok _ _ (zip_3 (H := H1) (q := q) (a := a) (b := b))).1
  have g4 := (I1.hok _ _ (zip_4 (H := H1) (q := q) (a := a) (b := b))).1
  refine wpAny_pyIter_zip g4 ?_
  have ne : ∀ {i j : Nat}, i ≠ j → q + i ≠ q + j := fun h z => h (Nat.add_left_cancel z)
  have I4 := ItX.inv_drop I1 (a := q + 4) zip_4
  have I3 := ItX.inv_drop I4 (a := q + 3) (by rw [ItX.dropH_ne (adn (by decide))]; exact zip_3)
  have I2 := ItX.inv_drop I3 (a := q + 2) (by rw [ItX.dropH_ne (adn (by decide)), ItX.dropH_ne (adn (by decide))]; exact zip_2)
  have I1' := ItX.inv_drop I2 (a := q + 1) (by rw [ItX.dropH_ne (adn (by decide)), ItX.dropH_ne (adn (by decide)), ItX.dropH_ne (adn (by decide))]; exact zip_1)
  have I0 := ItX.inv_drop I1' (a := q) (by rw [ItX.dropH_ne (ad0 (by decide)), ItX.dropH_ne (ad0 (by decide)), ItX.dropH_ne (ad0 (by decide)), ItX.dropH_ne (ad0 (by decide))]; exact zip_0)
  have ed : ItX.dropH (ItX.dropH (ItX.dropH (ItX.dropH (ItX.dropH (zipH H1 q a b) (q + 4)) (q + 3)) (q + 2)) (q + 1)) q = H1 := drop5_zip fr
  rw [ed] at I0
  have fp : ∀ (c : Addr) (u : HO), zipH H1 q a b c = some u → q ≤ c → FpOk X pins H1 c := fun c u e hc => by
    have f := ItX.inv_fp I1 e (Nat.le_trans hn hc)
    exact ⟨fr c hc, f.2⟩
  refine ⟨q + 4, [q + 4, q + 2, q + 3, q, q + 1], _, _, H1, rfl, I0, RZ.turn_zipT D, ⟨g4, g2, ⟨_, _, g3⟩, g0, g1⟩, fun c hc => ?_, r⟩
  have e' : c = q + 4 ∨ c = q + 2 ∨ c = q + 3 ∨ c = q ∨ c = q + 1 := by simpa using hc
  rcases e' with z | z | z | z | z
  · subst z; exact fp _ _ zip_4 le5
  · subst z; exact fp _ _ zip_2 le5
  · subst z; exact fp _ _ zip_3 le5
  · subst z; exact fp _ _ zip_0 (Nat.le_refl _)
  · subst z; exact fp _ _ zip_1 le5
/-! ### the two statements -/
def zItems (ds es : List D) : List Item := (ds.zip es).map fun p => .many [p.1, p.2]
noncomputable def sZipTup (i : Nat) (vs : List Nat) (ms : M (List W)) (t : Item → M Unit) (test : M Bool) (elt : M W) : M Fl := bnd ms fun ws st => match ws with
  | [.d (.tup ds), .d (.tup es)] => (match st[i]? with
    | some s => if freeS s && okW vs (st.set i .no) then (match cLoop (.fz (zItems ds es)) t test elt vs (zItems ds es) [] (wipeS (st.set i .no) vs) with
      | .ok acc st2 => .ok (.ret (.d (.tup acc))) (backS (st.set i .no) vs st2)
      | _ => .bad) else .bad
    | none => .bad)
  | _ => .bad
theorem dss_zipTup (i : Nat) {e1 e2 elt : Expr} {y : Str} {elts : List Expr} {kk : Nat} {tpos py py2 pz pt pos2 pos3 pos4 pos5 : Pos} {ifs : List Expr} {scope : Scope} {own : List (Str × Nat)} {ms : M (List W)} {t : Item → M Unit} {sl : List Nat} {test : M Bool} {me : M W} {g : TG}
    (hc : X.calm = true) (hN : X.N.Nodup) (hz : X.mg "zip" = none) (ht0 : X.mg "tuple" = none) (ha : DA T X [e1, e2] ms) (ok : blkC X.N X.env.scope scope own = true)
    (hg : ∀ (s : Shared) (H : Hp) (C : Addr) (cl : List (Str × Addr)) (fp : List Addr), DG T (X.blk s H scope (compEnvC scope cl C X.env) fp) (.Tuple elts kk tpos) g t sl) (ht : ∀ (s : Shared) (H : Hp) (C : Addr) (cl : List (Str × Addr)) (fp : List Addr), DTs T (X.blk s H scope (compEnvC scope cl C X.env) fp) ifs test)
    (he : ∀ (s : Shared) (H : Hp) (C : Addr) (cl : List (Str × Addr)) (fp : List Addr), DE T (X.blk s H scope (compEnvC scope cl C X.env) fp) elt me) (hsl : ∀ i ∈ sl, i ∈ own.map (·.2)) (nd : (own.map (·.2)).Nodup)
    (hi : X.N[i]? = some y := by rfl) (hx : Loc X.env.scope y := by first | exact Or.inl rfl | exact Or.inr rfl) (hv : Vis X.env.scope y := by first | exact Or.inl rfl | exact Or.inr (Or.inl rfl) | exact Or.inr (Or.inr rfl)) (hd : (y == ("__debug__" : Str)) = false := by decide +kernel) (hcd : (y == ("__classdict__" : Str)) = false := by decide +kernel)
    (hf : X.fn y = true ∨ X.env.scope.names.lookup y = some .local := by first | exact .inl rfl | exact .inr rfl) (hs : swapsWith (.Call (.Name "zip" pz) [e1, e2] [] pos2) (some (.Name y py)) pos.line X.env = pure false := by rfl) (gz : Gl X "zip" := by rfl) (gt : Gl X "tuple" := by rfl)
    (hst : starEach [e1, e2] X.env = (false, eval e1 X.env) :: starEach [e2] X.env := by rfl) (hpl : (backTo pos2 (starEach [e2] X.env)).any (·.1) = false := by rfl)
    (hst2 : starEach [Expr.ListComp elt [⟨.Tuple elts kk tpos, .Name y py2, ifs, 0⟩] scope pos4] X.env = (false, eval (Expr.ListComp elt [⟨.Tuple elts kk tpos, .Name y py2, ifs, 0⟩] scope pos4) X.env) :: starEach [] X.env := by rfl) (hpl2 : (backTo pos3 (starEach [] X.env)).any (·.1) = false := by rfl)
    (hfs : ∀ x, foldedSetIterable (.Name y py2) X.env x = pure x := by intro _; rfl) :
    DSs T X [.Assign [.Name y py] (.Call (.Name "zip" pz) [e1, e2] [] pos2) pos, .Return (some (.Call (.Name "tuple" pt) [.ListComp elt [⟨.Tuple elts kk tpos, .Name y py2, ifs, 0⟩] scope pos4] [] pos3)) pos5] (sZipTup i (own.map (·.2)) ms t test me) := by
  refine ⟨fun Wx tk po => PSs.weak (pss_cons (ps_set hN hi hx (pe_zipV gz hz (ha.pa Wx tk) hst hpl) hs hf) (pss_one (ps_ret (pe_callTy call_tupF gt ht0 (by decide +kernel) (pa_cons (pe_lc (wi := iZv X.K X.s_0.heap.objs.size i) (te := lift X.K T W0 me) (tt := liftB X.K T W0 test) hc hN (pi_zv hi hv hd hcd) (blkOk_by ok) (fun s H C cl fp => (hg s H C cl fp).pg) (fun s H C cl fp => (ht s H C cl fp).pts W0 takes0) (fun s H C cl fp => (he s H C cl fp).pe W0 takes0) hfs) pa_nil hst2) (by decide +kernel) (by decide +kernel) hst2 hpl2)))) fun D σ H h => ?_⟩
  obtain ⟨F, O, st, S, h⟩ := h
  refine ⟨F, O, st, S, PostS.bind .refl h fun ws st1 F1 O1 H1 E1 _ S1 h1 vs rs => ?_⟩
  split at h1
  · rename_i ds es
    split at h1
    · rename_i s0 es0
      split at h1
      · rename_i hok
        simp only [Bool.and_eq_true] at hok
        cases rs with
        | d r1 rs => cases rs with
          | d r2 rs => cases rs; cases r1 with
            | @tup a xs _ ha1 hb1 => cases r2 with
              | @tup b ys _ ha2 hb2 =>
                refine ⟨a, b, xs, ys, rfl, ha1.sq, ha2.sq, fun q hq fr D5 => ?_⟩
                have hil : i < σ.length := by rw [S1.sl.len]; exact (List.getElem?_eq_some_iff.mp es0).1
                refine ⟨q, a, b, H1, by rw [List.getElem?_set_self hil], hq, fr, D5, rfl, fun L hL => ?_⟩
                obtain ⟨O2, sl2, sub2⟩ := S1.sl.set_no i (some (.ref (q + 4)))
                have S2 := S1.sub sl2 sub2
                have E2 : Ext F O H F1 O2 H1 := E1.asg (own := []) (fun a ha => .inl (sub2.subset ha)) (by simp)
                have k : KeepF F1 H1 F1 H1 := .refl
                refine lc_main (X := X) (test := test) (elt := me) (Q := fun x H3 => ∃ p ys, [x] = [V.ref p] ∧ ((SqL X.K H3 p ys ∧ kT H3 ys D.rt) ∨ (SqT X.K H3 p ys ∧ D.rt (.ref p) H3))) (Wx := Wx) (F := F) (O := O) (H := H) (hg {} H 0 [] []).lg hsl nd (s := .fz (zItems ds es)) ?_ E2 S2 (gs_zipT ha1 hb1 ha2 hb2) (fun F3 O3 H3 st3 E3 S3 _ => ⟨E3.fz, fun a o f e tb => E3.keep a o e (fun z => S2.nf a z f) tb⟩) L hL
                show Post X.K T Wx _ F O H (mLcEnd _ _ (cLoop (.fz (zItems ds es)) t test me _ (zItems ds es) [] _)) _
                cases ec : cLoop (.fz (zItems ds es)) t test me (own.map (·.2)) (zItems ds es) [] (wipeS (st1.set i .no) (own.map (·.2))) with
                | ok acc st2 =>
                  rw [ec] at h1
                  intro F' O' H' E' S' v own' r okk
                  have pT : Post X.K T Wx (σ.set i (some (.ref (q + 4)))) F O H (.ok (W.d (.tup acc)) (backS (st1.set i .no) (own.map (·.2)) st2)) (GE X.K T (σ.set i (some (.ref (q + 4)))) H D.rt) := fun F' O' H' E S v own r ok => h1 F' O' H' _ v own E S r fun a ha => ⟨(ok a ha).1, (ok a ha).2.1, .inr (ok a ha).2.2⟩
                  cases r with
                  | o r => cases r with
                    | @lst p xs _ hx hy =>
                      have E3 : Ext F O H (fun a => F' a ∨ a ∈ [p]) O' H' := E'.give okk
                      have S3 := S'.give okk (by intro a ha; simp at ha; subst ha; rw [hx]; simp)
                      exact ⟨p, xs, rfl, .inl ⟨.inl (.inl hx), pT.newTup E3 S3 (RDs.mono (fun _ f => .inl f) (fun _ _ _ e _ => e) _ _ hy)⟩⟩
                | exc e' st2 => rw [ec] at h1; exact h1.elim
                | bad => rw [ec] at h1; exact h1.elim
      · exact h1.elim
    · exact h1.elim
  · exact h1.elim
end
end DP
end
section
set_option Elab.async false
set_option linter.all false
set_option maxRecDepth 100000
set_option maxHeartbeats 4000000
/-! DPC: the least of a list of data. -/
namespace DP
open PySem PySem.Spec PyProof.Rows L2 PySem.W
mutual
theorem toP_inj : ∀ (a b : D) (p : PyData), toP a = some p → toP b = some p → a = b
  | .non, b, p, ha, hb => by
    simp [toP] at ha; subst ha
    cases b <;> simp [toP] at hb <;> rfl
  | .bl x, b, p, ha, hb => by
    simp [toP] at ha; subst ha
    cases b <;> simp [toP] at hb
    rw [hb]
  | .int x, b, p, ha, hb => by
    simp [toP] at ha; subst ha
    cases b <;> simp [toP] at hb
    rw [hb]
  | .str x, b, p, ha, hb => by
    simp [toP] at ha; subst ha
    cases b <;> simp [toP] at hb
    rw [hb]
  | .tup ds, b, p, ha, hb => by
    simp only [toP, Option.map_eq_some_iff] at ha
    obtain ⟨ps, e1, rfl⟩ := ha
    cases b with
    | tup es =>
      simp only [toP, Option.map_eq_some_iff] at hb
      obtain ⟨qs, e2, e3⟩ := hb
      injection e3 with e3
      subst e3
      rw [toPs_inj ds es _ e1 e2]
    | _ => simp [toP] at hb
  | .lst ds, b, p, ha, hb => by
    simp only [toP, Option.map_eq_some_iff] at ha
    obtain ⟨ps, e1, rfl⟩ := ha
    cases b with
    | lst es =>
      simp only [toP, Option.map_eq_some_iff] at hb
      obtain ⟨qs, e2, e3⟩ := hb
      injection e3 with e3
      subst e3
      rw [toPs_inj ds es _ e1 e2]
    | _ => simp [toP] at hb
  | .ty _, _, _, ha, _ => by simp [toP] at ha
  | .fn _, _, _, ha, _ => by simp [toP] at ha
  | .cls _, _, _, ha, _ => by simp [toP] at ha
  | .ins _ _, _, _, ha, _ => by simp [toP] at ha
  | .dic _, _, _, ha, _ => by simp [toP] at ha
  | .scr _, _, _, ha, _ => by simp [toP] at ha
theorem toPs_inj : ∀ (a b : List D) (p : List PyData), toPs a = some p → toPs b = some p → a = b
  | [], b, p, ha, hb => by
    simp [toPs] at ha; subst ha
    cases b with
    | nil => rfl
    | cons d ds =>
      simp only [toPs] at hb
      split at hb <;> simp at hb
  | d :: ds, b, p, ha, hb => by
    simp only [toPs] at ha
    split at ha
    · rename_i q qs e1 e2
      simp at ha; subst ha
      cases b with
      | nil => simp [toPs] at hb
      | cons e es =>
        simp only [toPs] at hb
        split at hb
        · rename_i r rs e3 e4
          simp at hb
          obtain ⟨h1, h2⟩ := hb
          subst h1; subst h2
          rw [toP_inj d e _ e1 e3, toPs_inj ds es _ e2 e4]
        · cases hb
    · cases ha
end
def noNone : PyData → Bool
  | .none => false
  | _ => true
def alikeB (xs : List PyData) : Bool := (xs.all fun x => xs.all fun y => alike x y) && xs.all noNone
theorem alikeB_ok {xs : List PyData} (h : alikeB xs = true) : AlikeAll xs := by
  unfold alikeB at h
  rw [Bool.and_eq_true, List.all_eq_true, List.all_eq_true] at h
  refine ⟨fun x hx y hy => List.all_eq_true.mp (h.1 x hx) y hy, fun x hx e => ?_⟩
  have := h.2 x hx
  subst e
  cases this
/-- the first of the least -/
def minD2 (d : D × PyData) (ds : List (D × PyData)) : D × PyData := ds.foldl (fun a y => if dataLt y.2 a.2 then y else a) d
theorem minD2_snd : ∀ (ds : List D) (ps : List PyData) (d : D) (p : PyData), ds.length = ps.length → (minD2 (d, p) (ds.zip ps)).2 = minD p ps
  | [], [], _, _, _ => rfl
  | _ :: _, [], _, _, h => by cases h
  | [], _ :: _, _, _, h => by cases h
  | e :: ds, q :: ps, d, p, h => by
    simp only [List.zip_cons_cons, minD2, minD, List.foldl_cons]
    by_cases hq : dataLt q p = true
    · simp only [hq, if_true]
      exact minD2_snd ds ps e q (by simpa using h)
    · simp only [Bool.not_eq_true] at hq
      simp only [hq]
      exact minD2_snd ds ps d p (by simpa using h)
theorem minD2_toP : ∀ (ds : List D) (ps : List PyData) (d : D) (p : PyData), toPs ds = some ps → toP d = some p → toP (minD2 (d, p) (ds.zip ps)).1 = some (minD2 (d, p) (ds.zip ps)).2
  | [], ps, d, p, h, h1 => by simpa [minD2] using h1
  | e :: ds, ps, d, p, h, h1 => by
    simp only [toPs] at h
    split at h
    · rename_i q qs e1 e2
      simp at h; subst h
      simp only [List.zip_cons_cons, minD2, List.foldl_cons]
      by_cases hq : dataLt q p = true
      · simp only [hq, if_true]
        exact minD2_toP ds qs e q e2 e1
      · simp only [Bool.not_eq_true] at hq
        simp only [hq]
        exact minD2_toP ds qs d p e2 h1
    · cases h
theorem toPs_len : ∀ {ds : List D} {ps : List PyData}, toPs ds = some ps → ds.length = ps.length
  | [], ps, h => by simp [toPs] at h; subst h; rfl
  | d :: ds, ps, h => by
    simp only [toPs] at h
    split at h
    · rename_i q qs e1 e2
      simp at h; subst h
      simp [toPs_len e2]
    · cases h
theorem toPs_at : ∀ {ds : List D} {ps : List PyData} {i : Nat} {d : D}, toPs ds = some ps → ds[i]? = some d → ∃ p, ps[i]? = some p ∧ toP d = some p
  | [], ps, i, d, h, hi => by simp at hi
  | e :: ds, ps, i, d, h, hi => by
    simp only [toPs] at h
    split at h
    · rename_i q qs e1 e2
      simp at h; subst h
      cases i with
      | zero => simp at hi; subst hi; exact ⟨q, rfl, e1⟩
      | succ i => simpa using toPs_at e2 (by simpa using hi)
    · cases h
/-- min(xs) -/
def gMinL : D → Option D
  | .lst (d :: ds) => match toP d, toPs ds with
    | some p, some ps => if alikeB (p :: ps) && decide (PyData.depthAll (p :: ps) ≤ 60) then some (minD2 (d, p) (ds.zip ps)).1 else none
    | _, _ => none
  | _ => none
def rMinD (K : PySem.W.Frag) : List V → Hp → VK → Prop := fun vs H Q => ∃ (a : Addr) (xs : List V) (p : PyData) (ps : List PyData), vs = [V.ref a] ∧ SqL K H a xs ∧ DpAll K H xs (p :: ps) ∧ AlikeAll (p :: ps) ∧ PyData.depthAll (p :: ps) ≤ 60 ∧ ∀ (i : Nat) (x : V), xs[i]? = some x → (p :: ps)[i]? = some (minD p ps) → Q x H
section
variable {X : Cx} {T : Tb}
theorem Vals.at {vs : List V} {us : List Value} (h : Vals vs us) : ∀ {i : Nat} {u : Value}, us[i]? = some u → ∃ v, vs[i]? = some v ∧ RelV v u := by
  induction h with
  | nil => intro i u hi; simp at hi
  | cons r _ ih =>
    intro i u hi
    cases i with
    | zero => simp at hi; subst hi; exact ⟨_, rfl, r⟩
    | succ i => simpa using ih (by simpa using hi)
theorem DpAll.at {K : PySem.W.Frag} {H : Hp} : ∀ {vs : List V} {ps : List PyData}, DpAll K H vs ps → ∀ {i : Nat} {v : V}, vs[i]? = some v → ∃ p, ps[i]? = some p ∧ Dp K H v p
  | _, _, .nil, i, v, hi => by simp at hi
  | _, _, .cons h hs, 0, v, hi => by simp at hi; subst hi; exact ⟨_, rfl, h⟩
  | _, _, .cons h hs, i + 1, v, hi => by simpa using DpAll.at hs (by simpa using hi)
theorem RDs.at2 {K : PySem.W.Frag} {F : AP} {H : Hp} : ∀ {vs : List V} {ds : List D}, RDs K T F H vs ds → ∀ {i : Nat} {v : V}, vs[i]? = some v → ∃ d, ds[i]? = some d ∧ RD K T F H v d
  | _, _, .nil, i, v, hi => by simp at hi
  | _, _, .cons h hs, 0, v, hi => by simp at hi; subst hi; exact ⟨_, rfl, h⟩
  | _, _, .cons h hs, i + 1, v, hi => by simpa using RDs.at2 hs (by simpa using hi)
theorem call_minD (hc : X.calm = true) (hu : X.A.units + 64 < cLine) : CallR X (.builtin "min") (rMinD X.K) := by
  intro pins s σ H vs us Q I r h
  obtain ⟨a, xs, p, ps, rfl, hs, hd, hal, hdep, q⟩ := h
  obtain ⟨its, rv, hl, _⟩ := I.list hs
  rw [Vals.ref1 r]
  obtain ⟨as, hr⟩ := Dp.readsAll I (p :: ps) _ _ hd rv
  refine min_list_data (I.ok.hd hc) hl.isList hr hal (by omega) fun i v h' tk bs hv hR hk => ?_
  have hv' : its[i]? = some v := by simpa using hv
  obtain ⟨x, hx, rx⟩ := Vals.at rv hv'
  obtain ⟨pi, hpi, hdi⟩ := DpAll.at hd hx
  obtain ⟨cs, hRi⟩ := Dp.reads I pi x v hdi rx
  have e := (Reads.unique (reads_keeps hk hRi) _ _ hR).1
  subst e
  exact ⟨x, H, I.kept hk, rx, q i x hx hpi⟩
theorem pl_minL : PL X T (rd1 gMinL) (rMinD X.K) := PL.rd fun F H v d c Q h e q => by
  unfold gMinL at e
  split at e
  · rename_i d ds
    split at e
    · rename_i p ps e1 e2
      split at e
      · rename_i hb
        rw [Bool.and_eq_true] at hb
        simp only [Option.some.injEq] at e
        subst e
        cases h with
        | lst h hs =>
          have e3 : toPs (d :: ds) = some (p :: ps) := by simp [toPs, e1, e2]
          refine ⟨_, _, p, ps, rfl, .inl (.inl h), RDs.dp _ _ _ hs e3, alikeB_ok hb.1, of_decide_eq_true hb.2, fun i x hx hp => q x ?_⟩
          obtain ⟨di, hdi, rdi⟩ := RDs.at2 hs hx
          obtain ⟨pi, hpi, tpi⟩ := toPs_at e3 hdi
          rw [hp] at hpi
          cases hpi
          have t1 := minD2_toP ds ps d p e2 e1
          rw [minD2_snd ds ps d p (toPs_len e2)] at t1
          rw [toP_inj _ _ _ t1 tpi]
          exact rdi
      · cases e
    · cases e
  · cases e
end
end DP
end
section
set_option Elab.async false
set_option linter.all false
set_option maxRecDepth 100000
set_option maxHeartbeats 4000000
/-! DPD: dicts of ints and texts: a display of one pair, reading, storing, walking the keys. -/
namespace DP
open PySem PySem.Spec PyProof.Rows L2
def keyOf : D → Option Key
  | .int i => some (.inl i)
  | .str x => some (.inr x)
  | _ => none
def keyD : Key → D
  | .inl i => .int i
  | .inr x => .str x
def getK (kvs : List (Key × D)) (k : Key) : Option D := (kvs.find? fun kv => decide (kv.1 = k)).map (·.2)
def setK (kvs : List (Key × D)) (k : Key) (d : D) : List (Key × D) := if (kvs.any fun kv => decide (kv.1 = k)) = true then kvs.map (fun kv => if kv.1 = k then (kv.1, d) else kv) else kvs ++ [(k, d)]
section
variable {K : PySem.W.Frag} {T : Tb} {F F' : AP} {H H' : Hp}
theorem RD.key {v : V} {d : D} {k : Key} (h : RD K T F H v d) (e : keyOf d = some k) : v = kV k := by
  cases h <;> simp [keyOf] at e <;> subst e <;> rfl
theorem Vw.key {v : V} {d : D} {k : Key} (h : Vw K T F H v d) (e : keyOf d = some k) : v = kV k := by
  cases h <;> simp [keyOf] at e <;> subst e <;> rfl
theorem RKs.get : ∀ {vs : List (Key × V)} {ds : List (Key × D)} {k : Key} {d : D}, RKs K T F H vs ds → getK ds k = some d → ∃ v, valV vs k = some v ∧ RD K T F H v d
  | _, _, k, d, .nil, e => by simp [getK] at e
  | _, _, k, d, .cons (f := f) (v := v) (vs := vs) (d := x) (ds := ds) h hs, e => by
    by_cases q : f = k
    · subst q
      have : x = d := by simpa [getK] using e
      subst this
      exact ⟨v, valV_pos rfl, h⟩
    · rw [valV_neg (p := (f, v)) q]
      refine RKs.get hs ?_
      simpa [getK, List.find?_cons, q] using e
theorem RKs.any : ∀ {vs : List (Key × V)} {ds : List (Key × D)} {k : Key}, RKs K T F H vs ds → (vs.any fun kv => decide (kv.1 = k)) = (ds.any fun kv => decide (kv.1 = k))
  | _, _, _, .nil => rfl
  | _, _, k, .cons h hs => by simp only [List.any_cons]; rw [RKs.any hs]
theorem RKs.repl {v : V} {d : D} {k : Key} (r : RD K T F H v d) : ∀ {vs : List (Key × V)} {ds : List (Key × D)}, RKs K T F H vs ds → RKs K T F H (vs.map fun kv => if kv.1 = k then (kv.1, v) else kv) (ds.map fun kv => if kv.1 = k then (kv.1, d) else kv)
  | _, _, .nil => .nil
  | _, _, .cons (f := f) (v := v') (vs := vs) (d := x) (ds := ds) h hs => by
    simp only [List.map_cons]
    by_cases q : f = k
    · subst q; simp only [if_true]; exact .cons r (RKs.repl r hs)
    · simp only [q, if_false]; exact .cons h (RKs.repl r hs)
theorem RKs.snoc {v : V} {d : D} {k : Key} (r : RD K T F H v d) : ∀ {vs : List (Key × V)} {ds : List (Key × D)}, RKs K T F H vs ds → RKs K T F H (vs ++ [(k, v)]) (ds ++ [(k, d)])
  | _, _, .nil => .cons r .nil
  | _, _, .cons h hs => .cons h (RKs.snoc r hs)
theorem RKs.put {v : V} {d : D} {k : Key} {vs : List (Key × V)} {ds : List (Key × D)} (h : RKs K T F H vs ds) (r : RD K T F H v d) : RKs K T F H (putK vs k v) (setK ds k d) := by
  unfold putK setK
  rw [h.any]
  split
  · exact RKs.repl r h
  · exact RKs.snoc r h
theorem RKs.len : ∀ {vs : List (Key × V)} {ds : List (Key × D)}, RKs K T F H vs ds → vs.length = ds.length
  | _, _, .nil => rfl
  | _, _, .cons _ hs => by simp [RKs.len hs]
theorem RKs.key_at : ∀ {vs : List (Key × V)} {ds : List (Key × D)}, RKs K T F H vs ds → ∀ {i : Nat} {k : Key} {d : D}, ds[i]? = some (k, d) → ∃ v, vs[i]? = some (k, v)
  | _, _, .nil, i, k, d, e => by simp at e
  | _, _, .cons h hs, 0, k, d, e => by simp at e; obtain ⟨rfl, rfl⟩ := e; exact ⟨_, rfl⟩
  | _, _, .cons h hs, i + 1, k, d, e => by simpa using RKs.key_at hs (by simpa using e)
end
def gDx : D → D → Option D := fun o k => match o with
  | .dic kvs => (match keyOf k with
    | some key => getK kvs key
    | none => none)
  | _ => none
def rDGet : R2 := fun x y H Q => ∃ a v, x = .ref a ∧ DGet H a y (some v) ∧ Q v H
section
variable {X : Cx} {T : Tb} {pos : Pos}
theorem p_dx : P2 X T (rd2 gDx) rDGet := P2.rd fun F H v1 v2 d1 d2 c Q h1 h2 e q => by
  unfold gDx at e
  split at e
  · rename_i kvs
    split at e
    · rename_i key ek
      cases h1 with
      | @dic a vs _ h hs =>
        obtain ⟨v, e1, r⟩ := hs.get e
        exact ⟨a, v, rfl, .inl ⟨vs, key, h, h2.key ek, e1.symm⟩, q v r⟩
    · cases e
  · cases e
theorem de_dx {o i : Expr} {mo mi : M W} {k : Nat} (hr : Room k X.A) (ho : DE T X o mo) (hi : DE T X i mi) (hs : NoSl i := by exact fun _ _ => rfl) : DE T X (.Subscript o i pos) (m2 (rd2 gDx) mo mi) :=
  ⟨fun Wx tk => PE.weak (pe_dget (by have := hr.units; omega) (ho.pe Wx tk) (hi.pe Wx tk) hs) fun σ H Q h => run2 (r := rDGet) p_dx h⟩
/-- d[k] = e -/
def sDPut (me mo mi : M W) : M Fl := bnd me fun w => bnd mo fun o => bnd mi fun i st => match w.fzD, o, i with
  | some d, .b n, .d kd => (match st[n]?, keyOf kd with
    | some (.o t (.dic kvs)), some k => if kvs.length ≤ 1000 then .ok .nx (st.set n (.o t (.dic (setK kvs k d)))) else .bad
    | _, _ => .bad)
  | _, _, _ => .bad
theorem SRel.putK {F : AP} {O : List Addr} {H : Hp} {σ : L2.St} {st : St} {K : PySem.W.Frag} {i : Nat} {t : Option Nat} {ds es : List (Key × DP.D)} {p : Addr} {ys : List (Key × V)} (S : SRel K T F O H σ st) (e : st[i]? = some (.o t (.dic ds))) (hp : σ[i]? = some (some (.ref p))) (r : RKs K T F H ys es) :
    SRel K T F O (upd H p (.dK ys)) σ (st.set i (.o t (.dic es))) ∧ Ext F O H F O (upd H p (.dK ys)) := by
  obtain ⟨v, own, s1, s2, ro, mo⟩ := S.sl.get_o e
  rw [hp] at s1
  have : v = .ref p := by simpa using s1.symm
  subst this
  cases ro with
  | dic ha hs =>
    have pO := mo p (by simp)
    have ne : ∀ a, F a → a ≠ p := fun a f z => S.nf p pO (z ▸ f)
    refine ⟨⟨S.sl.chg i S.nd e (fun v own e2 r2 m2 => ?_) (fun a o q e2 _ => ?_), S.nd, S.nf, fun a f => ?_⟩, ⟨fun _ f => f, fun a o e2 n _ => ?_, fun _ f => .inl f, fun _ f => .inl f, fun a z => ?_⟩⟩
    · cases r2 with
      | @dic a2 xs2 _ h2 hs2 =>
        rw [hp] at e2
        have : p = a2 := by simpa using e2
        subst this
        exact .dic upd_same (RKs.mono (fun _ f => f) (fun a o f e3 _ => by rw [upd_ne (ne a f)]; exact e3) _ _ r)
    · rw [upd_ne]
      · exact e2
      · rcases q with f | ⟨q1, q2⟩
        · exact ne a f
        · intro z
          subst z
          exact q2 _ _ hp (.dic ha hs) (by simp)
    · rw [upd_ne (ne a f)]; exact S.fd a f
    · rw [upd_ne (fun z => by subst z; exact n pO)]; exact e2
    · by_cases q : a = p
      · subst q; rw [upd_same]; simp
      · rw [upd_ne q]; exact z
theorem ds_dput {o i e : Expr} {me mo mi : M W} {pos' : Pos} {k : Nat} (hr : Room k X.A) (h : DE T X e me) (ho : DE T X o mo) (hi : DE T X i mi) (hs : swapsWith e (some (.Subscript o i pos')) pos.line X.env = pure false := by rfl) : DS T X (.Assign [.Subscript o i pos'] e pos) (sDPut me mo mi) := by
  refine ⟨fun Wx tk po => PS.weak (ps_dput (by have := hr.units; omega) (ho.pe Wx tk) (hi.pe Wx tk) (h.pe Wx tk) hs) fun D σ H h => ?_⟩
  obtain ⟨F, O, st, S, h⟩ := h
  refine ⟨F, O, st, S, PostS.bind .refl h fun w st1 F1 O1 H1 E1 _ S1 h1 v own r ok => ⟨F1, O1, st1, S1, PostS.bind E1 h1 fun wo st2 F2 O2 H2 E2 E12 S2 h2 vo oo ro oko => ⟨F2, O2, st2, S2, PostS.bind E2 h2 fun wi st3 F3 O3 H3 E3 E23 S3 h3 vi oi ri oki => ?_⟩⟩⟩
  obtain ⟨r', ok'⟩ := r.ext ok S1.nf E12
  obtain ⟨r'', ok''⟩ := r'.ext ok' S2.nf E23
  obtain ⟨ro', oko'⟩ := ro.ext oko S2.nf E23
  split at h3
  · rename_i d n kd e
    split at h3
    · rename_i t kvs key e1 e2
      split at h3
      · rename_i hl
        have rd' := r''.fzD e
        have S4 := S3.give ok'' r''.there
        obtain ⟨u, own2, s1, _, rr, _⟩ := S4.sl.get_o e1
        cases ro' with
        | b hv =>
          have hv' := hv
          rw [hv] at s1
          have : vo = u := by simpa using s1
          subst this
          cases rr with
          | @dic p vs _ ha hk =>
            cases ri with
            | d ri =>
              have ek := ri.key e2
              obtain ⟨S5, E5⟩ := S4.putK e1 hv' (hk.put (k := key) rd')
              exact ⟨p, _, rfl, .inl ⟨vs, key, ha, ek, by rw [hk.len, sizeLine_eq]; omega, rfl⟩, h3 _ _ _ _ ((E3.give ok'').trans E5) S5⟩
      · exact h3.elim
    · exact h3.elim
  · exact h3.elim
/-- {k: v} -/
def mDic1 (mk mv : M W) : M W := bnd mk fun k => bnd mv fun v st => match k, v with
  | .d kd, .d d => (match keyOf kd with
    | some key => .ok (.o (.dic [(key, d)])) st
    | none => .bad)
  | _, _ => .bad
theorem de_dic1 {k v : Expr} {mk mv : M W} (hk : DE T X k mk) (hv : DE T X v mv) : DE T X (.Dict [some k] [v] pos) (mDic1 mk mv) := by
  refine ⟨fun Wx tk => PE.weak (pe_disp (pps_cons (hk.pe Wx tk) (hv.pe Wx tk) pps_nil) rfl rfl (by simp) (by simp)) fun σ H Q h => ?_⟩
  obtain ⟨F, O, st, S, h⟩ := h
  intro p hp
  have pO : p ∉ O := fun z => S.sl.there p z hp
  have pF : ¬ F p := fun z => S.fd p z hp
  refine ⟨F, O, st, S.alloc hp, h.bind (.alloc hp) fun wk st1 F1 O1 H1 E1 E01 S1 h1 vk ok1 rk okk => ⟨F1, O1, st1, S1, h1.bind E1 fun wv st2 F2 O2 H2 E2 E12 S2 h2 vv ok2 rv okv => ?_⟩⟩
  obtain ⟨rk', okk'⟩ := rk.ext okk S1.nf E12
  have E02 := E01.trans E12
  have e2 : H2 p = some (.dK []) := E02.keep p _ upd_same pO (fun ps z => by cases z)
  have p2O : p ∉ O2 := fun z => by
    rcases E02.newO p z with q | q
    · exact pO q
    · rw [upd_same] at q; cases q
  have p2F : ¬ F2 p := fun z => by
    rcases E02.newF p z with q | q | q
    · exact pF q
    · exact pO q
    · rw [upd_same] at q; cases q
  split at h2
  · rename_i kd d
    split at h2
    · rename_i key ek
      cases rk' with
      | d rk' =>
        cases rv with
        | d rv =>
          have evk := rk'.key ek
          subst evk
          refine ⟨e2, [(key, vv)], rfl, by simp, ?_⟩
          have em : mergeK [] [(key, vv)] = [(key, vv)] := rfl
          rw [em]
          have hne : ∀ a, F2 a → a ≠ p := fun a f z => p2F (z ▸ f)
          have E3 : Ext F O H F2 O2 (upd H2 p (.dK [(key, vv)])) := ⟨E2.fz, fun a o e n t => by
            rw [upd_ne (fun z => by rw [z, hp] at e; cases e)]; exact E2.keep a o e n t, E2.newF, E2.newO, fun a z => by
            by_cases q : a = p
            · subst q; rw [upd_same]; simp
            · rw [upd_ne q]; exact E2.dom a z⟩
          have S3 : SRel X.K T F2 O2 (upd H2 p (.dK [(key, vv)])) σ st2 :=
            ⟨S2.sl.mono (fun _ f => f) fun a o q e _ => by
              rw [upd_ne (fun z => by subst z; exact q.elim p2F p2O)]; exact e, S2.nd, S2.nf, fun a f => by rw [upd_ne (hne a f)]; exact S2.fd a f⟩
          refine h2 F2 O2 _ E3 S3 (.ref p) [p] (.o (.dic upd_same (.cons (RD.mono (fun _ f => f) (fun a o f e _ => by rw [upd_ne (hne a f)]; exact e) _ _ rv) .nil))) fun a ha => ?_
          simp at ha; subst ha
          exact ⟨p2O, p2F, hp⟩
    · exact h2.elim
  · exact h2.elim
/-- a dict is locked from here on -/
theorem pe_lockD {e : Expr} {te : TE} (he : PE X e te) : PE X e (fun σ H Q => te σ H fun x H1 => ∃ a kvs, x = .ref a ∧ H1 a = some (.dK kvs) ∧ ∀ od, Q (.ref a) (upd H1 a (.frz od (.dK kvs)))) := by
  refine ⟨fun pins s σ H Q I h => ?_⟩
  refine thn (he.run pins s σ H _ I h) fun u s1 ⟨x, H1, I1, rx, a, kvs, ex, ha, q⟩ => ?_
  subst ex
  obtain ⟨od, I2⟩ := I1.lock ha True.intro
  exact ⟨.ref a, _, I2, rx, q od⟩
def mKeys (m : M W) : M Src := bnd m fun w st => match w with
  | .b i => (match st[i]? with
    | some (.o none (.dic kvs)) => .ok (.fz (kvs.map fun kv => .one (keyD kv.1))) (st.set i (.d (.dic kvs)))
    | _ => .bad)
  | _ => .bad
theorem RD.ofKey {K : PySem.W.Frag} {F : AP} {H : Hp} (k : Key) : RD K T F H (kV k) (keyD k) := by
  cases k
  · exact .int _
  · exact .str _
theorem gs_keys {K : PySem.W.Frag} {F0 : AP} {H0 : Hp} {a : Addr} {od : Obj} {vs : List (Key × V)} {ds : List (Key × D)} (hf : F0 a) (h : H0 a = some (.frz od (.dK vs))) (hs : RKs K T F0 H0 vs ds) : Gs K T (KeepF F0 H0) (Itk a od vs) (ds.map fun kv => .one (keyD kv.1)) where
  go := fun F H i g hi => ⟨g.2 _ _ hf h (fun ps z => by cases z), by rw [hs.len]; simpa using hi⟩
  stop := fun F H g => ⟨g.2 _ _ hf h (fun ps z => by cases z), by rw [hs.len]; simp⟩
  yld := fun F O H σ st i x H' item g S e y => by
    obtain ⟨rfl, k, v, y1, rfl⟩ := y
    rw [List.getElem?_map] at e
    cases e1 : ds[i]? with
    | none => rw [e1] at e; cases e
    | some p =>
      obtain ⟨k2, d⟩ := p
      rw [e1] at e
      have : item = .one (keyD k2) := (Option.some.inj e).symm
      subst this
      obtain ⟨v2, q2⟩ := hs.key_at e1
      rw [y1] at q2
      injection q2 with q2
      injection q2 with q3 q4
      subst q3
      exact ⟨F, .refl, S, fun _ _ q => q, .one (RD.ofKey k)⟩
theorem di_keys {tg e : Expr} {m : M W} (h : DE T X e m) : DI T X tg e (mKeys m) := by
  refine ⟨fun Wx tk => PI.weak (pi_keys (pe_lockD (h.pe Wx tk))) fun σ H R h => ?_⟩
  obtain ⟨F, O, st, S, h⟩ := h
  refine ⟨F, O, st, S, h.bind .refl fun w st1 F1 O1 H1 E1 _ S1 h1 v own r ok => ?_⟩
  split at h1
  · rename_i i
    split at h1
    · rename_i kvs e
      obtain ⟨u, own', O2, s1, _, ro, s4, s5, s6⟩ := S1.sl.drop S1.nd e
      cases r with
      | b hv =>
        rw [hv] at s1
        have : v = u := by simpa using s1
        subst this
        cases ro with
        | @dic a vs _ ha hs =>
          have aO : a ∈ O1 := (s6 a (by simp)).1
          have aO2 : a ∉ O2 := (s6 a (by simp)).2
          have hne : ∀ b, F1 b → b ≠ a := fun b f z => S1.nf a aO (z ▸ f)
          refine ⟨a, vs, rfl, ha, fun od => ⟨a, od, rfl, .inl ⟨vs, upd_same, ?_⟩⟩⟩
          have hs' : RKs X.K T (fun b => F1 b ∨ b = a) (upd H1 a (.frz od (.dK vs))) vs kvs := RKs.mono (fun _ f => .inl f) (fun b o f e _ => by rw [upd_ne (hne b f)]; exact e) _ _ hs
          have rd' : RD X.K T (fun b => F1 b ∨ b = a) (upd H1 a (.frz od (.dK vs))) (.ref a) (.dic kvs) := .dic (.inr rfl) (.inr ⟨od, upd_same⟩) hs'
          obtain ⟨O3, sl3, sub3⟩ := (s4.mono (F' := fun b => F1 b ∨ b = a) (H' := upd H1 a (.frz od (.dK vs))) (fun _ f => .inl f) fun b o q e _ => by
            rw [upd_ne (fun z => by subst z; exact q.elim (fun f => hne _ f rfl) aO2)]; exact e).set_d i rd'
          rw [set_same hv, List.set_set] at sl3
          have S3 : SRel X.K T (fun b => F1 b ∨ b = a) O3 (upd H1 a (.frz od (.dK vs))) σ (st1.set i (.d (.dic kvs))) :=
            ⟨sl3, (S1.nd.sublist s5).sublist sub3, fun b hb z => z.elim (S1.nf b (s5.subset (sub3.subset hb))) fun q => aO2 (q ▸ sub3.subset hb), fun b z => by
              by_cases q : b = a
              · subst q; rw [upd_same]; simp
              · rw [upd_ne q]; exact S1.fd b (z.resolve_right q)⟩
          have E3 : Ext F1 O1 H1 (fun b => F1 b ∨ b = a) O3 (upd H1 a (.frz od (.dK vs))) := ⟨fun b f => .inl f, fun b o e n _ => by
            rw [upd_ne (fun z => by subst z; exact n aO)]; exact e, fun b z => z.elim .inl fun q => .inr (.inl (q ▸ aO)), fun b hb => .inl (s5.subset (sub3.subset hb)), fun b z => by
            by_cases q : b = a
            · subst q; rw [upd_same]; simp
            · rw [upd_ne q]; exact z⟩
          refine h1 _ _ _ (E1.trans E3) S3 _ [] .nil (by simp) (gs_keys (.inl (.inr rfl)) upd_same ?_)
          exact RKs.mono (fun _ f => .inl f) (fun _ _ _ e _ => e) _ _ hs'
    · exact h1.elim
  · exact h1.elim
end
end DP
end
section
set_option Elab.async false
set_option linter.all false
set_option maxRecDepth 100000
set_option maxHeartbeats 4000000
/-! DPE: a tuple taken once or more often; a local that may hold one of two defs; targets within targets; three names at once. -/
namespace DP
open PySem PySem.Spec PyProof.Rows L2
open PySem.AutoSeq1 (wpAny_loadPart')
/-- a tuple, once -/
theorem tup_once (l : Addr) (items : Array Value) (n : Nat) (dd : Option Addr) (sl : Array (Option Value)) (u : Tok) :
    Meets (Builtin.«tuple.__mul__» ⟨[.ref l, .int 1 u], []⟩) (fun _ R s => s.heap.get? l = some { cls := .type "tuple", dict := dd, data := .seq items n, slots := sl } ∧ R (.ok (.ret (.ref l))) s) :=
  .of_wp fun prog w A R s h => by
    obtain ⟨hp, g, d, tk, os⟩ := s
    obtain ⟨hl, h⟩ := h
    have f1 := AutoSeq1.idx_int
    wp_walk using wpAny_loadPart' hl
    exact ⟨_, rfl, h⟩
def rOnce (K : PySem.W.Frag) : R2 := fun x y H Q => ∃ l xs, x = .ref l ∧ y = .int 1 ∧ SqT K H l xs ∧ Q (.ref l) H
def rMulB (K : PySem.W.Frag) : R2 := fun x y H Q => rMulA K x y H Q ∨ rOnce K x y H Q
def fMulB : W → W → M W := fun w1 w2 st => match rd w1 st, rd w2 st with
  | some (.tup a), some (.int 1) => .ok (.d (.tup a)) st
  | _, _ => fMul w1 w2 st
section
variable {X : Cx} {T : Tb} {pos : Pos}
theorem op_once : OpR X (binaryOp .Mult) (rOnce X.K) := by
  intro pins s σ H x y v u Q I rx ry h
  obtain ⟨l, xs, rfl, rfl, hT, q⟩ := h
  cases rx
  obtain ⟨t, rfl⟩ := ry
  obtain ⟨its, r, ⟨⟨cls, dd, data, sl⟩, ho, hc, n, hd⟩, hs⟩ := I.tuple hT
  simp only at hc hd
  subst hc hd
  exact wpAny_binaryOp_repeat_ref (T := "tuple") (U := "int") (by decide) ⟨_, ho, rfl⟩ (fun s' => typeIs_int s' 1 t) noFill_tuple_mul F.fills_int_mul F.slot_int_rmul repeat_tuple F.slot_int_index.lookup
    (call_meets F.slot_int_rmul (typeIs_int s 1 t) F.entry_int_rmul (F.args_int_rmul_2 _ _) (int_rmul_tuple 1 t l its.toArray n dd sl)
      ⟨ho, rfl, ⟨_, ho, rfl⟩, call_meets F.slot_tuple_mul ⟨_, ho, rfl⟩ F.entry_tuple_mul (F.args_tuple_mul_2 _ _) (tup_once l its.toArray n dd sl t) ⟨ho, ⟨.ref l, H, I, rfl, q⟩⟩⟩)
theorem op_mulB : OpR X (binaryOp .Mult) (rMulB X.K) := op_mulA.or op_once
theorem p_mulB : P2 X T fMulB (rMulB X.K) := by
  intro Wx σ F0 O0 H0 F O H st w1 w2 v1 v2 own1 own2 Q E S r1 r2 p
  unfold fMulB at p
  split at p
  · rename_i a e1 e2
    cases r2.vw S.sl e2
    have rv := r1.vw S.sl e1
    cases r1 with
    | d r1 =>
      simp only [rd, Option.some.injEq] at e1
      subst e1
      cases r1 with
      | tup h1 hs1 => exact .inr ⟨_, _, rfl, rfl, h1.sq, p.oldD E S (.tup h1 hs1)⟩
    | o r1 =>
      cases r1 <;> simp [rd, fz] at e1
    | b hv =>
      cases rv with
      | tup h1 hs1 => exact .inr ⟨_, _, rfl, rfl, h1.sq, p.oldD E S (.tup h1 hs1)⟩
  · exact .inl (p_mul Wx σ F0 O0 H0 F O H st w1 w2 v1 v2 own1 own2 Q E S r1 r2 p)
/-! ### a local that holds one of two defs -/
def mCallL2 (i : Nat) (n1 : String) (f1 : Fn) (n2 : String) (f2 : Fn) (n : Nat) (ms : M (List W)) : M W := fun st => match st[i]? with
  | some (.d (.fn nm)) => if nm = n1 then mCall n f1 [] ms st else if nm = n2 then mCall n f2 [] ms st else .bad
  | _ => .bad
theorem PE.or2 {e : Expr} {t u : TE} (h1 : PE X e t) (h2 : PE X e u) : PE X e (fun σ H Q => t σ H Q ∨ u σ H Q) :=
  ⟨fun pins s σ H Q I h => h.elim (h1.run pins s σ H Q I) (h2.run pins s σ H Q I)⟩
theorem de_callL2 (i : Nat) {k n : Nat} {x : Str} {n1 n2 : String} {f1 f2 : Fn} {e : Expr} {es : List Expr} {ms : M (List W)} {p : Pos} (c1 : CalA X.prog X.w X.K X.mg X.base T k n1 n f1) (c2 : CalA X.prog X.w X.K X.mg X.base T k n2 n f2) (hr : Room k X.A) (ha : DA T X (e :: es) ms) (hN : X.N[i]? = some x := by rfl)
    (hv : Vis X.env.scope x := by first | exact Or.inl rfl | exact Or.inr (Or.inl rfl) | exact Or.inr (Or.inr rfl)) (hdb : (x == ("__debug__" : Str)) = false := by decide +kernel) (hcd : (x == ("__classdict__" : Str)) = false := by decide +kernel)
    (he : starEach (e :: es) X.env = (false, eval e X.env) :: starEach es X.env := by rfl) (hpl : (backTo pos (starEach es X.env)).any (·.1) = false := by rfl) : DE T X (.Call (.Name x p) (e :: es) [] pos) (mCallL2 i n1 f1 n2 f2 n ms) := by
  obtain ⟨T0, g1, d1, s1, e0, h1, h2, h3, h4⟩ := c1.ex
  obtain ⟨T1, g2, d2, s2, e1, k1, k2, k3, k4⟩ := c2.ex
  refine ⟨fun Wx tk => PE.weak (PE.or2 (pe_callLS (i := i) h1 hr hN hv h3 h4 (fun σ => passAt tk σ) (ha.pa Wx tk) hdb hcd he hpl) (pe_callLS (i := i) k1 hr hN hv k3 k4 (fun σ => passAt tk σ) (ha.pa Wx tk) hdb hcd he hpl)) fun σ H Q h => ?_⟩
  obtain ⟨F, O, st, S, h⟩ := h
  unfold mCallL2 at h
  split at h
  · rename_i nm e
    obtain ⟨v, q1, q2⟩ := S.sl.get_d e
    split at h
    · rename_i hn
      subst hn
      cases q2 with
      | fn hf =>
        rw [h2] at hf
        cases hf
        exact .inl ⟨q1, F, O, st, S, h.bind .refl fun ws st1 F1 O1 H1 E1 _ S1 h1 vs rs => run_callW e0 (fun _ _ => .nil) E1 S1 rs h1⟩
    · split at h
      · rename_i hn
        subst hn
        cases q2 with
        | fn hf =>
          rw [k2] at hf
          cases hf
          exact .inr ⟨q1, F, O, st, S, h.bind .refl fun ws st1 F1 O1 H1 E1 _ S1 h1 vs rs => run_callW e1 (fun _ _ => .nil) E1 S1 rs h1⟩
      · exact h.elim
  · exact h.elim
/-! ### a target within a target: i, (x, y) -/
def tgNest (i : Nat) (is : List Nat) : Item → M Unit
  | .many [a, .tup ds] => bnd (setN i a) fun _ => setNs is ds
  | .one (.tup [a, .tup ds]) => bnd (setN i a) fun _ => setNs is ds
  | _ => fun _ => .bad
theorem lg_nest {K : PySem.W.Frag} {i : Nat} {is : List Nat} : LG K T (gTup K 2 (gCons (gName i) (gCons (gTup K is.length (gNs is)) gNil))) (tgNest i is) (i :: is) := by
  have main : ∀ (vs : List V) (a : DP.D) (ds : List DP.D) (σ : L2.St) (H : Hp) (F : AP) (O : List Addr) (st st' : St) (Q : L2.St → Hp → Prop), SRel K T F O H σ st → RDs K T F H vs [a, .tup ds] → (bnd (setN i a) fun _ => setNs is ds) st = .ok () st' →
      (∀ σ' O', (∀ a ∈ O', a ∈ O) → SRel K T F O' H σ' st' → Off (i :: is) σ σ' → Q σ' H) → vs.length = 2 ∧ gCons (gName i) (gCons (gTup K is.length (gNs is)) gNil) vs σ H Q := by
    intro vs a ds σ H F O st st' Q S r e q
    cases r with
    | cons r1 rs =>
      cases rs with
      | cons r2 rs =>
        cases rs
        rename_i v v2
        refine ⟨rfl, v, [v2], rfl, ?_⟩
        cases e1 : setN i a st with
        | ok u s1 =>
          rw [bnd_ok e1] at e
          obtain ⟨rfl, hi⟩ := setN_of e1
          obtain ⟨O1, sl1, sub1⟩ := S.sl.set_d i r1
          have S1 := S.sub sl1 sub1
          cases r2 with
          | tup h hs =>
            refine ⟨_, [], rfl, _, _, rfl, h.sq, by rw [hs.len]; exact setNs_len e, gNs_of S1 e hs fun σ' O' hO S' off => ⟨rfl, q σ' O' (fun a ha => sub1.subset (hO a ha)) S' ⟨by rw [off.1]; simp, fun j hj => ?_⟩⟩⟩
            rw [off.2 j (fun z => hj (List.mem_cons_of_mem _ z)), List.getElem?_set_ne (fun z => hj (by subst z; exact List.mem_cons_self))]
        | exc e' s => rw [bnd_exc e1] at e; cases e
        | bad => unfold bnd at e; rw [e1] at e; cases e
  intro v σ H F O st st' item Q S r e q
  unfold tgNest at e
  split at e
  · rename_i a ds
    cases r with
    | many h hs =>
      obtain ⟨hl, g⟩ := main _ a ds σ H F O st st' Q S hs e q
      exact ⟨_, _, rfl, h, hl, g⟩
  · rename_i a ds
    cases r with
    | one r =>
      cases r with
      | tup h hs =>
        obtain ⟨hl, g⟩ := main _ a ds σ H F O st st' Q S hs e q
        exact ⟨_, _, rfl, h.sq, hl, g⟩
  · cases e
theorem dg_nest {K : PySem.W.Frag} (i : Nat) {x : Str} {es : List Expr} {is : List Nat} {k k2 : Nat} {px pt : Pos} (hK : X.K = K) (hc : X.calm = true) (hN : X.N.Nodup) (h : DGs X es is) (hi : X.N[i]? = some x := by rfl) (hx : Loc X.env.scope x := by first | exact Or.inl rfl | exact Or.inr rfl) (hf : X.fn x = true ∨ X.env.scope.names.lookup x = some .local := by first | exact .inl rfl | exact .inr rfl)
    (hn : (assignEach es X.env).length = is.length := by rfl) (hst : (assignEach es X.env).findIdx? (·.1) = none := by rfl)
    (hn2 : (assignEach [.Name x px, .Tuple es k2 pt] X.env).length = 2 := by rfl) (hst2 : (assignEach [.Name x px, .Tuple es k2 pt] X.env).findIdx? (·.1) = none := by rfl)
    (hs1 : (assignEach (.Name x px :: [.Tuple es k2 pt]) X.env).map (·.2) = assign (.Name x px) X.env :: (assignEach [.Tuple es k2 pt] X.env).map (·.2) := by rfl) (hs2 : (assignEach (.Tuple es k2 pt :: []) X.env).map (·.2) = assign (.Tuple es k2 pt) X.env :: (assignEach [] X.env).map (·.2) := by rfl) :
    DG T X (.Tuple [.Name x px, .Tuple es k2 pt] k pos) (gTup K 2 (gCons (gName i) (gCons (gTup K is.length (gNs is)) gNil))) (tgNest i is) (i :: is) := by
  subst hK
  exact ⟨pg_tup hc (pgs_cons (pg_name hN hi hx hf) (pgs_cons (pg_tup hc h.pgs hn hst) pgs_nil hs2) hs1) hn2 hst2, lg_nest⟩
/-! ### x, y, z = a, b, c -/
def sPar3 (i j l : Nat) (ma mb mc : M W) : M Fl := bnd ma fun u => bnd mb fun v => bnd mc fun w st => match asgW i u st with
  | some s1 => (match asgW j v s1 with
    | some s2 => endS (asgW l w s2)
    | none => .bad)
  | none => .bad
theorem ds_par3 (i j l : Nat) {x y z : Str} {a b c : Expr} {px py pz pt : Pos} {kt k2 pt2} {ma mb mc : M W} (hc : X.calm = true) (hN : X.N.Nodup) (ha : DE T X a ma) (hb : DE T X b mb) (hcc : DE T X c mc) (hi : X.N[i]? = some x := by rfl) (hj : X.N[j]? = some y := by rfl) (hl : X.N[l]? = some z := by rfl) (hij : i ≠ j := by decide) (hil : i ≠ l := by decide) (hjl : j ≠ l := by decide)
    (hx : X.env.scope.names.lookup x = some .local := by rfl) (hy : X.env.scope.names.lookup y = some .local := by rfl) (hz : X.env.scope.names.lookup z = some .local := by rfl)
    (he : starEach [a, b, c] X.env = (false, eval a X.env) :: starEach [b, c] X.env := by rfl) (he2 : starEach [b, c] X.env = (false, eval b X.env) :: starEach [c] X.env := by rfl) (he3 : starEach [c] X.env = (false, eval c X.env) :: starEach [] X.env := by rfl)
    (hw : swappedStores [.Tuple [.Name x px, .Name y py, .Name z pz] kt pt] (.Tuple [a, b, c] k2 pt2) X.env = pure (some [x, y, z]) := by rfl) (hs : swapsWithSole [.Tuple [.Name x px, .Name y py, .Name z pz] kt pt] (.Tuple [a, b, c] k2 pt2) pos.line X.env = pure false := by rfl) :
    DS T X (.Assign [.Tuple [.Name x px, .Name y py, .Name z pz] kt pt] (.Tuple [a, b, c] k2 pt2) pos) (sPar3 i j l ma mb mc) := by
  refine ⟨fun Wx tk po => PS.weak (ps_par3 hc hN hi hj hl hij hil hjl hx hy hz (pa_cons (ha.pe Wx tk) (pa_cons (hb.pe Wx tk) (pa_cons (hcc.pe Wx tk) pa_nil he3) he2) he) hw hs) fun D σ H h => ?_⟩
  obtain ⟨F, O, st, S, h⟩ := h
  refine ⟨F, O, st, S, PostS.bind .refl h fun u st1 F1 O1 H1 E1 _ S1 h1 v1 w1 r1 k1 => ⟨F1, O1, st1, S1, PostS.bind E1 h1 fun v st2 F2 O2 H2 E2 E12 S2 h2 v2 w2 r2 k2 => ⟨F2, O2, st2, S2, PostS.bind E2 h2 fun w st3 F3 O3 H3 E3 E23 S3 h3 v3 w3 r3 k3 => ⟨v1, v2, v3, rfl, ?_⟩⟩⟩⟩
  obtain ⟨r1a, k1a⟩ := r1.ext k1 S1.nf E12
  obtain ⟨r1b, k1b⟩ := r1a.ext k1a S2.nf E23
  obtain ⟨r2b, k2b⟩ := r2.ext k2 S2.nf E23
  split at h3
  · rename_i t1 e1
    obtain ⟨P1, U1, m1⟩ := S3.asg r1b (fun a ha => ⟨(k1b a ha).1, (k1b a ha).2.1⟩) e1
    have X1 : Ext F O H F3 P1 H3 := E3.asg m1 fun a ha => .inr (k1b a ha).2.2
    have n2 : ∀ a ∈ w2, a ∉ P1 := fun a ha z => (m1 a z).elim (k2b a ha).1 fun q => r1.there a q (k2b a ha).2.2
    split at h3
    · rename_i t2 e2
      obtain ⟨P2, U2, m2⟩ := U1.asg (r2b.chg (asgW_nb e2)) (fun a ha => ⟨n2 a ha, (k2b a ha).2.1⟩) e2
      have X2 : Ext F O H F3 P2 H3 := X1.asg m2 fun a ha => .inr (E1.none_of (k2b a ha).2.2)
      cases e3 : asgW l w t2 with
      | none => rw [e3] at h3; exact h3.elim
      | some t3 =>
        rw [e3] at h3
        have n3 : ∀ a ∈ w3, a ∉ P2 := fun a ha z => (m2 a z).elim (fun q => (m1 a q).elim (k3 a ha).1 fun q => r1a.there a q (k3 a ha).2.2) fun q => r2.there a q (k3 a ha).2.2
        obtain ⟨P3, U3, m3⟩ := U2.asg (r3.chg (asgW_nb e3)) (fun a ha => ⟨n3 a ha, (k3 a ha).2.1⟩) e3
        exact h3 F3 P3 H3 _ (X2.asg m3 fun a ha => .inr (E2.none_of (k3 a ha).2.2)) U3
    · exact h3.elim
  · exact h3.elim
end
end DP
end
section
set_option Elab.async false
set_option linter.all false
set_option maxRecDepth 100000
set_option maxHeartbeats 4000000
/-! the walk of law_k15, printed. -/
namespace DP
namespace k15
open PySem PySem.Spec PyProof.Rows L2
def top (i : Nat) : Stmt := PySem.Challenge.pw_carwires_k15_whole_cheapest_gauges.main.body.getD i (.Pass ⟨0, 0, 0, 0⟩)
def df_currents : He.DefD := ⟨("currents", none), "currents", "currents", defArgs (top 26), defBody (top 26), defScope (top 26), [], []⟩
def df_is_whole : He.DefD := ⟨("is_whole", none), "is_whole", "is_whole", defArgs (top 9), defBody (top 9), defScope (top 9), [], []⟩
def df_is_within : He.DefD := ⟨("is_within", none), "is_within", "is_within", defArgs (top 10), defBody (top 10), defScope (top 10), [], []⟩
def df_is_row : He.DefD := ⟨("is_row", none), "is_row", "is_row", defArgs (top 12), defBody (top 12), defScope (top 12), [], []⟩
def df_is_name : He.DefD := ⟨("is_name", none), "is_name", "is_name", defArgs (top 11), defBody (top 11), defScope (top 11), [], []⟩
def df_names_in : He.DefD := ⟨("names_in", none), "names_in", "names_in", defArgs (top 16), defBody (top 16), defScope (top 16), [], []⟩
def df_is_wire : He.DefD := ⟨("is_wire", none), "is_wire", "is_wire", defArgs (top 24), defBody (top 24), defScope (top 24), [], []⟩
def df_is_gauge : He.DefD := ⟨("is_gauge", none), "is_gauge", "is_gauge", defArgs (top 32), defBody (top 32), defScope (top 32), [], []⟩
def df_first_wrong : He.DefD := ⟨("first_wrong", none), "first_wrong", "first_wrong", defArgs (top 13), defBody (top 13), defScope (top 13), [], []⟩
def df_require_gauges : He.DefD := ⟨("require_gauges", none), "require_gauges", "require_gauges", defArgs (top 33), defBody (top 33), defScope (top 33), [], []⟩
def df_sum_told : He.DefD := ⟨("sum_told", none), "sum_told", "sum_told", defArgs (top 35), defBody (top 35), defScope (top 35), [], []⟩
def df_children : He.DefD := ⟨("children", none), "children", "children", defArgs (top 34), defBody (top 34), defScope (top 34), [], []⟩
def df_choices : He.DefD := ⟨("choices", none), "choices", "choices", defArgs (top 36), defBody (top 36), defScope (top 36), [], []⟩
def df_tables : He.DefD := ⟨("tables", none), "tables", "tables", defArgs (top 37), defBody (top 37), defScope (top 37), [], []⟩
def df_least_cost : He.DefD := ⟨("least_cost", none), "least_cost", "least_cost", defArgs (top 38), defBody (top 38), defScope (top 38), [], []⟩
def df_cheapest : He.DefD := ⟨("cheapest", none), "cheapest", "cheapest", defArgs (top 39), defBody (top 39), defScope (top 39), [], []⟩
def df_law_taken : He.DefD := ⟨("_law_taken", none), "_law_taken", "_law_taken", defArgs (top 49), defBody (top 49), defScope (top 49), [], []⟩
def df_law_pick : He.DefD := ⟨("_law_pick", none), "_law_pick", "_law_pick", defArgs (top 50), defBody (top 50), defScope (top 50), [], []⟩
def df_law_names : He.DefD := ⟨("_law_names", none), "_law_names", "_law_names", defArgs (top 52), defBody (top 52), defScope (top 52), [], []⟩
def df_law_harness : He.DefD := ⟨("_law_harness", none), "_law_harness", "_law_harness", defArgs (top 53), defBody (top 53), defScope (top 53), [], []⟩
def df_law_gauges : He.DefD := ⟨("_law_gauges", none), "_law_gauges", "_law_gauges", defArgs (top 56), defBody (top 56), defScope (top 56), [], []⟩
def df_require_part : He.DefD := ⟨("require_part", none), "require_part", "require_part", defArgs (top 15), defBody (top 15), defScope (top 15), [], []⟩
def df_Harness_init : He.DefD := ⟨("Harness", some "__init__"), "__init__", "Harness.__init__", defArgs (inClass (top 25) 0), defBody (inClass (top 25) 0), defScope (inClass (top 25) 0), [], []⟩
def df_law_path : He.DefD := ⟨("_law_path", none), "_law_path", "_law_path", defArgs (top 54), defBody (top 54), defScope (top 54), [], []⟩
def df_law_flows : He.DefD := ⟨("_law_flows", none), "_law_flows", "_law_flows", defArgs (top 55), defBody (top 55), defScope (top 55), [], []⟩
def df_law_kids : He.DefD := ⟨("_law_kids", none), "_law_kids", "_law_kids", defArgs (top 58), defBody (top 58), defScope (top 58), [], []⟩
def df_law_least_tables : He.DefD := ⟨("_law_least_tables", none), "_law_least_tables", "_law_least_tables", defArgs (top 59), defBody (top 59), defScope (top 59), [], []⟩
def df_law_alike : He.DefD := ⟨("_law_alike", none), "_law_alike", "_law_alike", defArgs (top 51), defBody (top 51), defScope (top 51), [], []⟩
def df_are_gauges : He.DefD := ⟨("are_gauges", none), "are_gauges", "are_gauges", defArgs (top 40), defBody (top 40), defScope (top 40), [], []⟩
def df_is_below : He.DefD := ⟨("is_below", none), "is_below", "is_below", defArgs (top 44), defBody (top 44), defScope (top 44), [], []⟩
def df_is_entry : He.DefD := ⟨("is_entry", none), "is_entry", "is_entry", defArgs (top 42), defBody (top 42), defScope (top 42), [], []⟩
def df_is_table_row : He.DefD := ⟨("is_table_row", none), "is_table_row", "is_table_row", defArgs (top 43), defBody (top 43), defScope (top 43), [], []⟩
def df_are_lower : He.DefD := ⟨("are_lower", none), "are_lower", "are_lower", defArgs (top 45), defBody (top 45), defScope (top 45), [], []⟩
def df_cost_of : He.DefD := ⟨("cost_of", none), "cost_of", "cost_of", defArgs (top 41), defBody (top 41), defScope (top 41), [], []⟩
def df_shows_cheapest : He.DefD := ⟨("shows_cheapest", none), "shows_cheapest", "shows_cheapest", defArgs (top 46), defBody (top 46), defScope (top 46), [], []⟩
def df_least_limit : He.DefD := ⟨("least_limit", none), "least_limit", "least_limit", defArgs (top 47), defBody (top 47), defScope (top 47), [], []⟩
def df_law_fits : He.DefD := ⟨("_law_fits", none), "_law_fits", "_law_fits", defArgs (top 57), defBody (top 57), defScope (top 57), [], []⟩
def df_law : He.DefD := ⟨("law", none), "law", "law", defArgs (top 60), defBody (top 60), defScope (top 60), [], []⟩
def fn_ : List He.DefD := [df_currents, df_is_whole, df_is_within, df_is_row, df_is_name, df_names_in, df_is_wire, df_is_gauge, df_first_wrong, df_require_gauges, df_sum_told, df_children, df_choices, df_tables, df_least_cost, df_cheapest, df_law_taken, df_law_pick, df_law_names, df_law_harness, df_law_gauges, df_require_part, df_Harness_init, df_law_path, df_law_flows, df_law_kids, df_law_least_tables, df_law_alike, df_are_gauges, df_is_below, df_is_entry, df_is_table_row, df_are_lower, df_cost_of, df_shows_cheapest, df_least_limit, df_law_fits, df_law]
def fa_ : List He.Fa := [.cls "Harness", .noat "Harness" "rows", .free "len", .free "range", .str "ROOT" "source", .noat "Harness" "names", .free "tuple", .glo "currents", .free "int", .free "isinstance", .free "bool", .glo "is_whole", .glo "is_within", .glo "is_row", .free "str", .int "LONGEST" (8), .str "LETTERS" "abcdefghijklmnopqrstuvwxyz", .free "all", .glo "is_name", .glo "names_in", .int "MOST_OHMS_harness" (99), .int "MOST_LOAD" (99), .int "MOST_FUSE" (999), .glo "is_wire", .int "MOST_OHMS_gauges" (99), .int "MOST_COST" (99), .glo "is_gauge", .free "enumerate", .glo "first_wrong", .int "MOST_GAUGES" (5), .int "MOST_LIMIT" (300), .glo "require_gauges", .free "any", .free "sum", .glo "sum_told", .glo "children", .glo "choices", .free "min", .glo "tables", .glo "least_cost", .glo "cheapest", .glo "_law_taken", .glo "_law_pick", .glo "_law_names", .glo "_law_harness", .glo "_law_gauges", .glo "require_part", .int "MOST_WIRES" (10), .int "MOST_VOLTS" (99999), .noat "Harness" "volts", .noat "Harness" "limit", .mkr "Harness", .glo "Harness", .glo "_law_path", .glo "_law_flows", .glo "_law_kids", .glo "_law_least_tables", .free "list", .glo "_law_alike", .glo "are_gauges", .glo "is_below", .glo "is_entry", .glo "is_table_row", .glo "are_lower", .glo "cost_of", .glo "shows_cheapest", .free "zip", .free "max", .glo "least_limit", .glo "_law_fits", .glo "law"]
structure Tx (K : PySem.W.Frag) (mg : Str → Option Value) : Prop where
  c_Harness : Cls K (He.ga K "Harness")
  n_Harness_rows : NoAttr K (He.ga K "Harness") "rows"
  b_len : mg ("len" : Str) = none
  b_range : mg ("range" : Str) = none
  s_ROOT : ∃ t, mg ("ROOT" : Str) = some (.str ("source" : Str) t)
  n_Harness_names : NoAttr K (He.ga K "Harness") "names"
  b_tuple : mg ("tuple" : Str) = none
  g_currents : mg ("currents" : Str) = some (.ref (He.ga K "currents"))
  b_int : mg ("int" : Str) = none
  b_isinstance : mg ("isinstance" : Str) = none
  b_bool : mg ("bool" : Str) = none
  g_is_whole : mg ("is_whole" : Str) = some (.ref (He.ga K "is_whole"))
  g_is_within : mg ("is_within" : Str) = some (.ref (He.ga K "is_within"))
  g_is_row : mg ("is_row" : Str) = some (.ref (He.ga K "is_row"))
  b_str : mg ("str" : Str) = none
  i_LONGEST : ∃ t, mg ("LONGEST" : Str) = some (.int (8) t)
  s_LETTERS : ∃ t, mg ("LETTERS" : Str) = some (.str ("abcdefghijklmnopqrstuvwxyz" : Str) t)
  b_all : mg ("all" : Str) = none
  g_is_name : mg ("is_name" : Str) = some (.ref (He.ga K "is_name"))
  g_names_in : mg ("names_in" : Str) = some (.ref (He.ga K "names_in"))
  i_MOST_OHMS_harness : ∃ t, mg ("MOST_OHMS_harness" : Str) = some (.int (99) t)
  i_MOST_LOAD : ∃ t, mg ("MOST_LOAD" : Str) = some (.int (99) t)
  i_MOST_FUSE : ∃ t, mg ("MOST_FUSE" : Str) = some (.int (999) t)
  g_is_wire : mg ("is_wire" : Str) = some (.ref (He.ga K "is_wire"))
  i_MOST_OHMS_gauges : ∃ t, mg ("MOST_OHMS_gauges" : Str) = some (.int (99) t)
  i_MOST_COST : ∃ t, mg ("MOST_COST" : Str) = some (.int (99) t)
  g_is_gauge : mg ("is_gauge" : Str) = some (.ref (He.ga K "is_gauge"))
  b_enumerate : mg ("enumerate" : Str) = none
  g_first_wrong : mg ("first_wrong" : Str) = some (.ref (He.ga K "first_wrong"))
  i_MOST_GAUGES : ∃ t, mg ("MOST_GAUGES" : Str) = some (.int (5) t)
  i_MOST_LIMIT : ∃ t, mg ("MOST_LIMIT" : Str) = some (.int (300) t)
  g_require_gauges : mg ("require_gauges" : Str) = some (.ref (He.ga K "require_gauges"))
  b_any : mg ("any" : Str) = none
  b_sum : mg ("sum" : Str) = none
  g_sum_told : mg ("sum_told" : Str) = some (.ref (He.ga K "sum_told"))
  g_children : mg ("children" : Str) = some (.ref (He.ga K "children"))
  g_choices : mg ("choices" : Str) = some (.ref (He.ga K "choices"))
  b_min : mg ("min" : Str) = none
  g_tables : mg ("tables" : Str) = some (.ref (He.ga K "tables"))
  g_least_cost : mg ("least_cost" : Str) = some (.ref (He.ga K "least_cost"))
  g_cheapest : mg ("cheapest" : Str) = some (.ref (He.ga K "cheapest"))
  g__law_taken : mg ("_law_taken" : Str) = some (.ref (He.ga K "_law_taken"))
  g__law_pick : mg ("_law_pick" : Str) = some (.ref (He.ga K "_law_pick"))
  g__law_names : mg ("_law_names" : Str) = some (.ref (He.ga K "_law_names"))
  g__law_harness : mg ("_law_harness" : Str) = some (.ref (He.ga K "_law_harness"))
  g__law_gauges : mg ("_law_gauges" : Str) = some (.ref (He.ga K "_law_gauges"))
  g_require_part : mg ("require_part" : Str) = some (.ref (He.ga K "require_part"))
  i_MOST_WIRES : ∃ t, mg ("MOST_WIRES" : Str) = some (.int (10) t)
  i_MOST_VOLTS : ∃ t, mg ("MOST_VOLTS" : Str) = some (.int (99999) t)
  n_Harness_volts : NoAttr K (He.ga K "Harness") "volts"
  n_Harness_limit : NoAttr K (He.ga K "Harness") "limit"
  k_Harness : Mk K (He.ga K "Harness") (He.ma K (He.ga K "Harness") "__init__")
  g_Harness : mg ("Harness" : Str) = some (.ref (He.ga K "Harness"))
  g__law_path : mg ("_law_path" : Str) = some (.ref (He.ga K "_law_path"))
  g__law_flows : mg ("_law_flows" : Str) = some (.ref (He.ga K "_law_flows"))
  g__law_kids : mg ("_law_kids" : Str) = some (.ref (He.ga K "_law_kids"))
  g__law_least_tables : mg ("_law_least_tables" : Str) = some (.ref (He.ga K "_law_least_tables"))
  b_list : mg ("list" : Str) = none
  g__law_alike : mg ("_law_alike" : Str) = some (.ref (He.ga K "_law_alike"))
  g_are_gauges : mg ("are_gauges" : Str) = some (.ref (He.ga K "are_gauges"))
  g_is_below : mg ("is_below" : Str) = some (.ref (He.ga K "is_below"))
  g_is_entry : mg ("is_entry" : Str) = some (.ref (He.ga K "is_entry"))
  g_is_table_row : mg ("is_table_row" : Str) = some (.ref (He.ga K "is_table_row"))
  g_are_lower : mg ("are_lower" : Str) = some (.ref (He.ga K "are_lower"))
  g_cost_of : mg ("cost_of" : Str) = some (.ref (He.ga K "cost_of"))
  g_shows_cheapest : mg ("shows_cheapest" : Str) = some (.ref (He.ga K "shows_cheapest"))
  b_zip : mg ("zip" : Str) = none
  b_max : mg ("max" : Str) = none
  g_least_limit : mg ("least_limit" : Str) = some (.ref (He.ga K "least_limit"))
  g__law_fits : mg ("_law_fits" : Str) = some (.ref (He.ga K "_law_fits"))
  g_law : mg ("law" : Str) = some (.ref (He.ga K "law"))
  d_currents : ∃ fd, FunD K "currents" "currents" (defArgs (top 26)) (defBody (top 26)) (defScope (top 26)) [] [] (He.fAd K ("currents", none)) fd
  d_is_whole : ∃ fd, FunD K "is_whole" "is_whole" (defArgs (top 9)) (defBody (top 9)) (defScope (top 9)) [] [] (He.fAd K ("is_whole", none)) fd
  d_is_within : ∃ fd, FunD K "is_within" "is_within" (defArgs (top 10)) (defBody (top 10)) (defScope (top 10)) [] [] (He.fAd K ("is_within", none)) fd
  d_is_row : ∃ fd, FunD K "is_row" "is_row" (defArgs (top 12)) (defBody (top 12)) (defScope (top 12)) [] [] (He.fAd K ("is_row", none)) fd
  d_is_name : ∃ fd, FunD K "is_name" "is_name" (defArgs (top 11)) (defBody (top 11)) (defScope (top 11)) [] [] (He.fAd K ("is_name", none)) fd
  d_names_in : ∃ fd, FunD K "names_in" "names_in" (defArgs (top 16)) (defBody (top 16)) (defScope (top 16)) [] [] (He.fAd K ("names_in", none)) fd
  d_is_wire : ∃ fd, FunD K "is_wire" "is_wire" (defArgs (top 24)) (defBody (top 24)) (defScope (top 24)) [] [] (He.fAd K ("is_wire", none)) fd
  d_is_gauge : ∃ fd, FunD K "is_gauge" "is_gauge" (defArgs (top 32)) (defBody (top 32)) (defScope (top 32)) [] [] (He.fAd K ("is_gauge", none)) fd
  d_first_wrong : ∃ fd, FunD K "first_wrong" "first_wrong" (defArgs (top 13)) (defBody (top 13)) (defScope (top 13)) [] [] (He.fAd K ("first_wrong", none)) fd
  d_require_gauges : ∃ fd, FunD K "require_gauges" "require_gauges" (defArgs (top 33)) (defBody (top 33)) (defScope (top 33)) [] [] (He.fAd K ("require_gauges", none)) fd
  d_sum_told : ∃ fd, FunD K "sum_told" "sum_told" (defArgs (top 35)) (defBody (top 35)) (defScope (top 35)) [] [] (He.fAd K ("sum_told", none)) fd
  d_children : ∃ fd, FunD K "children" "children" (defArgs (top 34)) (defBody (top 34)) (defScope (top 34)) [] [] (He.fAd K ("children", none)) fd
  d_choices : ∃ fd, FunD K "choices" "choices" (defArgs (top 36)) (defBody (top 36)) (defScope (top 36)) [] [] (He.fAd K ("choices", none)) fd
  d_tables : ∃ fd, FunD K "tables" "tables" (defArgs (top 37)) (defBody (top 37)) (defScope (top 37)) [] [] (He.fAd K ("tables", none)) fd
  d_least_cost : ∃ fd, FunD K "least_cost" "least_cost" (defArgs (top 38)) (defBody (top 38)) (defScope (top 38)) [] [] (He.fAd K ("least_cost", none)) fd
  d_cheapest : ∃ fd, FunD K "cheapest" "cheapest" (defArgs (top 39)) (defBody (top 39)) (defScope (top 39)) [] [] (He.fAd K ("cheapest", none)) fd
  d_law_taken : ∃ fd, FunD K "_law_taken" "_law_taken" (defArgs (top 49)) (defBody (top 49)) (defScope (top 49)) [] [] (He.fAd K ("_law_taken", none)) fd
  d_law_pick : ∃ fd, FunD K "_law_pick" "_law_pick" (defArgs (top 50)) (defBody (top 50)) (defScope (top 50)) [] [] (He.fAd K ("_law_pick", none)) fd
  d_law_names : ∃ fd, FunD K "_law_names" "_law_names" (defArgs (top 52)) (defBody (top 52)) (defScope (top 52)) [] [] (He.fAd K ("_law_names", none)) fd
  d_law_harness : ∃ fd, FunD K "_law_harness" "_law_harness" (defArgs (top 53)) (defBody (top 53)) (defScope (top 53)) [] [] (He.fAd K ("_law_harness", none)) fd
  d_law_gauges : ∃ fd, FunD K "_law_gauges" "_law_gauges" (defArgs (top 56)) (defBody (top 56)) (defScope (top 56)) [] [] (He.fAd K ("_law_gauges", none)) fd
  d_require_part : ∃ fd, FunD K "require_part" "require_part" (defArgs (top 15)) (defBody (top 15)) (defScope (top 15)) [] [] (He.fAd K ("require_part", none)) fd
  d_Harness_init : ∃ fd, FunD K "__init__" "Harness.__init__" (defArgs (inClass (top 25) 0)) (defBody (inClass (top 25) 0)) (defScope (inClass (top 25) 0)) [] [] (He.fAd K ("Harness", some "__init__")) fd
  d_law_path : ∃ fd, FunD K "_law_path" "_law_path" (defArgs (top 54)) (defBody (top 54)) (defScope (top 54)) [] [] (He.fAd K ("_law_path", none)) fd
  d_law_flows : ∃ fd, FunD K "_law_flows" "_law_flows" (defArgs (top 55)) (defBody (top 55)) (defScope (top 55)) [] [] (He.fAd K ("_law_flows", none)) fd
  d_law_kids : ∃ fd, FunD K "_law_kids" "_law_kids" (defArgs (top 58)) (defBody (top 58)) (defScope (top 58)) [] [] (He.fAd K ("_law_kids", none)) fd
  d_law_least_tables : ∃ fd, FunD K "_law_least_tables" "_law_least_tables" (defArgs (top 59)) (defBody (top 59)) (defScope (top 59)) [] [] (He.fAd K ("_law_least_tables", none)) fd
  d_law_alike : ∃ fd, FunD K "_law_alike" "_law_alike" (defArgs (top 51)) (defBody (top 51)) (defScope (top 51)) [] [] (He.fAd K ("_law_alike", none)) fd
  d_are_gauges : ∃ fd, FunD K "are_gauges" "are_gauges" (defArgs (top 40)) (defBody (top 40)) (defScope (top 40)) [] [] (He.fAd K ("are_gauges", none)) fd
  d_is_below : ∃ fd, FunD K "is_below" "is_below" (defArgs (top 44)) (defBody (top 44)) (defScope (top 44)) [] [] (He.fAd K ("is_below", none)) fd
  d_is_entry : ∃ fd, FunD K "is_entry" "is_entry" (defArgs (top 42)) (defBody (top 42)) (defScope (top 42)) [] [] (He.fAd K ("is_entry", none)) fd
  d_is_table_row : ∃ fd, FunD K "is_table_row" "is_table_row" (defArgs (top 43)) (defBody (top 43)) (defScope (top 43)) [] [] (He.fAd K ("is_table_row", none)) fd
  d_are_lower : ∃ fd, FunD K "are_lower" "are_lower" (defArgs (top 45)) (defBody (top 45)) (defScope (top 45)) [] [] (He.fAd K ("are_lower", none)) fd
  d_cost_of : ∃ fd, FunD K "cost_of" "cost_of" (defArgs (top 41)) (defBody (top 41)) (defScope (top 41)) [] [] (He.fAd K ("cost_of", none)) fd
  d_shows_cheapest : ∃ fd, FunD K "shows_cheapest" "shows_cheapest" (defArgs (top 46)) (defBody (top 46)) (defScope (top 46)) [] [] (He.fAd K ("shows_cheapest", none)) fd
  d_least_limit : ∃ fd, FunD K "least_limit" "least_limit" (defArgs (top 47)) (defBody (top 47)) (defScope (top 47)) [] [] (He.fAd K ("least_limit", none)) fd
  d_law_fits : ∃ fd, FunD K "_law_fits" "_law_fits" (defArgs (top 57)) (defBody (top 57)) (defScope (top 57)) [] [] (He.fAd K ("_law_fits", none)) fd
  d_law : ∃ fd, FunD K "law" "law" (defArgs (top 60)) (defBody (top 60)) (defScope (top 60)) [] [] (He.fAd K ("law", none)) fd
theorem tx_of {K : PySem.W.Frag} {h : Heap} {mg : Str → Option Value} (X : K.In h) (G : h.Ns mainGlobals mg) (c : He.SaysD fa_ fn_ K) : Tx K mg where
  c_Harness := He.cls_ok (c.fact 0 (f := .cls "Harness") rfl)
  n_Harness_rows := He.noat_ok (c.fact 1 (f := .noat "Harness" "rows") rfl)
  b_len := He.free_ok X G (c.fact 2 (f := .free "len") rfl)
  b_range := He.free_ok X G (c.fact 3 (f := .free "range") rfl)
  s_ROOT := He.str_ok X G (c.fact 4 (f := .str "ROOT" "source") rfl)
  n_Harness_names := He.noat_ok (c.fact 5 (f := .noat "Harness" "names") rfl)
  b_tuple := He.free_ok X G (c.fact 6 (f := .free "tuple") rfl)
  g_currents := He.glo_ok X G (c.fact 7 (f := .glo "currents") rfl)
  b_int := He.free_ok X G (c.fact 8 (f := .free "int") rfl)
  b_isinstance := He.free_ok X G (c.fact 9 (f := .free "isinstance") rfl)
  b_bool := He.free_ok X G (c.fact 10 (f := .free "bool") rfl)
  g_is_whole := He.glo_ok X G (c.fact 11 (f := .glo "is_whole") rfl)
  g_is_within := He.glo_ok X G (c.fact 12 (f := .glo "is_within") rfl)
  g_is_row := He.glo_ok X G (c.fact 13 (f := .glo "is_row") rfl)
  b_str := He.free_ok X G (c.fact 14 (f := .free "str") rfl)
  i_LONGEST := He.int_ok X G (c.fact 15 (f := .int "LONGEST" (8)) rfl)
  s_LETTERS := He.str_ok X G (c.fact 16 (f := .str "LETTERS" "abcdefghijklmnopqrstuvwxyz") rfl)
  b_all := He.free_ok X G (c.fact 17 (f := .free "all") rfl)
  g_is_name := He.glo_ok X G (c.fact 18 (f := .glo "is_name") rfl)
  g_names_in := He.glo_ok X G (c.fact 19 (f := .glo "names_in") rfl)
  i_MOST_OHMS_harness := He.int_ok X G (c.fact 20 (f := .int "MOST_OHMS_harness" (99)) rfl)
  i_MOST_LOAD := He.int_ok X G (c.fact 21 (f := .int "MOST_LOAD" (99)) rfl)
  i_MOST_FUSE := He.int_ok X G (c.fact 22 (f := .int "MOST_FUSE" (999)) rfl)
  g_is_wire := He.glo_ok X G (c.fact 23 (f := .glo "is_wire") rfl)
  i_MOST_OHMS_gauges := He.int_ok X G (c.fact 24 (f := .int "MOST_OHMS_gauges" (99)) rfl)
  i_MOST_COST := He.int_ok X G (c.fact 25 (f := .int "MOST_COST" (99)) rfl)
  g_is_gauge := He.glo_ok X G (c.fact 26 (f := .glo "is_gauge") rfl)
  b_enumerate := He.free_ok X G (c.fact 27 (f := .free "enumerate") rfl)
  g_first_wrong := He.glo_ok X G (c.fact 28 (f := .glo "first_wrong") rfl)
  i_MOST_GAUGES := He.int_ok X G (c.fact 29 (f := .int "MOST_GAUGES" (5)) rfl)
  i_MOST_LIMIT := He.int_ok X G (c.fact 30 (f := .int "MOST_LIMIT" (300)) rfl)
  g_require_gauges := He.glo_ok X G (c.fact 31 (f := .glo "require_gauges") rfl)
  b_any := He.free_ok X G (c.fact 32 (f := .free "any") rfl)
  b_sum := He.free_ok X G (c.fact 33 (f := .free "sum") rfl)
  g_sum_told := He.glo_ok X G (c.fact 34 (f := .glo "sum_told") rfl)
  g_children := He.glo_ok X G (c.fact 35 (f := .glo "children") rfl)
  g_choices := He.glo_ok X G (c.fact 36 (f := .glo "choices") rfl)
  b_min := He.free_ok X G (c.fact 37 (f := .free "min") rfl)
  g_tables := He.glo_ok X G (c.fact 38 (f := .glo "tables") rfl)
  g_least_cost := He.glo_ok X G (c.fact 39 (f := .glo "least_cost") rfl)
  g_cheapest := He.glo_ok X G (c.fact 40 (f := .glo "cheapest") rfl)
  g__law_taken := He.glo_ok X G (c.fact 41 (f := .glo "_law_taken") rfl)
  g__law_pick := He.glo_ok X G (c.fact 42 (f := .glo "_law_pick") rfl)
  g__law_names := He.glo_ok X G (c.fact 43 (f := .glo "_law_names") rfl)
  g__law_harness := He.glo_ok X G (c.fact 44 (f := .glo "_law_harness") rfl)
  g__law_gauges := He.glo_ok X G (c.fact 45 (f := .glo "_law_gauges") rfl)
  g_require_part := He.glo_ok X G (c.fact 46 (f := .glo "require_part") rfl)
  i_MOST_WIRES := He.int_ok X G (c.fact 47 (f := .int "MOST_WIRES" (10)) rfl)
  i_MOST_VOLTS := He.int_ok X G (c.fact 48 (f := .int "MOST_VOLTS" (99999)) rfl)
  n_Harness_volts := He.noat_ok (c.fact 49 (f := .noat "Harness" "volts") rfl)
  n_Harness_limit := He.noat_ok (c.fact 50 (f := .noat "Harness" "limit") rfl)
  k_Harness := He.mkr_ok (c.fact 51 (f := .mkr "Harness") rfl)
  g_Harness := He.glo_ok X G (c.fact 52 (f := .glo "Harness") rfl)
  g__law_path := He.glo_ok X G (c.fact 53 (f := .glo "_law_path") rfl)
  g__law_flows := He.glo_ok X G (c.fact 54 (f := .glo "_law_flows") rfl)
  g__law_kids := He.glo_ok X G (c.fact 55 (f := .glo "_law_kids") rfl)
  g__law_least_tables := He.glo_ok X G (c.fact 56 (f := .glo "_law_least_tables") rfl)
  b_list := He.free_ok X G (c.fact 57 (f := .free "list") rfl)
  g__law_alike := He.glo_ok X G (c.fact 58 (f := .glo "_law_alike") rfl)
  g_are_gauges := He.glo_ok X G (c.fact 59 (f := .glo "are_gauges") rfl)
  g_is_below := He.glo_ok X G (c.fact 60 (f := .glo "is_below") rfl)
  g_is_entry := He.glo_ok X G (c.fact 61 (f := .glo "is_entry") rfl)
  g_is_table_row := He.glo_ok X G (c.fact 62 (f := .glo "is_table_row") rfl)
  g_are_lower := He.glo_ok X G (c.fact 63 (f := .glo "are_lower") rfl)
  g_cost_of := He.glo_ok X G (c.fact 64 (f := .glo "cost_of") rfl)
  g_shows_cheapest := He.glo_ok X G (c.fact 65 (f := .glo "shows_cheapest") rfl)
  b_zip := He.free_ok X G (c.fact 66 (f := .free "zip") rfl)
  b_max := He.free_ok X G (c.fact 67 (f := .free "max") rfl)
  g_least_limit := He.glo_ok X G (c.fact 68 (f := .glo "least_limit") rfl)
  g__law_fits := He.glo_ok X G (c.fact 69 (f := .glo "_law_fits") rfl)
  g_law := He.glo_ok X G (c.fact 70 (f := .glo "law") rfl)
  d_currents := c.def_ 0 (d := df_currents) rfl
  d_is_whole := c.def_ 1 (d := df_is_whole) rfl
  d_is_within := c.def_ 2 (d := df_is_within) rfl
  d_is_row := c.def_ 3 (d := df_is_row) rfl
  d_is_name := c.def_ 4 (d := df_is_name) rfl
  d_names_in := c.def_ 5 (d := df_names_in) rfl
  d_is_wire := c.def_ 6 (d := df_is_wire) rfl
  d_is_gauge := c.def_ 7 (d := df_is_gauge) rfl
  d_first_wrong := c.def_ 8 (d := df_first_wrong) rfl
  d_require_gauges := c.def_ 9 (d := df_require_gauges) rfl
  d_sum_told := c.def_ 10 (d := df_sum_told) rfl
  d_children := c.def_ 11 (d := df_children) rfl
  d_choices := c.def_ 12 (d := df_choices) rfl
  d_tables := c.def_ 13 (d := df_tables) rfl
  d_least_cost := c.def_ 14 (d := df_least_cost) rfl
  d_cheapest := c.def_ 15 (d := df_cheapest) rfl
  d_law_taken := c.def_ 16 (d := df_law_taken) rfl
  d_law_pick := c.def_ 17 (d := df_law_pick) rfl
  d_law_names := c.def_ 18 (d := df_law_names) rfl
  d_law_harness := c.def_ 19 (d := df_law_harness) rfl
  d_law_gauges := c.def_ 20 (d := df_law_gauges) rfl
  d_require_part := c.def_ 21 (d := df_require_part) rfl
  d_Harness_init := c.def_ 22 (d := df_Harness_init) rfl
  d_law_path := c.def_ 23 (d := df_law_path) rfl
  d_law_flows := c.def_ 24 (d := df_law_flows) rfl
  d_law_kids := c.def_ 25 (d := df_law_kids) rfl
  d_law_least_tables := c.def_ 26 (d := df_law_least_tables) rfl
  d_law_alike := c.def_ 27 (d := df_law_alike) rfl
  d_are_gauges := c.def_ 28 (d := df_are_gauges) rfl
  d_is_below := c.def_ 29 (d := df_is_below) rfl
  d_is_entry := c.def_ 30 (d := df_is_entry) rfl
  d_is_table_row := c.def_ 31 (d := df_is_table_row) rfl
  d_are_lower := c.def_ 32 (d := df_are_lower) rfl
  d_cost_of := c.def_ 33 (d := df_cost_of) rfl
  d_shows_cheapest := c.def_ 34 (d := df_shows_cheapest) rfl
  d_least_limit := c.def_ 35 (d := df_least_limit) rfl
  d_law_fits := c.def_ 36 (d := df_law_fits) rfl
  d_law := c.def_ 37 (d := df_law) rfl
section
variable {P : Program} {w : World} {K : PySem.W.Frag} {mg : Str → Option Value} {base : Heap}
abbrev s_currents : Stmt := top 26
abbrev N_currents : List Str := ["harness", "found", "place", "row"]
theorem sc_currents : FnScope N_currents ["harness"] (defScope s_currents) := ⟨rfl, rfl, rfl, by decide +kernel, rfl, by decide +kernel, by decide +kernel⟩
noncomputable def lc_currents_0 : M W := mLc [3] (mSeq (mFld ["Harness"] "rows" (mV 0))) (tgN 3) (ret true) (m2 (rd2 gIx) (mV 3) (mC (.int 3)))
noncomputable def bo_currents_1 : M Fl := sIf (mB (m2 fNe (m2 (rd2 gIx) (m2 (rd2 gIx) (mFld ["Harness"] "rows" (mV 0)) (mV 2)) (mC (.int 1))) (mC (.str "source")))) (sAugL (fun i j => i + j) (mV 1) (mIdxT (mFld ["Harness"] "names" (mV 0)) (aCons (m2 (rd2 gIx) (m2 (rd2 gIx) (mFld ["Harness"] "rows" (mV 0)) (mV 2)) (mC (.int 1))) (aNil))) (m2 (rd2 gIx) (mV 1) (mV 2))) (sNx)
noncomputable def fo_currents_2 : M Fl := sFor (mRng3 (aCons (m2 fSub (bnd (aCons (mV 1) (aNil)) (rd1 gLen)) (mC (.int 1))) (aCons (mNeg (mC (.int 1))) (aCons (mNeg (mC (.int 1))) (aNil))))) (tgN 2) (bo_currents_1)
noncomputable def m_currents : M Fl := sSeq (sSet 1 (lc_currents_0)) (sSeq (fo_currents_2) (sRet (bnd (aCons (mV 1) (aNil)) fTupOf)))
noncomputable def fn_currents : Fn := mkFn 4 m_currents
theorem b_currents (t : Tx K mg) : Body P w K mg base (TT K) 0 N_currents "currents" (defBody s_currents) (defScope s_currents) m_currents := fun p f cdv A outer s H E hr => dss_cons (ds_setLc 1 (own := [("row", 3)]) rfl sc_currents.nd (di_seq (de_fld (f := "rows") (de_v 0) (fld_of t.c_Harness t.n_Harness_rows))) (by rfl) (fun _ _ _ _ _ => dg_n 3 sc_currents.nd) (fun _ _ _ _ _ => dts_nil) (fun _ _ _ _ _ => de_ix (de_v 3) (de_int)) (by decide) (by decide) (hsw := by exact sw_true rfl rfl (by decide) (by rfl))) (dss_cons (ds_for rfl (di_rng3 t.b_range (da_cons (de_op op_sub p_sub (de_callB call_len pl_len t.b_len (da_cons (de_v 1) (da_nil))) (de_int)) (da_cons (de_neg (de_int)) (da_cons (de_neg (de_int)) (da_nil))))) (dg_n 2 sc_currents.nd) (dss_one (ds_if (dt_cmp (op_neD (hu64 hr)) p_ne (de_ix (de_ix (de_fld (f := "rows") (de_v 0) (fld_of t.c_Harness t.n_Harness_rows)) (de_v 2)) (de_int)) (de_gs t.s_ROOT) (by rfl)) (dss_one (ds_augL (de_v 1) (de_idxT hr (de_fld (f := "names") (de_v 0) (fld_of t.c_Harness t.n_Harness_names)) (da_cons (de_ix (de_ix (de_fld (f := "rows") (de_v 0) (fld_of t.c_Harness t.n_Harness_rows)) (de_v 2)) (de_int)) (da_nil))) (de_ix (de_v 1) (de_v 2)) ip_add)) (dss_nil)))) (dss_one (ds_ret (de_callTy call_tupF pl_tupOf t.b_tuple (da_cons (de_v 1) (da_nil))))))
theorem c_currents (t : Tx K mg) : Cal P w K mg base (TT K) 1 "currents" 1 fn_currents [] := cal_of t.d_currents t.g_currents sc_currents (fun _ F => F.bindsN fun _ _ _ _ _ _ us hl => match us, hl with | [_], _ => rfl) (b_currents t)
abbrev s_is_whole : Stmt := top 9
abbrev N_is_whole : List Str := ["value"]
theorem sc_is_whole : FnScope N_is_whole ["value"] (defScope s_is_whole) := ⟨rfl, rfl, rfl, by decide +kernel, rfl, by decide +kernel, by decide +kernel⟩
noncomputable def m_is_whole : M Fl := sRet (mAndV (bnd (aCons (mV 0) (aCons (mC (.ty "int")) (aNil))) (rdL2 gIsi)) (mNotV (bnd (aCons (mV 0) (aCons (mC (.ty "bool")) (aNil))) (rdL2 gIsi))))
noncomputable def fn_is_whole : Fn := mkFn 1 m_is_whole
theorem b_is_whole (t : Tx K mg) : Body P w K mg base (TT K) 0 N_is_whole "is_whole" (defBody s_is_whole) (defScope s_is_whole) m_is_whole := fun p f cdv A outer s H E hr => dss_one (ds_ret (de_and (de_callB call_isi pl_isi t.b_isinstance (da_cons (de_v 0) (da_cons (de_ty t.b_int) (da_nil)))) (de_one (de_not (de_callB call_isi pl_isi t.b_isinstance (da_cons (de_v 0) (da_cons (de_ty t.b_bool) (da_nil))))))))
theorem c_is_whole (t : Tx K mg) : Cal P w K mg base (TT K) 1 "is_whole" 1 fn_is_whole [] := cal_of t.d_is_whole t.g_is_whole sc_is_whole (fun _ F => F.bindsN fun _ _ _ _ _ _ us hl => match us, hl with | [_], _ => rfl) (b_is_whole t)
abbrev s_is_within : Stmt := top 10
abbrev N_is_within : List Str := ["value", "least", "most"]
theorem sc_is_within : FnScope N_is_within ["value", "least", "most"] (defScope s_is_within) := ⟨rfl, rfl, rfl, by decide +kernel, rfl, by decide +kernel, by decide +kernel⟩
noncomputable def m_is_within : M Fl := sRet (mAndV (mCall 1 fn_is_whole [] (aCons (mV 0) (aNil))) (mCh fLe fLe (mV 1) (mV 0) (mV 2)))
noncomputable def fn_is_within : Fn := mkFn 3 m_is_within
theorem b_is_within (t : Tx K mg) : Body P w K mg base (TT K) 1 N_is_within "is_within" (defBody s_is_within) (defScope s_is_within) m_is_within := fun p f cdv A outer s H E hr => dss_one (ds_ret (de_and (de_call ((c_is_whole t).pin p) (hr.mono (by omega)) (da_cons (de_v 0) (da_nil))) (de_one (de_ch op_le p_cmpI op_le p_cmpI (de_v 1) (de_v 0) (de_v 2)))))
theorem c_is_within (t : Tx K mg) : Cal P w K mg base (TT K) 2 "is_within" 3 fn_is_within [] := cal_of t.d_is_within t.g_is_within sc_is_within (fun _ F => F.bindsN fun _ _ _ _ _ _ us hl => match us, hl with | [_, _, _], _ => rfl) (b_is_within t)
abbrev s_is_row : Stmt := top 12
abbrev N_is_row : List Str := ["value", "size"]
theorem sc_is_row : FnScope N_is_row ["value", "size"] (defScope s_is_row) := ⟨rfl, rfl, rfl, by decide +kernel, rfl, by decide +kernel, by decide +kernel⟩
noncomputable def m_is_row : M Fl := sRet (mAndV (bnd (aCons (mV 0) (aCons (mC (.ty "tuple")) (aNil))) (rdL2 gIsi)) (m2 fEq (bnd (aCons (mV 0) (aNil)) (rd1 gLen)) (mV 1)))
noncomputable def fn_is_row : Fn := mkFn 2 m_is_row
theorem b_is_row (t : Tx K mg) : Body P w K mg base (TT K) 0 N_is_row "is_row" (defBody s_is_row) (defScope s_is_row) m_is_row := fun p f cdv A outer s H E hr => dss_one (ds_ret (de_and (de_callB call_isi pl_isi t.b_isinstance (da_cons (de_v 0) (da_cons (de_ty t.b_tuple) (da_nil)))) (de_one (de_cmp (op_eqD (hu64 hr)) p_eq (de_callB call_len pl_len t.b_len (da_cons (de_v 0) (da_nil))) (de_v 1) (by rfl)))))
theorem c_is_row (t : Tx K mg) : Cal P w K mg base (TT K) 1 "is_row" 2 fn_is_row [] := cal_of t.d_is_row t.g_is_row sc_is_row (fun _ F => F.bindsN fun _ _ _ _ _ _ us hl => match us, hl with | [_, _], _ => rfl) (b_is_row t)
abbrev s_is_name : Stmt := top 11
abbrev N_is_name : List Str := ["value", "sign"]
theorem sc_is_name : FnScope N_is_name ["value"] (defScope s_is_name) := ⟨rfl, rfl, rfl, by decide +kernel, rfl, by decide +kernel, by decide +kernel⟩
noncomputable def lc_is_name_0 : M W := mLc [1] (mSeq (mV 0)) (tgN 1) (ret true) (m2 fIn (mV 1) (mC (.str "abcdefghijklmnopqrstuvwxyz")))
noncomputable def m_is_name : M Fl := sSeq (sIf (mOr (mNot (mB (bnd (aCons (mV 0) (aCons (mC (.ty "str")) (aNil))) (rdL2 gIsi)))) (mNot (mB (mCh fLe fLe (mC (.int 1)) (bnd (aCons (mV 0) (aNil)) (rd1 gLen)) (mC (.int (8))))))) (sRet (mC (.bl false))) (sNx)) (sRet (bnd (aCons (lc_is_name_0) (aNil)) (rd1 gAll)))
noncomputable def fn_is_name : Fn := mkFn 2 m_is_name
theorem b_is_name (t : Tx K mg) : Body P w K mg base (TT K) 0 N_is_name "is_name" (defBody s_is_name) (defScope s_is_name) m_is_name := fun p f cdv A outer s H E hr => dss_cons (ds_if (DW.dt (dw_or (dt_not (dt_val (de_callB call_isi pl_isi t.b_isinstance (da_cons (de_v 0) (da_cons (de_ty t.b_str) (da_nil)))))) (dw_or1 (dt_not (dt_ch op_le p_cmpI op_le p_cmpI (de_int) (de_callB call_len pl_len t.b_len (da_cons (de_v 0) (da_nil))) (de_gi t.i_LONGEST)))))) (dss_one (ds_ret (de_bl))) (dss_nil)) (dss_one (ds_ret (de_callB (cr_all rfl) pl_all t.b_all (da_cons (de_lc (own := [("sign", 1)]) rfl sc_is_name.nd (di_seq (de_v 0)) (by rfl) (fun _ _ _ _ _ => dg_n 1 sc_is_name.nd) (fun _ _ _ _ _ => dts_nil) (fun _ _ _ _ _ => de_cmp (op_inP (hu64 hr)) p_in (de_v 1) (de_gs t.s_LETTERS) (by rfl)) (by decide) (by decide)) (da_nil)))))
theorem c_is_name (t : Tx K mg) : Cal P w K mg base (TT K) 1 "is_name" 1 fn_is_name [] := cal_of t.d_is_name t.g_is_name sc_is_name (fun _ F => F.bindsN fun _ _ _ _ _ _ us hl => match us, hl with | [_], _ => rfl) (b_is_name t)
abbrev s_names_in : Stmt := top 16
abbrev N_names_in : List Str := ["rows", "row"]
theorem sc_names_in : FnScope N_names_in ["rows"] (defScope s_names_in) := ⟨rfl, rfl, rfl, by decide +kernel, rfl, by decide +kernel, by decide +kernel⟩
noncomputable def lc_names_in_0 : M W := mLc [1] (mSeq (mV 0)) (tgN 1) (ret true) (m2 (rd2 gIx) (mV 1) (mC (.int 0)))
noncomputable def m_names_in : M Fl := sRet (bnd (aCons (lc_names_in_0) (aNil)) fTupOf)
noncomputable def fn_names_in : Fn := mkFn 2 m_names_in
theorem b_names_in (t : Tx K mg) : Body P w K mg base (TT K) 0 N_names_in "names_in" (defBody s_names_in) (defScope s_names_in) m_names_in := fun p f cdv A outer s H E hr => dss_one (ds_ret (de_callTy call_tupF pl_tupOf t.b_tuple (da_cons (de_lc (own := [("row", 1)]) rfl sc_names_in.nd (di_seq (de_v 0)) (by rfl) (fun _ _ _ _ _ => dg_n 1 sc_names_in.nd) (fun _ _ _ _ _ => dts_nil) (fun _ _ _ _ _ => de_ix (de_v 1) (de_int)) (by decide) (by decide)) (da_nil))))
theorem c_names_in (t : Tx K mg) : Cal P w K mg base (TT K) 1 "names_in" 1 fn_names_in [] := cal_of t.d_names_in t.g_names_in sc_names_in (fun _ F => F.bindsN fun _ _ _ _ _ _ us hl => match us, hl with | [_], _ => rfl) (b_names_in t)
abbrev s_is_wire : Stmt := top 24
abbrev N_is_wire : List Str := ["row", "ahead"]
theorem sc_is_wire : FnScope N_is_wire ["row", "ahead"] (defScope s_is_wire) := ⟨rfl, rfl, rfl, by decide +kernel, rfl, by decide +kernel, by decide +kernel⟩
noncomputable def m_is_wire : M Fl := sSeq (sIf (mOr (mNot (mB (mCall 2 fn_is_row [] (aCons (mV 0) (aCons (mC (.int 5)) (aNil)))))) (mOr (mNot (mB (mCall 1 fn_is_name [] (aCons (m2 (rd2 gIx) (mV 0) (mC (.int 0))) (aNil))))) (mOr (mB (m2 fEq (m2 (rd2 gIx) (mV 0) (mC (.int 0))) (mC (.str "source")))) (mB (m2 fIn (m2 (rd2 gIx) (mV 0) (mC (.int 0))) (mCall 1 fn_names_in [] (aCons (mV 1) (aNil)))))))) (sRet (mC (.bl false))) (sNx)) (sSeq (sIf (mOr (mNot (mB (mCall 1 fn_is_name [] (aCons (m2 (rd2 gIx) (mV 0) (mC (.int 1))) (aNil))))) (mNot (mOr (mB (m2 fEq (m2 (rd2 gIx) (mV 0) (mC (.int 1))) (mC (.str "source")))) (mB (m2 fIn (m2 (rd2 gIx) (mV 0) (mC (.int 1))) (mCall 1 fn_names_in [] (aCons (mV 1) (aNil)))))))) (sRet (mC (.bl false))) (sNx)) (sSeq (sIf (mOr (mNot (mB (mCall 3 fn_is_within [] (aCons (m2 (rd2 gIx) (mV 0) (mC (.int 2))) (aCons (mC (.int 1)) (aCons (mC (.int (99))) (aNil))))))) (mNot (mB (mCall 3 fn_is_within [] (aCons (m2 (rd2 gIx) (mV 0) (mC (.int 3))) (aCons (mC (.int 0)) (aCons (mC (.int (99))) (aNil)))))))) (sRet (mC (.bl false))) (sNx)) (sRet (mCall 3 fn_is_within [] (aCons (m2 (rd2 gIx) (mV 0) (mC (.int 4))) (aCons (mC (.int 0)) (aCons (mC (.int (999))) (aNil))))))))
noncomputable def fn_is_wire : Fn := mkFn 2 m_is_wire
theorem b_is_wire (t : Tx K mg) : Body P w K mg base (TT K) 2 N_is_wire "is_wire" (defBody s_is_wire) (defScope s_is_wire) m_is_wire := fun p f cdv A outer s H E hr => dss_cons (ds_if (DW.dt (dw_or (dt_not (dt_val (de_call ((c_is_row t).pin p) (hr.mono (by omega)) (da_cons (de_v 0) (da_cons (de_int) (da_nil)))))) (dw_or (dt_not (dt_val (de_call ((c_is_name t).pin p) (hr.mono (by omega)) (da_cons (de_ix (de_v 0) (de_int)) (da_nil))))) (dw_or (dt_cmp (op_eqD (hu64 hr)) p_eq (de_ix (de_v 0) (de_int)) (de_gs t.s_ROOT) (by rfl)) (dw_or1 (dt_cmp (op_inP (hu64 hr)) p_in (de_ix (de_v 0) (de_int)) (de_call ((c_names_in t).pin p) (hr.mono (by omega)) (da_cons (de_v 1) (da_nil))) (by rfl))))))) (dss_one (ds_ret (de_bl))) (dss_nil)) (dss_cons (ds_if (DW.dt (dw_or (dt_not (dt_val (de_call ((c_is_name t).pin p) (hr.mono (by omega)) (da_cons (de_ix (de_v 0) (de_int)) (da_nil))))) (dw_or1 (dt_not (DW.dt (dw_or (dt_cmp (op_eqD (hu64 hr)) p_eq (de_ix (de_v 0) (de_int)) (de_gs t.s_ROOT) (by rfl)) (dw_or1 (dt_cmp (op_inP (hu64 hr)) p_in (de_ix (de_v 0) (de_int)) (de_call ((c_names_in t).pin p) (hr.mono (by omega)) (da_cons (de_v 1) (da_nil))) (by rfl))))))))) (dss_one (ds_ret (de_bl))) (dss_nil)) (dss_cons (ds_if (DW.dt (dw_or (dt_not (dt_val (de_call ((c_is_within t).pin p) (hr.mono (by omega)) (da_cons (de_ix (de_v 0) (de_int)) (da_cons (de_int) (da_cons (de_gi t.i_MOST_OHMS_harness) (da_nil))))))) (dw_or1 (dt_not (dt_val (de_call ((c_is_within t).pin p) (hr.mono (by omega)) (da_cons (de_ix (de_v 0) (de_int)) (da_cons (de_int) (da_cons (de_gi t.i_MOST_LOAD) (da_nil)))))))))) (dss_one (ds_ret (de_bl))) (dss_nil)) (dss_one (ds_ret (de_call ((c_is_within t).pin p) (hr.mono (by omega)) (da_cons (de_ix (de_v 0) (de_int)) (da_cons (de_int) (da_cons (de_gi t.i_MOST_FUSE) (da_nil)))))))))
theorem c_is_wire (t : Tx K mg) : Cal P w K mg base (TT K) 3 "is_wire" 2 fn_is_wire [] := cal_of t.d_is_wire t.g_is_wire sc_is_wire (fun _ F => F.bindsN fun _ _ _ _ _ _ us hl => match us, hl with | [_, _], _ => rfl) (b_is_wire t)
theorem a_is_wire (t : Tx K mg) (p : Nat → V) : CalA P w K mg base ((TT K).withPin p) 3 "is_wire" 2 fn_is_wire := calA_of t.d_is_wire rfl sc_is_wire (fun _ F => F.bindsN fun _ _ _ _ _ _ us hl => match us, hl with | [_, _], _ => rfl) (b_is_wire t) p
abbrev s_is_gauge : Stmt := top 32
abbrev N_is_gauge : List Str := ["row", "ahead"]
theorem sc_is_gauge : FnScope N_is_gauge ["row", "ahead"] (defScope s_is_gauge) := ⟨rfl, rfl, rfl, by decide +kernel, rfl, by decide +kernel, by decide +kernel⟩
noncomputable def m_is_gauge : M Fl := sSeq (sIf (mOr (mNot (mB (mCall 2 fn_is_row [] (aCons (mV 0) (aCons (mC (.int 2)) (aNil)))))) (mOr (mNot (mB (mCall 3 fn_is_within [] (aCons (m2 (rd2 gIx) (mV 0) (mC (.int 0))) (aCons (mC (.int 0)) (aCons (mC (.int (99))) (aNil))))))) (mNot (mB (mCall 3 fn_is_within [] (aCons (m2 (rd2 gIx) (mV 0) (mC (.int 1))) (aCons (mC (.int 0)) (aCons (mC (.int (99))) (aNil))))))))) (sRet (mC (.bl false))) (sNx)) (sRet (mOrV (m2 fEq (bnd (aCons (mV 1) (aNil)) (rd1 gLen)) (mC (.int 0))) (m2 fGt (m2 (rd2 gIx) (m2 (rd2 gIx) (mV 1) (mNeg (mC (.int 1)))) (mC (.int 0))) (m2 (rd2 gIx) (mV 0) (mC (.int 0))))))
noncomputable def fn_is_gauge : Fn := mkFn 2 m_is_gauge
theorem b_is_gauge (t : Tx K mg) : Body P w K mg base (TT K) 2 N_is_gauge "is_gauge" (defBody s_is_gauge) (defScope s_is_gauge) m_is_gauge := fun p f cdv A outer s H E hr => dss_cons (ds_if (DW.dt (dw_or (dt_not (dt_val (de_call ((c_is_row t).pin p) (hr.mono (by omega)) (da_cons (de_v 0) (da_cons (de_int) (da_nil)))))) (dw_or (dt_not (dt_val (de_call ((c_is_within t).pin p) (hr.mono (by omega)) (da_cons (de_ix (de_v 0) (de_int)) (da_cons (de_int) (da_cons (de_gi t.i_MOST_OHMS_gauges) (da_nil))))))) (dw_or1 (dt_not (dt_val (de_call ((c_is_within t).pin p) (hr.mono (by omega)) (da_cons (de_ix (de_v 0) (de_int)) (da_cons (de_int) (da_cons (de_gi t.i_MOST_COST) (da_nil))))))))))) (dss_one (ds_ret (de_bl))) (dss_nil)) (dss_one (ds_ret (de_or (de_cmp (op_eqD (hu64 hr)) p_eq (de_callB call_len pl_len t.b_len (da_cons (de_v 1) (da_nil))) (de_int) (by rfl)) (de_one (de_cmp op_gt p_cmpI (de_ix (de_ix (de_v 1) (de_neg (de_int))) (de_int)) (de_ix (de_v 0) (de_int)) (by rfl))))))
theorem c_is_gauge (t : Tx K mg) : Cal P w K mg base (TT K) 3 "is_gauge" 2 fn_is_gauge [] := cal_of t.d_is_gauge t.g_is_gauge sc_is_gauge (fun _ F => F.bindsN fun _ _ _ _ _ _ us hl => match us, hl with | [_, _], _ => rfl) (b_is_gauge t)
theorem a_is_gauge (t : Tx K mg) (p : Nat → V) : CalA P w K mg base ((TT K).withPin p) 3 "is_gauge" 2 fn_is_gauge := calA_of t.d_is_gauge rfl sc_is_gauge (fun _ F => F.bindsN fun _ _ _ _ _ _ us hl => match us, hl with | [_, _], _ => rfl) (b_is_gauge t) p
abbrev s_first_wrong : Stmt := top 13
abbrev N_first_wrong : List Str := ["value", "least", "most", "judge", "place", "row"]
theorem sc_first_wrong : FnScope N_first_wrong ["value", "least", "most", "judge"] (defScope s_first_wrong) := ⟨rfl, rfl, rfl, by decide +kernel, rfl, by decide +kernel, by decide +kernel⟩
noncomputable def bo_first_wrong_0 : M Fl := sIf (mNot (mB (mCallL2 3 "is_wire" fn_is_wire "is_gauge" fn_is_gauge 2 (aCons (mV 5) (aCons (mSl (mV 0) (oNone) (oSome (mV 4))) (aNil)))))) (sRet (mV 4)) (sNx)
noncomputable def fo_first_wrong_1 : M Fl := sFor (mEnumT (aCons (mV 0) (aNil))) (tgT [4, 5]) (bo_first_wrong_0)
noncomputable def m_first_wrong : M Fl := sSeq (sIf (mOr (mNot (mB (bnd (aCons (mV 0) (aCons (mC (.ty "tuple")) (aNil))) (rdL2 gIsi)))) (mNot (mB (mCh fLe fLe (mV 1) (bnd (aCons (mV 0) (aNil)) (rd1 gLen)) (mV 2))))) (sRet (mNeg (mC (.int 1)))) (sNx)) (sSeq (fo_first_wrong_1) (sRet (mC .non)))
noncomputable def fn_first_wrong : Fn := mkFn 6 m_first_wrong
theorem b_first_wrong (t : Tx K mg) : Body P w K mg base (TT K) 3 N_first_wrong "first_wrong" (defBody s_first_wrong) (defScope s_first_wrong) m_first_wrong := fun p f cdv A outer s H E hr => dss_cons (ds_if (DW.dt (dw_or (dt_not (dt_val (de_callB call_isi pl_isi t.b_isinstance (da_cons (de_v 0) (da_cons (de_ty t.b_tuple) (da_nil)))))) (dw_or1 (dt_not (dt_ch op_le p_cmpI op_le p_cmpI (de_v 1) (de_callB call_len pl_len t.b_len (da_cons (de_v 0) (da_nil))) (de_v 2)))))) (dss_one (ds_ret (de_neg (de_int)))) (dss_nil)) (dss_cons (ds_for rfl (di_enumT t.b_enumerate (da_cons (de_v 0) (da_nil))) (dg_t (K := K) rfl rfl (dgs_cons 4 sc_first_wrong.nd (dgs_cons 5 sc_first_wrong.nd (dgs_nil)))) (dss_one (ds_if (dt_not (dt_val (de_callL2 3 (a_is_wire t p) (a_is_gauge t p) (hr.mono (by omega)) (da_cons (de_v 5) (da_cons (de_sl (de_v 0) (do_none) (do_some (de_v 4))) (da_nil)))))) (dss_one (ds_ret (de_v 4))) (dss_nil)))) (dss_one (ds_ret (de_non))))
theorem c_first_wrong (t : Tx K mg) : Cal P w K mg base (TT K) 4 "first_wrong" 4 fn_first_wrong [] := cal_of t.d_first_wrong t.g_first_wrong sc_first_wrong (fun _ F => F.bindsN fun _ _ _ _ _ _ us hl => match us, hl with | [_, _, _, _], _ => rfl) (b_first_wrong t)
abbrev s_require_gauges : Stmt := top 33
abbrev N_require_gauges : List Str := ["gauges", "limit", "place"]
theorem sc_require_gauges : FnScope N_require_gauges ["gauges", "limit"] (defScope s_require_gauges) := ⟨rfl, rfl, rfl, by decide +kernel, rfl, by decide +kernel, by decide +kernel⟩
noncomputable def m_require_gauges : M Fl := sSeq (sSet 2 (mCall 4 fn_first_wrong [] (aCons (mV 0) (aCons (mC (.int 1)) (aCons (mC (.int (5))) (aCons (mC (.fn "is_gauge")) (aNil))))))) (sSeq (sIf (mB (mNone true (mV 2))) (sBad) (sNx)) (sIf (mNot (mB (mCall 3 fn_is_within [] (aCons (mV 1) (aCons (mC (.int 0)) (aCons (mC (.int (300))) (aNil))))))) (sBad) (sNx)))
noncomputable def fn_require_gauges : Fn := mkFn 3 m_require_gauges
theorem b_require_gauges (t : Tx K mg) : Body P w K mg base (TT K) 4 N_require_gauges "require_gauges" (defBody s_require_gauges) (defScope s_require_gauges) m_require_gauges := fun p f cdv A outer s H E hr => dss_cons (ds_set 2 sc_require_gauges.nd (de_call ((c_first_wrong t).pin p) (hr.mono (by omega)) (da_cons (de_v 0) (da_cons (de_int) (da_cons (de_gi t.i_MOST_GAUGES) (da_cons (de_gf (n := "is_gauge") t.g_is_gauge) (da_nil))))))) (dss_cons (ds_if (dt_notN (de_v 2)) (dss_one (ds_never)) (dss_nil)) (dss_one (ds_if (dt_not (dt_val (de_call ((c_is_within t).pin p) (hr.mono (by omega)) (da_cons (de_v 1) (da_cons (de_int) (da_cons (de_gi t.i_MOST_LIMIT) (da_nil))))))) (dss_one (ds_never)) (dss_nil))))
theorem c_require_gauges (t : Tx K mg) : Cal P w K mg base (TT K) 5 "require_gauges" 2 fn_require_gauges [] := cal_of t.d_require_gauges t.g_require_gauges sc_require_gauges (fun _ F => F.bindsN fun _ _ _ _ _ _ us hl => match us, hl with | [_, _], _ => rfl) (b_require_gauges t)
abbrev s_sum_told : Stmt := top 35
abbrev N_sum_told : List Str := ["costs", "cost"]
theorem sc_sum_told : FnScope N_sum_told ["costs"] (defScope s_sum_told) := ⟨rfl, rfl, rfl, by decide +kernel, rfl, by decide +kernel, by decide +kernel⟩
noncomputable def lc_sum_told_0 : M W := mLc [1] (mSeq (mV 0)) (tgN 1) (ret true) (mNone false (mV 1))
noncomputable def m_sum_told : M Fl := sRet (mIf (mB (bnd (aCons (lc_sum_told_0) (aNil)) (rd1 gAny))) (mC .non) (bnd (aCons (mV 0) (aNil)) (rd1 gSum)))
noncomputable def fn_sum_told : Fn := mkFn 2 m_sum_told
theorem b_sum_told (t : Tx K mg) : Body P w K mg base (TT K) 0 N_sum_told "sum_told" (defBody s_sum_told) (defScope s_sum_told) m_sum_told := fun p f cdv A outer s H E hr => dss_one (ds_ret (de_if (dt_val (de_callB (cr_any rfl) pl_any t.b_any (da_cons (de_lc (own := [("cost", 1)]) rfl sc_sum_told.nd (di_seq (de_v 0)) (by rfl) (fun _ _ _ _ _ => dg_n 1 sc_sum_told.nd) (fun _ _ _ _ _ => dts_nil) (fun _ _ _ _ _ => de_isN (de_v 1)) (by decide) (by decide)) (da_nil)))) (de_non) (de_callB (cr_sum rfl) pl_sum t.b_sum (da_cons (de_v 0) (da_nil)))))
theorem c_sum_told (t : Tx K mg) : Cal P w K mg base (TT K) 1 "sum_told" 1 fn_sum_told [] := cal_of t.d_sum_told t.g_sum_told sc_sum_told (fun _ F => F.bindsN fun _ _ _ _ _ _ us hl => match us, hl with | [_], _ => rfl) (b_sum_told t)
abbrev s_children : Stmt := top 34
abbrev N_children : List Str := ["harness", "place", "name", "other", "row"]
theorem sc_children : FnScope N_children ["harness", "place"] (defScope s_children) := ⟨rfl, rfl, rfl, by decide +kernel, rfl, by decide +kernel, by decide +kernel⟩
noncomputable def lc_children_0 : M W := mLc [3, 4] (mEnumT (aCons (mFld ["Harness"] "rows" (mV 0)) (aNil))) (tgT [3, 4]) (mB (m2 fEq (m2 (rd2 gIx) (mV 4) (mC (.int 1))) (mV 2))) (mV 3)
noncomputable def m_children : M Fl := sSeq (sSet 2 (mIf (mB (mNone false (mV 1))) (mC (.str "source")) (m2 (rd2 gIx) (mFld ["Harness"] "names" (mV 0)) (mV 1)))) (sRet (lc_children_0))
noncomputable def fn_children : Fn := mkFn 5 m_children
theorem b_children (t : Tx K mg) : Body P w K mg base (TT K) 0 N_children "children" (defBody s_children) (defScope s_children) m_children := fun p f cdv A outer s H E hr => dss_cons (ds_set 2 sc_children.nd (de_if (dt_isN (de_v 1)) (de_gs t.s_ROOT) (de_ix (de_fld (f := "names") (de_v 0) (fld_of t.c_Harness t.n_Harness_names)) (de_v 1)))) (dss_one (ds_ret (de_lc (own := [("other", 3), ("row", 4)]) rfl sc_children.nd (di_enumT t.b_enumerate (da_cons (de_fld (f := "rows") (de_v 0) (fld_of t.c_Harness t.n_Harness_rows)) (da_nil))) (by rfl) (fun _ _ _ _ _ => dg_t (K := K) rfl rfl (dgs_cons 3 sc_children.nd (dgs_cons 4 sc_children.nd (dgs_nil)))) (fun _ _ _ _ _ => dts_one (dt_cmp (op_eqD (hu64 hr)) p_eq (de_ix (de_v 4) (de_int)) (de_v 2) (by rfl))) (fun _ _ _ _ _ => de_v 3) (by decide) (by decide))))
theorem c_children (t : Tx K mg) : Cal P w K mg base (TT K) 1 "children" 2 fn_children [] := cal_of t.d_children t.g_children sc_children (fun _ F => F.bindsN fun _ _ _ _ _ _ us hl => match us, hl with | [_, _], _ => rfl) (b_children t)
abbrev s_choices : Stmt := top 36
abbrev N_choices : List Str := ["harness", "gauges", "place", "left", "rows", "current", "found", "number", "rest", "ohms", "cost", "behind", "other"]
theorem sc_choices : FnScope N_choices ["harness", "gauges", "place", "left", "rows"] (defScope s_choices) := ⟨rfl, rfl, rfl, by decide +kernel, rfl, by decide +kernel, by decide +kernel⟩
noncomputable def lc_choices_0 : M W := mLc [12] (mSeq (mCall 2 fn_children [] (aCons (mV 0) (aCons (mV 2) (aNil))))) (tgN 12) (ret true) (m2 (rd2 gIx) (m2 (rd2 gIx) (mV 4) (mV 12)) (mV 8))
noncomputable def bo_choices_1 : M Fl := sSeq (sSet 8 (m2 fSub (mV 3) (m2 fMul (mV 9) (mV 5)))) (sIf (mB (m2 fGe (mV 8) (mC (.int 0)))) (sSeq (sSet 11 (mCall 1 fn_sum_told [] (aCons (lc_choices_0) (aNil)))) (sIf (mB (mNone true (mV 11))) (sAppend (mV 6) (aCons (mTup (aCons (m2 fAdd (mV 10) (mV 11)) (aCons (mV 7) (aNil)))) (aNil))) (sNx))) (sNx))
noncomputable def fo_choices_2 : M Fl := sFor (mEnumT (aCons (mV 1) (aNil))) (tgNest 7 [9, 10]) (bo_choices_1)
noncomputable def m_choices : M Fl := sSeq (sPar 5 6 (m2 (rd2 gIx) (mCall 1 fn_currents [] (aCons (mV 0) (aNil))) (mV 2)) (mLst (aNil))) (sSeq (fo_choices_2) (sRet (mV 6)))
noncomputable def fn_choices : Fn := mkFn 13 m_choices
theorem b_choices (t : Tx K mg) : Body P w K mg base (TT K) 1 N_choices "choices" (defBody s_choices) (defScope s_choices) m_choices := fun p f cdv A outer s H E hr => dss_cons (ds_par 5 6 rfl sc_choices.nd (de_ix (de_call ((c_currents t).pin p) (hr.mono (by omega)) (da_cons (de_v 0) (da_nil))) (de_v 2)) (de_lst (da_nil))) (dss_cons (ds_for rfl (di_enumT t.b_enumerate (da_cons (de_v 1) (da_nil))) (dg_nest (K := K) 7 rfl rfl sc_choices.nd (dgs_cons 9 sc_choices.nd (dgs_cons 10 sc_choices.nd (dgs_nil)))) (dss_cons (ds_set 8 sc_choices.nd (de_op op_sub p_sub (de_v 3) (de_op op_mulA p_mul (de_v 9) (de_v 5)))) (dss_one (ds_if (dt_cmp op_ge p_cmpI (de_v 8) (de_int) (by rfl)) (dss_cons (ds_set 11 sc_choices.nd (de_call ((c_sum_told t).pin p) (hr.mono (by omega)) (da_cons (de_lc (own := [("other", 12)]) rfl sc_choices.nd (di_seq (de_call ((c_children t).pin p) (hr.mono (by omega)) (da_cons (de_v 0) (da_cons (de_v 2) (da_nil))))) (by rfl) (fun _ _ _ _ _ => dg_n 12 sc_choices.nd) (fun _ _ _ _ _ => dts_nil) (fun _ _ _ _ _ => de_ix (de_ix (de_v 4) (de_v 12)) (de_v 8)) (by decide) (by decide)) (da_nil)))) (dss_one (ds_if (dt_notN (de_v 11)) (dss_one (ds_append (de_v 6) (da_cons (de_tup (da_cons (de_op op_addA p_add (de_v 10) (de_v 11)) (da_cons (de_v 7) (da_nil)))) (da_nil)))) (dss_nil)))) (dss_nil))))) (dss_one (ds_ret (de_v 6))))
theorem c_choices (t : Tx K mg) : Cal P w K mg base (TT K) 2 "choices" 5 fn_choices [] := cal_of t.d_choices t.g_choices sc_choices (fun _ F => F.bindsN fun _ _ _ _ _ _ us hl => match us, hl with | [_, _, _, _, _], _ => rfl) (b_choices t)
abbrev s_tables : Stmt := top 37
abbrev N_tables : List Str := ["harness", "gauges", "limit", "rows", "place", "found", "left", "told"]
theorem sc_tables : FnScope N_tables ["harness", "gauges", "limit"] (defScope s_tables) := ⟨rfl, rfl, rfl, by decide +kernel, rfl, by decide +kernel, by decide +kernel⟩
noncomputable def bo_tables_0 : M Fl := sSeq (sSet 7 (mFz (mCall 5 fn_choices [] (aCons (mV 0) (aCons (mV 1) (aCons (mV 4) (aCons (mV 6) (aCons (mV 3) (aNil))))))))) (sAppend (mV 5) (aCons (mIf (mB (m2 fNe (mV 7) (mLst (aNil)))) (m2 (rd2 gIx) (bnd (aCons (mV 7) (aNil)) (rd1 gMinL)) (mC (.int 0))) (mC .non)) (aNil)))
noncomputable def fo_tables_1 : M Fl := sFor (mRng1 (aCons (m2 fAdd (mV 2) (mC (.int 1))) (aNil))) (tgN 6) (bo_tables_0)
noncomputable def bo_tables_2 : M Fl := sSeq (sSet 5 (mLst (aNil))) (sSeq (fo_tables_1) (sPut (bnd (aCons (mV 5) (aNil)) fTupOf) (mV 3) (mV 4)))
noncomputable def fo_tables_3 : M Fl := sFor (mRng3 (aCons (m2 fSub (bnd (aCons (mFld ["Harness"] "rows" (mV 0)) (aNil)) (rd1 gLen)) (mC (.int 1))) (aCons (mNeg (mC (.int 1))) (aCons (mNeg (mC (.int 1))) (aNil))))) (tgN 4) (bo_tables_2)
noncomputable def m_tables : M Fl := sSeq (sDrop (mCall 2 fn_require_gauges [] (aCons (mV 1) (aCons (mV 2) (aNil))))) (sSeq (sSet 3 (m2 fMul (mLst (aCons (mC .non) (aNil))) (bnd (aCons (mFld ["Harness"] "rows" (mV 0)) (aNil)) (rd1 gLen)))) (sSeq (fo_tables_3) (sRet (bnd (aCons (mV 3) (aNil)) fTupOf))))
noncomputable def fn_tables : Fn := mkFn 8 m_tables
theorem b_tables (t : Tx K mg) : Body P w K mg base (TT K) 5 N_tables "tables" (defBody s_tables) (defScope s_tables) m_tables := fun p f cdv A outer s H E hr => dss_cons (ds_expr (de_call ((c_require_gauges t).pin p) (hr.mono (by omega)) (da_cons (de_v 1) (da_cons (de_v 2) (da_nil))))) (dss_cons (ds_set 3 sc_tables.nd (de_op op_mulA p_mul (de_lst (da_cons (de_non) (da_nil))) (de_callB call_len pl_len t.b_len (da_cons (de_fld (f := "rows") (de_v 0) (fld_of t.c_Harness t.n_Harness_rows)) (da_nil))))) (dss_cons (ds_for rfl (di_rng3 t.b_range (da_cons (de_op op_sub p_sub (de_callB call_len pl_len t.b_len (da_cons (de_fld (f := "rows") (de_v 0) (fld_of t.c_Harness t.n_Harness_rows)) (da_nil))) (de_int)) (da_cons (de_neg (de_int)) (da_cons (de_neg (de_int)) (da_nil))))) (dg_n 4 sc_tables.nd) (dss_cons (ds_set 5 sc_tables.nd (de_lst (da_nil))) (dss_cons (ds_for rfl (di_rng1 t.b_range (da_cons (de_op op_addA p_add (de_v 2) (de_int)) (da_nil))) (dg_n 6 sc_tables.nd) (dss_cons (ds_set 7 sc_tables.nd (de_fz (de_call ((c_choices t).pin p) (hr.mono (by omega)) (da_cons (de_v 0) (da_cons (de_v 1) (da_cons (de_v 4) (da_cons (de_v 6) (da_cons (de_v 3) (da_nil))))))))) (dss_one (ds_append (de_v 5) (da_cons (de_if (dt_cmp (op_neD (hu64 hr)) p_ne (de_v 7) (de_lst (da_nil)) (by rfl)) (de_ix (de_callB (call_minD rfl (hu64 hr)) pl_minL t.b_min (da_cons (de_v 7) (da_nil))) (de_int)) (de_non)) (da_nil)))))) (dss_one (ds_put (de_callTy call_tupF pl_tupOf t.b_tuple (da_cons (de_v 5) (da_nil))) (de_v 3) (de_v 4)))))) (dss_one (ds_ret (de_callTy call_tupF pl_tupOf t.b_tuple (da_cons (de_v 3) (da_nil)))))))
theorem c_tables (t : Tx K mg) : Cal P w K mg base (TT K) 6 "tables" 3 fn_tables [] := cal_of t.d_tables t.g_tables sc_tables (fun _ F => F.bindsN fun _ _ _ _ _ _ us hl => match us, hl with | [_, _, _], _ => rfl) (b_tables t)
abbrev s_least_cost : Stmt := top 38
abbrev N_least_cost : List Str := ["harness", "gauges", "limit", "rows", "place"]
theorem sc_least_cost : FnScope N_least_cost ["harness", "gauges", "limit"] (defScope s_least_cost) := ⟨rfl, rfl, rfl, by decide +kernel, rfl, by decide +kernel, by decide +kernel⟩
noncomputable def lc_least_cost_0 : M W := mLc [4] (mSeq (mCall 2 fn_children [] (aCons (mV 0) (aCons (mC .non) (aNil))))) (tgN 4) (ret true) (m2 (rd2 gIx) (m2 (rd2 gIx) (mV 3) (mV 4)) (mV 2))
noncomputable def m_least_cost : M Fl := sSeq (sSet 3 (mCall 3 fn_tables [] (aCons (mV 0) (aCons (mV 1) (aCons (mV 2) (aNil)))))) (sRet (mCall 1 fn_sum_told [] (aCons (lc_least_cost_0) (aNil))))
noncomputable def fn_least_cost : Fn := mkFn 5 m_least_cost
theorem b_least_cost (t : Tx K mg) : Body P w K mg base (TT K) 6 N_least_cost "least_cost" (defBody s_least_cost) (defScope s_least_cost) m_least_cost := fun p f cdv A outer s H E hr => dss_cons (ds_set 3 sc_least_cost.nd (de_call ((c_tables t).pin p) (hr.mono (by omega)) (da_cons (de_v 0) (da_cons (de_v 1) (da_cons (de_v 2) (da_nil)))))) (dss_one (ds_ret (de_call ((c_sum_told t).pin p) (hr.mono (by omega)) (da_cons (de_lc (own := [("place", 4)]) rfl sc_least_cost.nd (di_seq (de_call ((c_children t).pin p) (hr.mono (by omega)) (da_cons (de_v 0) (da_cons (de_non) (da_nil))))) (by rfl) (fun _ _ _ _ _ => dg_n 4 sc_least_cost.nd) (fun _ _ _ _ _ => dts_nil) (fun _ _ _ _ _ => de_ix (de_ix (de_v 3) (de_v 4)) (de_v 2)) (by decide) (by decide)) (da_nil)))))
theorem c_least_cost (t : Tx K mg) : Cal P w K mg base (TT K) 7 "least_cost" 3 fn_least_cost [] := cal_of t.d_least_cost t.g_least_cost sc_least_cost (fun _ F => F.bindsN fun _ _ _ _ _ _ us hl => match us, hl with | [_, _, _], _ => rfl) (b_least_cost t)
abbrev s_cheapest : Stmt := top 39
abbrev N_cheapest : List Str := ["harness", "gauges", "limit", "told", "rows", "found", "left", "place", "row", "number"]
theorem sc_cheapest : FnScope N_cheapest ["harness", "gauges", "limit"] (defScope s_cheapest) := ⟨rfl, rfl, rfl, by decide +kernel, rfl, by decide +kernel, by decide +kernel⟩
noncomputable def bo_cheapest_0 : M Fl := sSeq (sSet 9 (m2 (rd2 gIx) (bnd (aCons (mCall 5 fn_choices [] (aCons (mV 0) (aCons (mV 1) (aCons (mV 7) (aCons (m2 (rd2 gDx) (mV 6) (m2 (rd2 gIx) (mV 8) (mC (.int 1)))) (aCons (mV 4) (aNil))))))) (aNil)) (rd1 gMinL)) (mC (.int 1)))) (sSeq (sDPut (m2 fSub (m2 (rd2 gDx) (mV 6) (m2 (rd2 gIx) (mV 8) (mC (.int 1)))) (m2 fMul (m2 (rd2 gIx) (m2 (rd2 gIx) (mV 1) (mV 9)) (mC (.int 0))) (m2 (rd2 gIx) (mV 3) (mV 7)))) (mV 6) (m2 (rd2 gIx) (mV 8) (mC (.int 0)))) (sAppend (mV 5) (aCons (mV 9) (aNil))))
noncomputable def fo_cheapest_1 : M Fl := sFor (mEnumT (aCons (mFld ["Harness"] "rows" (mV 0)) (aNil))) (tgT [7, 8]) (bo_cheapest_0)
noncomputable def m_cheapest : M Fl := sSeq (sIf (mB (mNone false (mCall 3 fn_least_cost [] (aCons (mV 0) (aCons (mV 1) (aCons (mV 2) (aNil))))))) (sRet (mC .non)) (sNx)) (sSeq (sPar3 4 5 6 (mCall 3 fn_tables [] (aCons (mV 0) (aCons (mV 1) (aCons (mV 2) (aNil))))) (mLst (aNil)) (mDic1 (mC (.str "source")) (mV 2))) (sSeq (sSet 3 (mCall 1 fn_currents [] (aCons (mV 0) (aNil)))) (sSeq (fo_cheapest_1) (sRet (bnd (aCons (mV 5) (aNil)) fTupOf)))))
noncomputable def fn_cheapest : Fn := mkFn 10 m_cheapest
theorem b_cheapest (t : Tx K mg) : Body P w K mg base (TT K) 7 N_cheapest "cheapest" (defBody s_cheapest) (defScope s_cheapest) m_cheapest := fun p f cdv A outer s H E hr => dss_cons (ds_if (dt_isN (de_call ((c_least_cost t).pin p) (hr.mono (by omega)) (da_cons (de_v 0) (da_cons (de_v 1) (da_cons (de_v 2) (da_nil)))))) (dss_one (ds_ret (de_non))) (dss_nil)) (dss_cons (ds_par3 4 5 6 rfl sc_cheapest.nd (de_call ((c_tables t).pin p) (hr.mono (by omega)) (da_cons (de_v 0) (da_cons (de_v 1) (da_cons (de_v 2) (da_nil))))) (de_lst (da_nil)) (de_dic1 (de_gs t.s_ROOT) (de_v 2))) (dss_cons (ds_set 3 sc_cheapest.nd (de_call ((c_currents t).pin p) (hr.mono (by omega)) (da_cons (de_v 0) (da_nil)))) (dss_cons (ds_for rfl (di_enumT t.b_enumerate (da_cons (de_fld (f := "rows") (de_v 0) (fld_of t.c_Harness t.n_Harness_rows)) (da_nil))) (dg_t (K := K) rfl rfl (dgs_cons 7 sc_cheapest.nd (dgs_cons 8 sc_cheapest.nd (dgs_nil)))) (dss_cons (ds_set 9 sc_cheapest.nd (de_ix (de_callB (call_minD rfl (hu64 hr)) pl_minL t.b_min (da_cons (de_call ((c_choices t).pin p) (hr.mono (by omega)) (da_cons (de_v 0) (da_cons (de_v 1) (da_cons (de_v 7) (da_cons (de_dx hr (de_v 6) (de_ix (de_v 8) (de_int))) (da_cons (de_v 4) (da_nil))))))) (da_nil))) (de_int))) (dss_cons (ds_dput hr (de_op op_sub p_sub (de_dx hr (de_v 6) (de_ix (de_v 8) (de_int))) (de_op op_mulA p_mul (de_ix (de_ix (de_v 1) (de_v 9)) (de_int)) (de_ix (de_v 3) (de_v 7)))) (de_v 6) (de_ix (de_v 8) (de_int))) (dss_one (ds_append (de_v 5) (da_cons (de_v 9) (da_nil))))))) (dss_one (ds_ret (de_callTy call_tupF pl_tupOf t.b_tuple (da_cons (de_v 5) (da_nil))))))))
theorem c_cheapest (t : Tx K mg) : Cal P w K mg base (TT K) 8 "cheapest" 3 fn_cheapest [] := cal_of t.d_cheapest t.g_cheapest sc_cheapest (fun _ F => F.bindsN fun _ _ _ _ _ _ us hl => match us, hl with | [_, _, _], _ => rfl) (b_cheapest t)
abbrev s_law_taken : Stmt := top 49
abbrev N_law_taken : List Str := ["row", "many", "cell", "found"]
theorem sc_law_taken : FnScope N_law_taken ["row", "many"] (defScope s_law_taken) := ⟨rfl, rfl, rfl, by decide +kernel, rfl, by decide +kernel, by decide +kernel⟩
noncomputable def m_law_taken : M Fl := sSeq (sIf (mB (m2 fGt (m2 (rd2 gIx) (mV 0) (mC (.int 3))) (mC (.int 0)))) (sSeq (sSet 3 (m2 fMod (bnd (aCons (m2 (rd2 gIx) (mV 0) (mC (.int 3))) (aNil)) (rd1 gInt)) (mV 1))) (sSeq (sPut (m2 fDiv (m2 (rd2 gIx) (mV 0) (mC (.int 3))) (mV 1)) (mV 0) (mC (.int 3))) (sRet (mV 3)))) (sNx)) (sSeq (sPut (m2 fAdd (m2 (rd2 gIx) (mV 0) (mC (.int 1))) (mC (.int 1))) (mV 0) (mC (.int 1))) (sSeq (sIf (mB (m2 fGt (m2 (rd2 gIx) (mV 0) (mC (.int 1))) (bnd (aCons (m2 (rd2 gIx) (mV 0) (mC (.int 0))) (aNil)) (rd1 gLen)))) (sSeq (sPut (m2 fMod (bnd (aCons (m2 fAdd (m2 fMul (m2 (rd2 gIx) (mV 0) (mC (.int 2))) (mC (.int 48271))) (mC (.int 11))) (aNil)) (rd1 gInt)) (mC (.int 2147483647))) (mV 0) (mC (.int 2))) (sRet (m2 fMod (bnd (aCons (m2 fDiv (m2 (rd2 gIx) (mV 0) (mC (.int 2))) (mC (.int 7))) (aNil)) (rd1 gInt)) (mV 1)))) (sNx)) (sSeq (sSet 2 (m2 (rd2 gIx) (m2 (rd2 gIx) (mV 0) (mC (.int 0))) (m2 fSub (m2 (rd2 gIx) (mV 0) (mC (.int 1))) (mC (.int 1))))) (sSeq (sPut (m2 fMod (bnd (aCons (m2 fAdd (m2 fAdd (m2 fMul (m2 (rd2 gIx) (mV 0) (mC (.int 2))) (mC (.int 48271))) (mV 2)) (mC (.int 11))) (aNil)) (rd1 gInt)) (mC (.int 2147483647))) (mV 0) (mC (.int 2))) (sSeq (sIf (mB (m2 fGe (mV 2) (m2 fPow (mC (.int 10)) (mC (.int 18))))) (sSeq (sPut (m2 fDiv (mV 2) (mV 1)) (mV 0) (mC (.int 3))) (sRet (m2 fMod (bnd (aCons (mV 2) (aNil)) (rd1 gInt)) (mV 1)))) (sNx)) (sRet (m2 fMod (bnd (aCons (m2 fAdd (m2 fMul (m2 fMod (bnd (aCons (mV 2) (aNil)) (rd1 gInt)) (mC (.int 1000003))) (mC (.int 31))) (m2 fDiv (m2 (rd2 gIx) (mV 0) (mC (.int 2))) (mC (.int 11)))) (aNil)) (rd1 gInt)) (mV 1))))))))
noncomputable def fn_law_taken : Fn := mkFn 4 m_law_taken
theorem b_law_taken (t : Tx K mg) : Body P w K mg base (TT K) 0 N_law_taken "_law_taken" (defBody s_law_taken) (defScope s_law_taken) m_law_taken := fun p f cdv A outer s H E hr => dss_cons (ds_if (dt_cmp op_gt p_cmpI (de_ix (de_v 0) (de_int)) (de_int) (by rfl)) (dss_cons (ds_set 3 sc_law_taken.nd (de_op op_mod p_mod (de_callTy call_int1 pl_int t.b_int (da_cons (de_ix (de_v 0) (de_int)) (da_nil))) (de_v 1))) (dss_cons (ds_put (de_op op_fdiv p_div (de_ix (de_v 0) (de_int)) (de_v 1)) (de_v 0) (de_int)) (dss_one (ds_ret (de_v 3))))) (dss_nil)) (dss_cons (ds_put (de_op op_addA p_add (de_ix (de_v 0) (de_int)) (de_int)) (de_v 0) (de_int)) (dss_cons (ds_if (dt_cmp op_gt p_cmpI (de_ix (de_v 0) (de_int)) (de_callB call_len pl_len t.b_len (da_cons (de_ix (de_v 0) (de_int)) (da_nil))) (by rfl)) (dss_cons (ds_put (de_op op_mod p_mod (de_callTy call_int1 pl_int t.b_int (da_cons (de_op op_addA p_add (de_op op_mulA p_mul (de_ix (de_v 0) (de_int)) (de_int)) (de_int)) (da_nil))) (de_int)) (de_v 0) (de_int)) (dss_one (ds_ret (de_op op_mod p_mod (de_callTy call_int1 pl_int t.b_int (da_cons (de_op op_fdiv p_div (de_ix (de_v 0) (de_int)) (de_int)) (da_nil))) (de_v 1))))) (dss_nil)) (dss_cons (ds_set 2 sc_law_taken.nd (de_ix (de_ix (de_v 0) (de_int)) (de_op op_sub p_sub (de_ix (de_v 0) (de_int)) (de_int)))) (dss_cons (ds_put (de_op op_mod p_mod (de_callTy call_int1 pl_int t.b_int (da_cons (de_op op_addA p_add (de_op op_addA p_add (de_op op_mulA p_mul (de_ix (de_v 0) (de_int)) (de_int)) (de_v 2)) (de_int)) (da_nil))) (de_int)) (de_v 0) (de_int)) (dss_cons (ds_if (dt_cmp op_ge p_cmpI (de_v 2) (de_op op_pow p_pow (de_int) (de_int)) (by rfl)) (dss_cons (ds_put (de_op op_fdiv p_div (de_v 2) (de_v 1)) (de_v 0) (de_int)) (dss_one (ds_ret (de_op op_mod p_mod (de_callTy call_int1 pl_int t.b_int (da_cons (de_v 2) (da_nil))) (de_v 1))))) (dss_nil)) (dss_one (ds_ret (de_op op_mod p_mod (de_callTy call_int1 pl_int t.b_int (da_cons (de_op op_addA p_add (de_op op_mulA p_mul (de_op op_mod p_mod (de_callTy call_int1 pl_int t.b_int (da_cons (de_v 2) (da_nil))) (de_int)) (de_int)) (de_op op_fdiv p_div (de_ix (de_v 0) (de_int)) (de_int))) (da_nil))) (de_v 1)))))))))
theorem c_law_taken (t : Tx K mg) : Cal P w K mg base (TT K) 1 "_law_taken" 2 fn_law_taken [] := cal_of t.d_law_taken t.g__law_taken sc_law_taken (fun _ F => F.bindsN fun _ _ _ _ _ _ us hl => match us, hl with | [_, _], _ => rfl) (b_law_taken t)
abbrev s_law_pick : Stmt := top 50
abbrev N_law_pick : List Str := ["row", "things"]
theorem sc_law_pick : FnScope N_law_pick ["row", "things"] (defScope s_law_pick) := ⟨rfl, rfl, rfl, by decide +kernel, rfl, by decide +kernel, by decide +kernel⟩
noncomputable def m_law_pick : M Fl := sRet (m2 (rd2 gIx) (mV 1) (mCall 2 fn_law_taken [] (aCons (mV 0) (aCons (bnd (aCons (mV 1) (aNil)) (rd1 gLen)) (aNil)))))
noncomputable def fn_law_pick : Fn := mkFn 2 m_law_pick
theorem b_law_pick (t : Tx K mg) : Body P w K mg base (TT K) 1 N_law_pick "_law_pick" (defBody s_law_pick) (defScope s_law_pick) m_law_pick := fun p f cdv A outer s H E hr => dss_one (ds_ret (de_ix (de_v 1) (de_call ((c_law_taken t).pin p) (hr.mono (by omega)) (da_cons (de_v 0) (da_cons (de_callB call_len pl_len t.b_len (da_cons (de_v 1) (da_nil))) (da_nil))))))
theorem c_law_pick (t : Tx K mg) : Cal P w K mg base (TT K) 2 "_law_pick" 2 fn_law_pick [] := cal_of t.d_law_pick t.g__law_pick sc_law_pick (fun _ F => F.bindsN fun _ _ _ _ _ _ us hl => match us, hl with | [_, _], _ => rfl) (b_law_pick t)
abbrev s_law_names : Stmt := top 52
abbrev N_law_names : List Str := ["row", "many", "letters", "head", "tail", "kind", "k", "begin", "names", "sign"]
theorem sc_law_names : FnScope N_law_names ["row", "many"] (defScope s_law_names) := ⟨rfl, rfl, rfl, by decide +kernel, rfl, by decide +kernel, by decide +kernel⟩
noncomputable def bo_law_names_0 : M Fl := sSeq (sSet 9 (m2 (rd2 gIx) (mV 2) (m2 fMod (bnd (aCons (m2 fAdd (mV 7) (m2 fMul (mC (.int 7)) (mV 6))) (aNil)) (rd1 gInt)) (mC (.int 26))))) (sAppend (mV 8) (aCons (mIf (mB (m2 fEq (mV 5) (mC (.int 0)))) (m2 fAdd (m2 fAdd (mV 3) (mV 9)) (mV 4)) (m2 fAdd (mV 9) (m2 fMul (m2 (rd2 gIx) (mV 2) (mCall 2 fn_law_taken [] (aCons (mV 0) (aCons (mC (.int 26)) (aNil))))) (mCall 2 fn_law_taken [] (aCons (mV 0) (aCons (mC (.int 8)) (aNil))))))) (aNil)))
noncomputable def fo_law_names_1 : M Fl := sFor (mRng1 (aCons (mV 1) (aNil))) (tgN 6) (bo_law_names_0)
noncomputable def m_law_names : M Fl := sSeq (sSet 2 (mC (.str "abcdefghijklmnopqrstuvwxyz"))) (sSeq (sPar 7 8 (mFz (mCall 2 fn_law_taken [] (aCons (mV 0) (aCons (mC (.int 26)) (aNil))))) (mLst (aNil))) (sSeq (sSet 3 (mFz (m2 fMul (m2 (rd2 gIx) (mV 2) (mCall 2 fn_law_taken [] (aCons (mV 0) (aCons (mC (.int 26)) (aNil))))) (mCall 2 fn_law_taken [] (aCons (mV 0) (aCons (mC (.int 4)) (aNil))))))) (sSeq (sSet 4 (mFz (m2 fMul (m2 (rd2 gIx) (mV 2) (mCall 2 fn_law_taken [] (aCons (mV 0) (aCons (mC (.int 26)) (aNil))))) (mCall 2 fn_law_taken [] (aCons (mV 0) (aCons (mC (.int 4)) (aNil))))))) (sSeq (sSet 5 (mFz (mCall 2 fn_law_taken [] (aCons (mV 0) (aCons (mC (.int 2)) (aNil)))))) (sSeq (fo_law_names_1) (sRet (mV 8)))))))
noncomputable def fn_law_names : Fn := mkFn 10 m_law_names
theorem b_law_names (t : Tx K mg) : Body P w K mg base (TT K) 1 N_law_names "_law_names" (defBody s_law_names) (defScope s_law_names) m_law_names := fun p f cdv A outer s H E hr => dss_cons (ds_set 2 sc_law_names.nd (de_str)) (dss_cons (ds_par 7 8 rfl sc_law_names.nd (de_fz (de_call ((c_law_taken t).pin p) (hr.mono (by omega)) (da_cons (de_v 0) (da_cons (de_int) (da_nil))))) (de_lst (da_nil))) (dss_cons (ds_set 3 sc_law_names.nd (de_fz (de_op op_mulA p_mul (de_ix (de_v 2) (de_call ((c_law_taken t).pin p) (hr.mono (by omega)) (da_cons (de_v 0) (da_cons (de_int) (da_nil))))) (de_call ((c_law_taken t).pin p) (hr.mono (by omega)) (da_cons (de_v 0) (da_cons (de_int) (da_nil))))))) (dss_cons (ds_set 4 sc_law_names.nd (de_fz (de_op op_mulA p_mul (de_ix (de_v 2) (de_call ((c_law_taken t).pin p) (hr.mono (by omega)) (da_cons (de_v 0) (da_cons (de_int) (da_nil))))) (de_call ((c_law_taken t).pin p) (hr.mono (by omega)) (da_cons (de_v 0) (da_cons (de_int) (da_nil))))))) (dss_cons (ds_set 5 sc_law_names.nd (de_fz (de_call ((c_law_taken t).pin p) (hr.mono (by omega)) (da_cons (de_v 0) (da_cons (de_int) (da_nil)))))) (dss_cons (ds_for rfl (di_rng1 t.b_range (da_cons (de_v 1) (da_nil))) (dg_n 6 sc_law_names.nd) (dss_cons (ds_set 9 sc_law_names.nd (de_ix (de_v 2) (de_op op_mod p_mod (de_callTy call_int1 pl_int t.b_int (da_cons (de_op op_addA p_add (de_v 7) (de_op op_mulA p_mul (de_int) (de_v 6))) (da_nil))) (de_int)))) (dss_one (ds_append (de_v 8) (da_cons (de_if (dt_cmp (op_eqD (hu64 hr)) p_eq (de_v 5) (de_int) (by rfl)) (de_op op_addA p_add (de_op op_addA p_add (de_v 3) (de_v 9)) (de_v 4)) (de_op op_addA p_add (de_v 9) (de_op op_mulA p_mul (de_ix (de_v 2) (de_call ((c_law_taken t).pin p) (hr.mono (by omega)) (da_cons (de_v 0) (da_cons (de_int) (da_nil))))) (de_call ((c_law_taken t).pin p) (hr.mono (by omega)) (da_cons (de_v 0) (da_cons (de_int) (da_nil))))))) (da_nil)))))) (dss_one (ds_ret (de_v 8))))))))
theorem c_law_names (t : Tx K mg) : Cal P w K mg base (TT K) 2 "_law_names" 2 fn_law_names [] := cal_of t.d_law_names t.g__law_names sc_law_names (fun _ F => F.bindsN fun _ _ _ _ _ _ us hl => match us, hl with | [_, _], _ => rfl) (b_law_names t)
abbrev s_law_harness : Stmt := top 53
abbrev N_law_harness : List Str := ["row", "wide", "name", "names", "rows", "ahead", "load", "one"]
theorem sc_law_harness : FnScope N_law_harness ["row"] (defScope s_law_harness) := ⟨rfl, rfl, rfl, by decide +kernel, rfl, by decide +kernel, by decide +kernel⟩
noncomputable def lc_law_harness_0 : M W := mLc [7] (mSeq (mV 4)) (tgN 7) (ret true) (m2 (rd2 gIx) (mV 7) (mC (.int 0)))
noncomputable def bo_law_harness_1 : M Fl := sIf (mB (m2 fNe (mV 2) (mC (.str "source")))) (sSeq (sSet 5 (mFz (m2 fAdd (mLst (aCons (mC (.str "source")) (aNil))) (m2 fMul (lc_law_harness_0) (mC (.int 2)))))) (sSeq (sSet 6 (mFz (mCall 2 fn_law_taken [] (aCons (mV 0) (aCons (mCall 2 fn_law_pick [] (aCons (mV 0) (aCons (mLst (aCons (mC (.int 1)) (aCons (mC (.int 12)) (aNil)))) (aNil)))) (aNil)))))) (sAppend (mV 4) (aCons (mTup (aCons (mV 2) (aCons (mCall 2 fn_law_pick [] (aCons (mV 0) (aCons (mV 5) (aNil)))) (aCons (m2 fAdd (mC (.int 1)) (mCall 2 fn_law_taken [] (aCons (mV 0) (aCons (bnd (aCons (mC (.int 99)) (aCons (mV 1) (aNil))) (rdL2 gMin2)) (aNil))))) (aCons (mV 6) (aCons (mCall 2 fn_law_pick [] (aCons (mV 0) (aCons (mLst (aCons (mC (.int 0)) (aCons (mC (.int 5)) (aCons (mC (.int 20)) (aCons (mC (.int 90)) (aCons (mCall 2 fn_law_taken [] (aCons (mV 0) (aCons (mC (.int 1000)) (aNil)))) (aNil))))))) (aNil)))) (aNil))))))) (aNil))))) (sNx)
noncomputable def fo_law_harness_2 : M Fl := sFor (mSeq (mV 3)) (tgN 2) (bo_law_harness_1)
noncomputable def m_law_harness : M Fl := sSeq (sPar 3 4 (mFz (mCall 2 fn_law_names [] (aCons (mV 0) (aCons (m2 fAdd (mC (.int 1)) (mCall 2 fn_law_taken [] (aCons (mV 0) (aCons (mCall 2 fn_law_pick [] (aCons (mV 0) (aCons (mLst (aCons (mC (.int 3)) (aCons (mC (.int 10)) (aNil)))) (aNil)))) (aNil))))) (aNil))))) (mLst (aNil))) (sSeq (sSet 1 (mCall 2 fn_law_pick [] (aCons (mV 0) (aCons (mLst (aCons (mC (.int 5)) (aCons (mC (.int 100)) (aNil)))) (aNil))))) (sSeq (fo_law_harness_2) (sSeq (sIf (mB (m2 fEq (mV 4) (mLst (aNil)))) (sSet 4 (mLst (aCons (mTup (aCons (mC (.str "main")) (aCons (mC (.str "source")) (aCons (mC (.int 3)) (aCons (mC (.int 2)) (aCons (mC (.int 10)) (aNil))))))) (aNil)))) (sNx)) (sRet (mTup (aCons (bnd (aCons (mV 4) (aNil)) fTupOf) (aCons (m2 fAdd (mC (.int 1)) (mCall 2 fn_law_taken [] (aCons (mV 0) (aCons (mCall 2 fn_law_pick [] (aCons (mV 0) (aCons (mLst (aCons (mC (.int 200)) (aCons (mC (.int 20000)) (aNil)))) (aNil)))) (aNil))))) (aCons (mCall 2 fn_law_taken [] (aCons (mV 0) (aCons (mCall 2 fn_law_pick [] (aCons (mV 0) (aCons (mLst (aCons (mC (.int 60)) (aCons (mC (.int 2000)) (aNil)))) (aNil)))) (aNil)))) (aNil)))))))))
noncomputable def fn_law_harness : Fn := mkFn 8 m_law_harness
theorem b_law_harness (t : Tx K mg) : Body P w K mg base (TT K) 2 N_law_harness "_law_harness" (defBody s_law_harness) (defScope s_law_harness) m_law_harness := fun p f cdv A outer s H E hr => dss_cons (ds_par 3 4 rfl sc_law_harness.nd (de_fz (de_call ((c_law_names t).pin p) (hr.mono (by omega)) (da_cons (de_v 0) (da_cons (de_op op_addA p_add (de_int) (de_call ((c_law_taken t).pin p) (hr.mono (by omega)) (da_cons (de_v 0) (da_cons (de_call ((c_law_pick t).pin p) (hr.mono (by omega)) (da_cons (de_v 0) (da_cons (de_lst (da_cons (de_int) (da_cons (de_int) (da_nil)))) (da_nil)))) (da_nil))))) (da_nil))))) (de_lst (da_nil))) (dss_cons (ds_set 1 sc_law_harness.nd (de_call ((c_law_pick t).pin p) (hr.mono (by omega)) (da_cons (de_v 0) (da_cons (de_lst (da_cons (de_int) (da_cons (de_int) (da_nil)))) (da_nil))))) (dss_cons (ds_for rfl (di_seq (de_v 3)) (dg_n 2 sc_law_harness.nd) (dss_one (ds_if (dt_cmp (op_neD (hu64 hr)) p_ne (de_v 2) (de_str) (by rfl)) (dss_cons (ds_set 5 sc_law_harness.nd (de_fz (de_op op_addA p_add (de_lst (da_cons (de_str) (da_nil))) (de_op op_mulA p_mul (de_lc (own := [("one", 7)]) rfl sc_law_harness.nd (di_seq (de_v 4)) (by rfl) (fun _ _ _ _ _ => dg_n 7 sc_law_harness.nd) (fun _ _ _ _ _ => dts_nil) (fun _ _ _ _ _ => de_ix (de_v 7) (de_int)) (by decide) (by decide)) (de_int))))) (dss_cons (ds_set 6 sc_law_harness.nd (de_fz (de_call ((c_law_taken t).pin p) (hr.mono (by omega)) (da_cons (de_v 0) (da_cons (de_call ((c_law_pick t).pin p) (hr.mono (by omega)) (da_cons (de_v 0) (da_cons (de_lst (da_cons (de_int) (da_cons (de_int) (da_nil)))) (da_nil)))) (da_nil)))))) (dss_one (ds_append (de_v 4) (da_cons (de_tup (da_cons (de_v 2) (da_cons (de_call ((c_law_pick t).pin p) (hr.mono (by omega)) (da_cons (de_v 0) (da_cons (de_v 5) (da_nil)))) (da_cons (de_op op_addA p_add (de_int) (de_call ((c_law_taken t).pin p) (hr.mono (by omega)) (da_cons (de_v 0) (da_cons (de_callB (call_min2 rfl) pl_min2 t.b_min (da_cons (de_int) (da_cons (de_v 1) (da_nil)))) (da_nil))))) (da_cons (de_v 6) (da_cons (de_call ((c_law_pick t).pin p) (hr.mono (by omega)) (da_cons (de_v 0) (da_cons (de_lst (da_cons (de_int) (da_cons (de_int) (da_cons (de_int) (da_cons (de_int) (da_cons (de_call ((c_law_taken t).pin p) (hr.mono (by omega)) (da_cons (de_v 0) (da_cons (de_int) (da_nil)))) (da_nil))))))) (da_nil)))) (da_nil))))))) (da_nil)))))) (dss_nil)))) (dss_cons (ds_if (dt_cmp (op_eqD (hu64 hr)) p_eq (de_v 4) (de_lst (da_nil)) (by rfl)) (dss_one (ds_set 4 sc_law_harness.nd (de_lst (da_cons (de_tup (da_cons (de_str) (da_cons (de_str) (da_cons (de_int) (da_cons (de_int) (da_cons (de_int) (da_nil))))))) (da_nil))))) (dss_nil)) (dss_one (ds_ret (de_tup (da_cons (de_callTy call_tupF pl_tupOf t.b_tuple (da_cons (de_v 4) (da_nil))) (da_cons (de_op op_addA p_add (de_int) (de_call ((c_law_taken t).pin p) (hr.mono (by omega)) (da_cons (de_v 0) (da_cons (de_call ((c_law_pick t).pin p) (hr.mono (by omega)) (da_cons (de_v 0) (da_cons (de_lst (da_cons (de_int) (da_cons (de_int) (da_nil)))) (da_nil)))) (da_nil))))) (da_cons (de_call ((c_law_taken t).pin p) (hr.mono (by omega)) (da_cons (de_v 0) (da_cons (de_call ((c_law_pick t).pin p) (hr.mono (by omega)) (da_cons (de_v 0) (da_cons (de_lst (da_cons (de_int) (da_cons (de_int) (da_nil)))) (da_nil)))) (da_nil)))) (da_nil))))))))))
theorem c_law_harness (t : Tx K mg) : Cal P w K mg base (TT K) 3 "_law_harness" 1 fn_law_harness [] := cal_of t.d_law_harness t.g__law_harness sc_law_harness (fun _ F => F.bindsN fun _ _ _ _ _ _ us hl => match us, hl with | [_], _ => rfl) (b_law_harness t)
abbrev s_law_gauges : Stmt := top 56
abbrev N_law_gauges : List Str := ["row", "k", "found", "ohms"]
theorem sc_law_gauges : FnScope N_law_gauges ["row"] (defScope s_law_gauges) := ⟨rfl, rfl, rfl, by decide +kernel, rfl, by decide +kernel, by decide +kernel⟩
noncomputable def bo_law_gauges_0 : M Fl := sSeq (sIf (mB (m2 fGe (mV 3) (mC (.int 0)))) (sAppend (mV 2) (aCons (mTup (aCons (mV 3) (aCons (mCall 2 fn_law_taken [] (aCons (mV 0) (aCons (mCall 2 fn_law_pick [] (aCons (mV 0) (aCons (mLst (aCons (mC (.int 5)) (aCons (mC (.int 100)) (aNil)))) (aNil)))) (aNil)))) (aNil)))) (aNil))) (sNx)) (sSet 3 (mFz (m2 fSub (m2 fSub (mV 3) (mC (.int 1))) (mCall 2 fn_law_taken [] (aCons (mV 0) (aCons (mC (.int 4)) (aNil)))))))
noncomputable def fo_law_gauges_1 : M Fl := sFor (mRng1 (aCons (m2 fAdd (mC (.int 1)) (mCall 2 fn_law_taken [] (aCons (mV 0) (aCons (mC (.int 5)) (aNil))))) (aNil))) (tgN 1) (bo_law_gauges_0)
noncomputable def m_law_gauges : M Fl := sSeq (sPar 2 3 (mLst (aNil)) (mCall 2 fn_law_pick [] (aCons (mV 0) (aCons (mLst (aCons (mC (.int 4)) (aCons (mC (.int 12)) (aCons (mC (.int 99)) (aNil))))) (aNil))))) (sSeq (fo_law_gauges_1) (sRet (bnd (aCons (mV 2) (aNil)) fTupOf)))
noncomputable def fn_law_gauges : Fn := mkFn 4 m_law_gauges
theorem b_law_gauges (t : Tx K mg) : Body P w K mg base (TT K) 2 N_law_gauges "_law_gauges" (defBody s_law_gauges) (defScope s_law_gauges) m_law_gauges := fun p f cdv A outer s H E hr => dss_cons (ds_par 2 3 rfl sc_law_gauges.nd (de_lst (da_nil)) (de_call ((c_law_pick t).pin p) (hr.mono (by omega)) (da_cons (de_v 0) (da_cons (de_lst (da_cons (de_int) (da_cons (de_int) (da_cons (de_int) (da_nil))))) (da_nil))))) (dss_cons (ds_for rfl (di_rng1 t.b_range (da_cons (de_op op_addA p_add (de_int) (de_call ((c_law_taken t).pin p) (hr.mono (by omega)) (da_cons (de_v 0) (da_cons (de_int) (da_nil))))) (da_nil))) (dg_n 1 sc_law_gauges.nd) (dss_cons (ds_if (dt_cmp op_ge p_cmpI (de_v 3) (de_int) (by rfl)) (dss_one (ds_append (de_v 2) (da_cons (de_tup (da_cons (de_v 3) (da_cons (de_call ((c_law_taken t).pin p) (hr.mono (by omega)) (da_cons (de_v 0) (da_cons (de_call ((c_law_pick t).pin p) (hr.mono (by omega)) (da_cons (de_v 0) (da_cons (de_lst (da_cons (de_int) (da_cons (de_int) (da_nil)))) (da_nil)))) (da_nil)))) (da_nil)))) (da_nil)))) (dss_nil)) (dss_one (ds_set 3 sc_law_gauges.nd (de_fz (de_op op_sub p_sub (de_op op_sub p_sub (de_v 3) (de_int)) (de_call ((c_law_taken t).pin p) (hr.mono (by omega)) (da_cons (de_v 0) (da_cons (de_int) (da_nil)))))))))) (dss_one (ds_ret (de_callTy call_tupF pl_tupOf t.b_tuple (da_cons (de_v 2) (da_nil))))))
theorem c_law_gauges (t : Tx K mg) : Cal P w K mg base (TT K) 3 "_law_gauges" 1 fn_law_gauges [] := cal_of t.d_law_gauges t.g__law_gauges sc_law_gauges (fun _ F => F.bindsN fun _ _ _ _ _ _ us hl => match us, hl with | [_], _ => rfl) (b_law_gauges t)
abbrev s_require_part : Stmt := top 15
abbrev N_require_part : List Str := ["part", "place"]
theorem sc_require_part : FnScope N_require_part ["part", "place"] (defScope s_require_part) := ⟨rfl, rfl, rfl, by decide +kernel, rfl, by decide +kernel, by decide +kernel⟩
noncomputable def m_require_part : M Fl := sIf (mB (mNone true (mV 1))) (sBad) (sNx)
noncomputable def fn_require_part : Fn := mkFn 2 m_require_part
theorem b_require_part (t : Tx K mg) : Body P w K mg base (TT K) 0 N_require_part "require_part" (defBody s_require_part) (defScope s_require_part) m_require_part := fun p f cdv A outer s H E hr => dss_one (ds_if (dt_notN (de_v 1)) (dss_one (ds_never)) (dss_nil))
theorem c_require_part (t : Tx K mg) : Cal P w K mg base (TT K) 1 "require_part" 2 fn_require_part [] := cal_of t.d_require_part t.g_require_part sc_require_part (fun _ F => F.bindsN fun _ _ _ _ _ _ us hl => match us, hl with | [_, _], _ => rfl) (b_require_part t)
abbrev s_Harness_init : Stmt := inClass (top 25) 0
abbrev N_Harness_init : List Str := ["self", "rows", "volts", "limit"]
theorem sc_Harness_init : FnScope N_Harness_init ["self", "rows", "volts", "limit"] (defScope s_Harness_init) := ⟨rfl, rfl, rfl, by decide +kernel, rfl, by decide +kernel, by decide +kernel⟩
noncomputable def m_Harness_init : M Fl := sSeq (sDrop (mCall 2 fn_require_part [] (aCons (mC (.str "wires")) (aCons (mCall 4 fn_first_wrong [] (aCons (mV 1) (aCons (mC (.int 1)) (aCons (mC (.int (10))) (aCons (mC (.fn "is_wire")) (aNil)))))) (aNil))))) (sSeq (sDrop (mCall 2 fn_require_part [] (aCons (mC (.str "volts")) (aCons (mIf (mB (mCall 3 fn_is_within [] (aCons (mV 2) (aCons (mC (.int 1)) (aCons (mC (.int (99999))) (aNil)))))) (mC .non) (mNeg (mC (.int 1)))) (aNil))))) (sSeq (sDrop (mCall 2 fn_require_part [] (aCons (mC (.str "limit")) (aCons (mIf (mB (mCall 3 fn_is_within [] (aCons (mV 3) (aCons (mC (.int 0)) (aCons (mC (.int (99999))) (aNil)))))) (mC .non) (mNeg (mC (.int 1)))) (aNil))))) (sSeq (sFldS ["Harness"] "rows" (mV 0) (mV 1)) (sSeq (sFldS ["Harness"] "volts" (mV 0) (mV 2)) (sSeq (sFldS ["Harness"] "limit" (mV 0) (mV 3)) (sFldS ["Harness"] "names" (mV 0) (mCall 1 fn_names_in [] (aCons (mV 1) (aNil)))))))))
noncomputable def fn_Harness_init : Fn := mkFn 4 m_Harness_init
theorem b_Harness_init (t : Tx K mg) : Body P w K mg base (TT K) 4 N_Harness_init "Harness.__init__" (defBody s_Harness_init) (defScope s_Harness_init) m_Harness_init := fun p f cdv A outer s H E hr => dss_cons (ds_expr (de_call ((c_require_part t).pin p) (hr.mono (by omega)) (da_cons (de_str) (da_cons (de_call ((c_first_wrong t).pin p) (hr.mono (by omega)) (da_cons (de_v 1) (da_cons (de_int) (da_cons (de_gi t.i_MOST_WIRES) (da_cons (de_gf (n := "is_wire") t.g_is_wire) (da_nil)))))) (da_nil))))) (dss_cons (ds_expr (de_call ((c_require_part t).pin p) (hr.mono (by omega)) (da_cons (de_str) (da_cons (de_if (dt_val (de_call ((c_is_within t).pin p) (hr.mono (by omega)) (da_cons (de_v 2) (da_cons (de_int) (da_cons (de_gi t.i_MOST_VOLTS) (da_nil)))))) (de_non) (de_neg (de_int))) (da_nil))))) (dss_cons (ds_expr (de_call ((c_require_part t).pin p) (hr.mono (by omega)) (da_cons (de_str) (da_cons (de_if (dt_val (de_call ((c_is_within t).pin p) (hr.mono (by omega)) (da_cons (de_v 3) (da_cons (de_int) (da_cons (de_gi t.i_MOST_VOLTS) (da_nil)))))) (de_non) (de_neg (de_int))) (da_nil))))) (dss_cons (ds_fld (f := "rows") (de_v 0) (de_v 1) (fld_of t.c_Harness t.n_Harness_rows)) (dss_cons (ds_fld (f := "volts") (de_v 0) (de_v 2) (fld_of t.c_Harness t.n_Harness_volts)) (dss_cons (ds_fld (f := "limit") (de_v 0) (de_v 3) (fld_of t.c_Harness t.n_Harness_limit)) (dss_one (ds_fld (f := "names") (de_v 0) (de_call ((c_names_in t).pin p) (hr.mono (by omega)) (da_cons (de_v 1) (da_nil))) (fld_of t.c_Harness t.n_Harness_names))))))))
theorem c_Harness_init (t : Tx K mg) : Mak P w K mg base (TT K) 5 "Harness" "Harness" 4 fn_Harness_init [] := mak_of t.d_Harness_init rfl t.k_Harness t.g_Harness sc_Harness_init (fun _ F => F.bindsN fun _ _ _ _ _ _ us hl => match us, hl with | [_, _, _, _], _ => rfl) (b_Harness_init t)
abbrev s_law_path : Stmt := top 54
abbrev N_law_path : List Str := ["rows", "k", "turn", "names", "found", "one"]
theorem sc_law_path : FnScope N_law_path ["rows", "k"] (defScope s_law_path) := ⟨rfl, rfl, rfl, by decide +kernel, rfl, by decide +kernel, by decide +kernel⟩
noncomputable def lc_law_path_0 : M W := mLc [5] (mSeq (mV 0)) (tgN 5) (ret true) (m2 (rd2 gIx) (mV 5) (mC (.int 0)))
noncomputable def bo_law_path_1 : M Fl := sSeq (sIf (mB (m2 fEq (m2 (rd2 gIx) (m2 (rd2 gIx) (mV 0) (m2 (rd2 gIx) (mV 4) (mC (.int 0)))) (mC (.int 1))) (mC (.str "source")))) (ret .bk) (sNx)) (sSet 4 (mFz (m2 fAdd (mLst (aCons (mIdxL (mV 3) (aCons (m2 (rd2 gIx) (m2 (rd2 gIx) (mV 0) (m2 (rd2 gIx) (mV 4) (mC (.int 0)))) (mC (.int 1))) (aNil))) (aNil))) (mV 4))))
noncomputable def fo_law_path_2 : M Fl := sFor (mRng1 (aCons (bnd (aCons (mV 0) (aNil)) (rd1 gLen)) (aNil))) (tgN 2) (bo_law_path_1)
noncomputable def m_law_path : M Fl := sSeq (sPar 3 4 (mFz (lc_law_path_0)) (mFz (mLst (aCons (mV 1) (aNil))))) (sSeq (fo_law_path_2) (sRet (mV 4)))
noncomputable def fn_law_path : Fn := mkFn 6 m_law_path
theorem b_law_path (t : Tx K mg) : Body P w K mg base (TT K) 0 N_law_path "_law_path" (defBody s_law_path) (defScope s_law_path) m_law_path := fun p f cdv A outer s H E hr => dss_cons (ds_par 3 4 rfl sc_law_path.nd (de_fz (de_lc (own := [("one", 5)]) rfl sc_law_path.nd (di_seq (de_v 0)) (by rfl) (fun _ _ _ _ _ => dg_n 5 sc_law_path.nd) (fun _ _ _ _ _ => dts_nil) (fun _ _ _ _ _ => de_ix (de_v 5) (de_int)) (by decide) (by decide))) (de_fz (de_lst (da_cons (de_v 1) (da_nil))))) (dss_cons (ds_for rfl (di_rng1 t.b_range (da_cons (de_callB call_len pl_len t.b_len (da_cons (de_v 0) (da_nil))) (da_nil))) (dg_n 2 sc_law_path.nd) (dss_cons (ds_if (dt_cmp (op_eqD (hu64 hr)) p_eq (de_ix (de_ix (de_v 0) (de_ix (de_v 4) (de_int))) (de_int)) (de_str) (by rfl)) (dss_one (ds_break)) (dss_nil)) (dss_one (ds_set 4 sc_law_path.nd (de_fz (de_op op_addA p_add (de_lst (da_cons (de_idxL hr (de_v 3) (da_cons (de_ix (de_ix (de_v 0) (de_ix (de_v 4) (de_int))) (de_int)) (da_nil))) (da_nil))) (de_v 4))))))) (dss_one (ds_ret (de_v 4))))
theorem c_law_path (t : Tx K mg) : Cal P w K mg base (TT K) 1 "_law_path" 2 fn_law_path [] := cal_of t.d_law_path t.g__law_path sc_law_path (fun _ F => F.bindsN fun _ _ _ _ _ _ us hl => match us, hl with | [_, _], _ => rfl) (b_law_path t)
abbrev s_law_flows : Stmt := top 55
abbrev N_law_flows : List Str := ["rows", "k", "j"]
theorem sc_law_flows : FnScope N_law_flows ["rows"] (defScope s_law_flows) := ⟨rfl, rfl, rfl, by decide +kernel, rfl, by decide +kernel, by decide +kernel⟩
noncomputable def lc_law_flows_0 : M W := mLc [2] (mRng1 (aCons (bnd (aCons (mV 0) (aNil)) (rd1 gLen)) (aNil))) (tgN 2) (mB (m2 fIn (mV 1) (mCall 2 fn_law_path [] (aCons (mV 0) (aCons (mV 2) (aNil)))))) (m2 (rd2 gIx) (m2 (rd2 gIx) (mV 0) (mV 2)) (mC (.int 3)))
noncomputable def lc_law_flows_1 : M W := mLc [1] (mRng1 (aCons (bnd (aCons (mV 0) (aNil)) (rd1 gLen)) (aNil))) (tgN 1) (ret true) (bnd (aCons (lc_law_flows_0) (aNil)) (rd1 gSum))
noncomputable def m_law_flows : M Fl := sRet (lc_law_flows_1)
noncomputable def fn_law_flows : Fn := mkFn 3 m_law_flows
theorem b_law_flows (t : Tx K mg) : Body P w K mg base (TT K) 1 N_law_flows "_law_flows" (defBody s_law_flows) (defScope s_law_flows) m_law_flows := fun p f cdv A outer s H E hr => dss_one (ds_ret (de_lc (own := [("k", 1)]) rfl sc_law_flows.nd (di_rng1 t.b_range (da_cons (de_callB call_len pl_len t.b_len (da_cons (de_v 0) (da_nil))) (da_nil))) (by rfl) (fun _ _ _ _ _ => dg_n 1 sc_law_flows.nd) (fun _ _ _ _ _ => dts_nil) (fun _ _ _ _ _ => de_callB (cr_sum rfl) pl_sum t.b_sum (da_cons (de_lc (own := [("j", 2)]) rfl sc_law_flows.nd (di_rng1 t.b_range (da_cons (de_callB call_len pl_len t.b_len (da_cons (de_v 0) (da_nil))) (da_nil))) (by rfl) (fun _ _ _ _ _ => dg_n 2 sc_law_flows.nd) (fun _ _ _ _ _ => dts_one (dt_cmp (op_inP (hu64 hr)) p_in (de_v 1) (de_call ((c_law_path t).pin p) (hr.mono (by omega)) (da_cons (de_v 0) (da_cons (de_v 2) (da_nil)))) (by rfl))) (fun _ _ _ _ _ => de_ix (de_ix (de_v 0) (de_v 2)) (de_int)) (by decide) (by decide)) (da_nil))) (by decide) (by decide)))
theorem c_law_flows (t : Tx K mg) : Cal P w K mg base (TT K) 2 "_law_flows" 1 fn_law_flows [] := cal_of t.d_law_flows t.g__law_flows sc_law_flows (fun _ F => F.bindsN fun _ _ _ _ _ _ us hl => match us, hl with | [_], _ => rfl) (b_law_flows t)
abbrev s_law_kids : Stmt := top 58
abbrev N_law_kids : List Str := ["rows", "k", "name", "j"]
theorem sc_law_kids : FnScope N_law_kids ["rows", "k"] (defScope s_law_kids) := ⟨rfl, rfl, rfl, by decide +kernel, rfl, by decide +kernel, by decide +kernel⟩
noncomputable def lc_law_kids_0 : M W := mLc [3] (mRng1 (aCons (bnd (aCons (mV 0) (aNil)) (rd1 gLen)) (aNil))) (tgN 3) (mB (m2 fEq (m2 (rd2 gIx) (m2 (rd2 gIx) (mV 0) (mV 3)) (mC (.int 1))) (mV 2))) (mV 3)
noncomputable def m_law_kids : M Fl := sSeq (sSet 2 (mIf (mB (m2 fLt (mV 1) (mC (.int 0)))) (mC (.str "source")) (m2 (rd2 gIx) (m2 (rd2 gIx) (mV 0) (mV 1)) (mC (.int 0))))) (sRet (lc_law_kids_0))
noncomputable def fn_law_kids : Fn := mkFn 4 m_law_kids
theorem b_law_kids (t : Tx K mg) : Body P w K mg base (TT K) 0 N_law_kids "_law_kids" (defBody s_law_kids) (defScope s_law_kids) m_law_kids := fun p f cdv A outer s H E hr => dss_cons (ds_set 2 sc_law_kids.nd (de_if (dt_cmp op_lt p_cmpI (de_v 1) (de_int) (by rfl)) (de_str) (de_ix (de_ix (de_v 0) (de_v 1)) (de_int)))) (dss_one (ds_ret (de_lc (own := [("j", 3)]) rfl sc_law_kids.nd (di_rng1 t.b_range (da_cons (de_callB call_len pl_len t.b_len (da_cons (de_v 0) (da_nil))) (da_nil))) (by rfl) (fun _ _ _ _ _ => dg_n 3 sc_law_kids.nd) (fun _ _ _ _ _ => dts_one (dt_cmp (op_eqD (hu64 hr)) p_eq (de_ix (de_ix (de_v 0) (de_v 3)) (de_int)) (de_v 2) (by rfl))) (fun _ _ _ _ _ => de_v 3) (by decide) (by decide))))
theorem c_law_kids (t : Tx K mg) : Cal P w K mg base (TT K) 1 "_law_kids" 2 fn_law_kids [] := cal_of t.d_law_kids t.g__law_kids sc_law_kids (fun _ F => F.bindsN fun _ _ _ _ _ _ us hl => match us, hl with | [_, _], _ => rfl) (b_law_kids t)
abbrev s_law_least_tables : Stmt := top 59
abbrev N_law_least_tables : List Str := ["rows", "gauges", "limit", "turn", "flows", "found", "k", "entries", "left", "costs", "ohms", "cost", "rest", "parts", "j"]
theorem sc_law_least_tables : FnScope N_law_least_tables ["rows", "gauges", "limit"] (defScope s_law_least_tables) := ⟨rfl, rfl, rfl, by decide +kernel, rfl, by decide +kernel, by decide +kernel⟩
noncomputable def lc_law_least_tables_0 : M W := mLc [14] (mSeq (mCall 2 fn_law_kids [] (aCons (mV 0) (aCons (mV 6) (aNil))))) (tgN 14) (ret true) (m2 (rd2 gIx) (m2 (rd2 gIx) (mV 5) (mV 14)) (mV 12))
noncomputable def bo_law_least_tables_1 : M Fl := sSeq (sSet 12 (m2 fSub (mV 8) (m2 fMul (mV 10) (m2 (rd2 gIx) (mV 4) (mV 6))))) (sSeq (sSet 13 (mFz (mIf (mB (m2 fGe (mV 12) (mC (.int 0)))) (lc_law_least_tables_0) (mLst (aCons (mC .non) (aNil)))))) (sExtend (mV 9) (aCons (mIf (mB (m2 fNotIn (mC .non) (mV 13))) (mLst (aCons (m2 fAdd (mV 11) (bnd (aCons (mV 13) (aNil)) (rd1 gSum))) (aNil))) (mLst (aNil))) (aNil))))
noncomputable def fo_law_least_tables_2 : M Fl := sFor (mSeq (mV 1)) (tgT [10, 11]) (bo_law_least_tables_1)
noncomputable def bo_law_least_tables_3 : M Fl := sSeq (sSet 9 (mLst (aNil))) (sSeq (fo_law_least_tables_2) (sAppend (mV 7) (aCons (mIf (mB (m2 fNe (mV 9) (mLst (aNil)))) (bnd (aCons (mV 9) (aNil)) (rd1 gMinL)) (mC .non)) (aNil))))
noncomputable def fo_law_least_tables_4 : M Fl := sFor (mRng1 (aCons (m2 fAdd (mV 2) (mC (.int 1))) (aNil))) (tgN 8) (bo_law_least_tables_3)
noncomputable def bo_law_least_tables_5 : M Fl := sSeq (sSet 6 (m2 fSub (m2 fSub (bnd (aCons (mV 0) (aNil)) (rd1 gLen)) (mC (.int 1))) (mV 3))) (sSeq (sSet 7 (mLst (aNil))) (sSeq (fo_law_least_tables_4) (sPut (bnd (aCons (mV 7) (aNil)) fTupOf) (mV 5) (mV 6))))
noncomputable def fo_law_least_tables_6 : M Fl := sFor (mRng1 (aCons (bnd (aCons (mV 0) (aNil)) (rd1 gLen)) (aNil))) (tgN 3) (bo_law_least_tables_5)
noncomputable def m_law_least_tables : M Fl := sSeq (sPar 4 5 (mFz (mCall 1 fn_law_flows [] (aCons (mV 0) (aNil)))) (m2 fMul (mLst (aCons (mC .non) (aNil))) (bnd (aCons (mV 0) (aNil)) (rd1 gLen)))) (sSeq (fo_law_least_tables_6) (sRet (bnd (aCons (mV 5) (aNil)) fTupOf)))
noncomputable def fn_law_least_tables : Fn := mkFn 15 m_law_least_tables
theorem b_law_least_tables (t : Tx K mg) : Body P w K mg base (TT K) 2 N_law_least_tables "_law_least_tables" (defBody s_law_least_tables) (defScope s_law_least_tables) m_law_least_tables := fun p f cdv A outer s H E hr => dss_cons (ds_parC 4 5 rfl sc_law_least_tables.nd (de_fz (de_call ((c_law_flows t).pin p) (hr.mono (by omega)) (da_cons (de_v 0) (da_nil)))) (de_op op_mulA p_mul (de_lst (da_cons (de_non) (da_nil))) (de_callB call_len pl_len t.b_len (da_cons (de_v 0) (da_nil))))) (dss_cons (ds_for rfl (di_rng1 t.b_range (da_cons (de_callB call_len pl_len t.b_len (da_cons (de_v 0) (da_nil))) (da_nil))) (dg_n 3 sc_law_least_tables.nd) (dss_cons (ds_set 6 sc_law_least_tables.nd (de_op op_sub p_sub (de_op op_sub p_sub (de_callB call_len pl_len t.b_len (da_cons (de_v 0) (da_nil))) (de_int)) (de_v 3))) (dss_cons (ds_set 7 sc_law_least_tables.nd (de_lst (da_nil))) (dss_cons (ds_for rfl (di_rng1 t.b_range (da_cons (de_op op_addA p_add (de_v 2) (de_int)) (da_nil))) (dg_n 8 sc_law_least_tables.nd) (dss_cons (ds_set 9 sc_law_least_tables.nd (de_lst (da_nil))) (dss_cons (ds_for rfl (di_seq (de_v 1)) (dg_t (K := K) rfl rfl (dgs_cons 10 sc_law_least_tables.nd (dgs_cons 11 sc_law_least_tables.nd (dgs_nil)))) (dss_cons (ds_set 12 sc_law_least_tables.nd (de_op op_sub p_sub (de_v 8) (de_op op_mulA p_mul (de_v 10) (de_ix (de_v 4) (de_v 6))))) (dss_cons (ds_set 13 sc_law_least_tables.nd (de_fz (de_if (dt_cmp op_ge p_cmpI (de_v 12) (de_int) (by rfl)) (de_lc (own := [("j", 14)]) rfl sc_law_least_tables.nd (di_seq (de_call ((c_law_kids t).pin p) (hr.mono (by omega)) (da_cons (de_v 0) (da_cons (de_v 6) (da_nil))))) (by rfl) (fun _ _ _ _ _ => dg_n 14 sc_law_least_tables.nd) (fun _ _ _ _ _ => dts_nil) (fun _ _ _ _ _ => de_ix (de_ix (de_v 5) (de_v 14)) (de_v 12)) (by decide) (by decide)) (de_lst (da_cons (de_non) (da_nil)))))) (dss_one (ds_extend (de_v 9) (da_cons (de_if (dt_cmp (op_notInP (hu64 hr)) p_notIn (de_non) (de_v 13) (by rfl)) (de_lst (da_cons (de_op op_addA p_add (de_v 11) (de_callB (cr_sum rfl) pl_sum t.b_sum (da_cons (de_v 13) (da_nil)))) (da_nil))) (de_lst (da_nil))) (da_nil))))))) (dss_one (ds_append (de_v 7) (da_cons (de_if (dt_cmp (op_neD (hu64 hr)) p_ne (de_v 9) (de_lst (da_nil)) (by rfl)) (de_callB (call_minD rfl (hu64 hr)) pl_minL t.b_min (da_cons (de_v 9) (da_nil))) (de_non)) (da_nil))))))) (dss_one (ds_put (de_callTy call_tupF pl_tupOf t.b_tuple (da_cons (de_v 7) (da_nil))) (de_v 5) (de_v 6))))))) (dss_one (ds_ret (de_callTy call_tupF pl_tupOf t.b_tuple (da_cons (de_v 5) (da_nil))))))
theorem c_law_least_tables (t : Tx K mg) : Cal P w K mg base (TT K) 3 "_law_least_tables" 3 fn_law_least_tables [] := cal_of t.d_law_least_tables t.g__law_least_tables sc_law_least_tables (fun _ F => F.bindsN fun _ _ _ _ _ _ us hl => match us, hl with | [_, _, _], _ => rfl) (b_law_least_tables t)
abbrev s_law_alike : Stmt := top 51
abbrev N_law_alike : List Str := ["found", "due", "k"]
theorem sc_law_alike : FnScope N_law_alike ["found", "due"] (defScope s_law_alike) := ⟨rfl, rfl, rfl, by decide +kernel, rfl, by decide +kernel, by decide +kernel⟩
noncomputable def lc_law_alike_0 (fn : Fn) : M W := mLc [2] (mRng1 (aCons (bnd (aCons (mV 1) (aNil)) (rd1 gLen)) (aNil))) (tgN 2) (mNot (mB (mCall 2 fn [] (aCons (m2 (rd2 gIx) (mV 0) (mV 2)) (aCons (m2 (rd2 gIx) (mV 1) (mV 2)) (aNil)))))) (mV 2)
noncomputable def m_law_alike (fn : Fn) : M Fl := sSeq (sIf (mB (bnd (aCons (mV 1) (aCons (mTup (aCons (mC (.ty "tuple")) (aCons (mC (.ty "list")) (aNil)))) (aNil))) (rdL2 gIsiT))) (sSeq (sIf (mOr (mNot (mB (bnd (aCons (mV 0) (aCons (mTup (aCons (mC (.ty "tuple")) (aCons (mC (.ty "list")) (aNil)))) (aNil))) (rdL2 gIsiT)))) (mB (m2 fNe (bnd (aCons (mV 0) (aCons (mC (.ty "list")) (aNil))) (rdL2 gIsi)) (bnd (aCons (mV 1) (aCons (mC (.ty "list")) (aNil))) (rdL2 gIsi))))) (sRet (mC (.bl false))) (sNx)) (sSeq (sIf (mB (m2 fNe (bnd (aCons (mV 0) (aNil)) (rd1 gLen)) (bnd (aCons (mV 1) (aNil)) (rd1 gLen)))) (sRet (mC (.bl false))) (sNx)) (sRet (m2 fEq ((lc_law_alike_0 fn)) (mLst (aNil)))))) (sNx)) (sSeq (sIf (mOr (mB (mNone false (mV 1))) (mB (bnd (aCons (mV 1) (aCons (mC (.ty "str")) (aNil))) (rdL2 gIsi)))) (sRet (mAndV (m2 fEq (mV 0) (mV 1)) (m2 fEq (bnd (aCons (mV 0) (aCons (mC (.ty "str")) (aNil))) (rdL2 gIsi)) (bnd (aCons (mV 1) (aCons (mC (.ty "str")) (aNil))) (rdL2 gIsi))))) (sNx)) (sRet (mAndV (bnd (aCons (mV 0) (aCons (mC (.ty "int")) (aNil))) (rdL2 gIsi)) (mAndV (m2 fEq (bnd (aCons (mV 0) (aCons (mC (.ty "bool")) (aNil))) (rdL2 gIsi)) (bnd (aCons (mV 1) (aCons (mC (.ty "bool")) (aNil))) (rdL2 gIsi))) (m2 fEq (mV 0) (mV 1))))))
noncomputable def fn_law_alike : Nat → Fn
  | 0 => fun _ => .bad
  | d + 1 => mkFn 3 (m_law_alike (fn_law_alike d))
theorem b_law_alike (t : Tx K mg) {k : Nat} {fn : Fn} (hk : 0 ≤ k) (ih : Cal P w K mg base (TT K) k "_law_alike" 2 fn []) : Body P w K mg base (TT K) k N_law_alike "_law_alike" (defBody s_law_alike) (defScope s_law_alike) (m_law_alike fn) := fun p f cdv A outer s H E hr => dss_cons (ds_if (dt_val (de_callB call_isiS pl_isiT t.b_isinstance (da_cons (de_v 1) (da_cons (de_tup (da_cons (de_ty t.b_tuple) (da_cons (de_ty t.b_list) (da_nil)))) (da_nil))))) (dss_cons (ds_if (DW.dt (dw_or (dt_not (dt_val (de_callB call_isiS pl_isiT t.b_isinstance (da_cons (de_v 0) (da_cons (de_tup (da_cons (de_ty t.b_tuple) (da_cons (de_ty t.b_list) (da_nil)))) (da_nil)))))) (dw_or1 (dt_cmp (op_neD (hu64 hr)) p_ne (de_callB call_isi pl_isi t.b_isinstance (da_cons (de_v 0) (da_cons (de_ty t.b_list) (da_nil)))) (de_callB call_isi pl_isi t.b_isinstance (da_cons (de_v 1) (da_cons (de_ty t.b_list) (da_nil)))) (by rfl))))) (dss_one (ds_ret (de_bl))) (dss_nil)) (dss_cons (ds_if (dt_cmp (op_neD (hu64 hr)) p_ne (de_callB call_len pl_len t.b_len (da_cons (de_v 0) (da_nil))) (de_callB call_len pl_len t.b_len (da_cons (de_v 1) (da_nil))) (by rfl)) (dss_one (ds_ret (de_bl))) (dss_nil)) (dss_one (ds_ret (de_cmp (op_eqD (hu64 hr)) p_eq (de_lc (own := [("k", 2)]) rfl sc_law_alike.nd (di_rng1 t.b_range (da_cons (de_callB call_len pl_len t.b_len (da_cons (de_v 1) (da_nil))) (da_nil))) (by rfl) (fun _ _ _ _ _ => dg_n 2 sc_law_alike.nd) (fun _ _ _ _ _ => dts_one (dt_not (dt_val (de_call (ih.pin p) (hr.mono (Nat.le_refl _)) (da_cons (de_ix (de_v 0) (de_v 2)) (da_cons (de_ix (de_v 1) (de_v 2)) (da_nil))))))) (fun _ _ _ _ _ => de_v 2) (by decide) (by decide)) (de_lst (da_nil)) (by rfl)))))) (dss_nil)) (dss_cons (ds_if (DW.dt (dw_or (dt_isN (de_v 1)) (dw_or1 (dt_val (de_callB call_isi pl_isi t.b_isinstance (da_cons (de_v 1) (da_cons (de_ty t.b_str) (da_nil)))))))) (dss_one (ds_ret (de_and (de_cmp (op_eqD (hu64 hr)) p_eq (de_v 0) (de_v 1) (by rfl)) (de_one (de_cmp (op_eqD (hu64 hr)) p_eq (de_callB call_isi pl_isi t.b_isinstance (da_cons (de_v 0) (da_cons (de_ty t.b_str) (da_nil)))) (de_callB call_isi pl_isi t.b_isinstance (da_cons (de_v 1) (da_cons (de_ty t.b_str) (da_nil)))) (by rfl)))))) (dss_nil)) (dss_one (ds_ret (de_and (de_callB call_isi pl_isi t.b_isinstance (da_cons (de_v 0) (da_cons (de_ty t.b_int) (da_nil)))) (de_and (de_cmp (op_eqD (hu64 hr)) p_eq (de_callB call_isi pl_isi t.b_isinstance (da_cons (de_v 0) (da_cons (de_ty t.b_bool) (da_nil)))) (de_callB call_isi pl_isi t.b_isinstance (da_cons (de_v 1) (da_cons (de_ty t.b_bool) (da_nil)))) (by rfl)) (de_one (de_cmp (op_eqD (hu64 hr)) p_eq (de_v 0) (de_v 1) (by rfl))))))))
theorem c_law_alike (t : Tx K mg) : ∀ d : Nat, Cal P w K mg base (TT K) (d + 1) "_law_alike" 2 (fn_law_alike d) []
  | 0 => (cal_of t.d_law_alike t.g__law_alike sc_law_alike (fun _ F => F.bindsN fun _ _ _ _ _ _ us hl => match us, hl with | [_, _], _ => rfl) fun p f cdv A outer s H E hr => dss_never)
  | d + 1 => cal_of t.d_law_alike t.g__law_alike sc_law_alike (fun _ F => F.bindsN fun _ _ _ _ _ _ us hl => match us, hl with | [_, _], _ => rfl) (b_law_alike t (by omega) (c_law_alike t d))
abbrev s_are_gauges : Stmt := top 40
abbrev N_are_gauges : List Str := ["harness", "gauges", "limit", "value", "left", "told", "place", "row", "name", "number"]
theorem sc_are_gauges : FnScope N_are_gauges ["harness", "gauges", "limit", "value"] (defScope s_are_gauges) := ⟨rfl, rfl, rfl, by decide +kernel, rfl, by decide +kernel, by decide +kernel⟩
noncomputable def lc_are_gauges_0 : M W := mLc [9] (mSeq (mV 3)) (tgN 9) (ret true) (mAndV (mCall 1 fn_is_whole [] (aCons (mV 9) (aNil))) (mCh fLe fLt (mC (.int 0)) (mV 9) (bnd (aCons (mV 1) (aNil)) (rd1 gLen))))
noncomputable def bo_are_gauges_1 : M Fl := sDPut (m2 fSub (m2 (rd2 gDx) (mV 4) (m2 (rd2 gIx) (mV 7) (mC (.int 1)))) (m2 fMul (m2 (rd2 gIx) (m2 (rd2 gIx) (mV 1) (m2 (rd2 gIx) (mV 3) (mV 6))) (mC (.int 0))) (m2 (rd2 gIx) (mV 5) (mV 6)))) (mV 4) (m2 (rd2 gIx) (mV 7) (mC (.int 0)))
noncomputable def fo_are_gauges_2 : M Fl := sFor (mEnumT (aCons (mFld ["Harness"] "rows" (mV 0)) (aNil))) (tgT [6, 7]) (bo_are_gauges_1)
noncomputable def lc_are_gauges_3 : M W := mLc [8] (mKeys (mV 4)) (tgN 8) (ret true) (m2 fGe (m2 (rd2 gDx) (mV 4) (mV 8)) (mC (.int 0)))
noncomputable def m_are_gauges : M Fl := sSeq (sDrop (mCall 2 fn_require_gauges [] (aCons (mV 1) (aCons (mV 2) (aNil))))) (sSeq (sIf (mNot (mB (mCall 2 fn_is_row [] (aCons (mV 3) (aCons (bnd (aCons (mFld ["Harness"] "rows" (mV 0)) (aNil)) (rd1 gLen)) (aNil)))))) (sRet (mC (.bl false))) (sNx)) (sSeq (sIf (mNot (mB (bnd (aCons (lc_are_gauges_0) (aNil)) (rd1 gAll)))) (sRet (mC (.bl false))) (sNx)) (sSeq (sPar 4 5 (mDic1 (mC (.str "source")) (mV 2)) (mCall 1 fn_currents [] (aCons (mV 0) (aNil)))) (sSeq (fo_are_gauges_2) (sRet (bnd (aCons (lc_are_gauges_3) (aNil)) (rd1 gAll)))))))
noncomputable def fn_are_gauges : Fn := mkFn 10 m_are_gauges
theorem b_are_gauges (t : Tx K mg) : Body P w K mg base (TT K) 5 N_are_gauges "are_gauges" (defBody s_are_gauges) (defScope s_are_gauges) m_are_gauges := fun p f cdv A outer s H E hr => dss_cons (ds_expr (de_call ((c_require_gauges t).pin p) (hr.mono (by omega)) (da_cons (de_v 1) (da_cons (de_v 2) (da_nil))))) (dss_cons (ds_if (dt_not (dt_val (de_call ((c_is_row t).pin p) (hr.mono (by omega)) (da_cons (de_v 3) (da_cons (de_callB call_len pl_len t.b_len (da_cons (de_fld (f := "rows") (de_v 0) (fld_of t.c_Harness t.n_Harness_rows)) (da_nil))) (da_nil)))))) (dss_one (ds_ret (de_bl))) (dss_nil)) (dss_cons (ds_if (dt_not (dt_val (de_callB (cr_all rfl) pl_all t.b_all (da_cons (de_lc (own := [("number", 9)]) rfl sc_are_gauges.nd (di_seq (de_v 3)) (by rfl) (fun _ _ _ _ _ => dg_n 9 sc_are_gauges.nd) (fun _ _ _ _ _ => dts_nil) (fun _ _ _ _ _ => de_and (de_call ((c_is_whole t).pin p) (hr.mono (by omega)) (da_cons (de_v 9) (da_nil))) (de_one (de_ch op_le p_cmpI op_lt p_cmpI (de_int) (de_v 9) (de_callB call_len pl_len t.b_len (da_cons (de_v 1) (da_nil)))))) (by decide) (by decide)) (da_nil))))) (dss_one (ds_ret (de_bl))) (dss_nil)) (dss_cons (ds_parC 4 5 rfl sc_are_gauges.nd (de_dic1 (de_gs t.s_ROOT) (de_v 2)) (de_call ((c_currents t).pin p) (hr.mono (by omega)) (da_cons (de_v 0) (da_nil)))) (dss_cons (ds_for rfl (di_enumT t.b_enumerate (da_cons (de_fld (f := "rows") (de_v 0) (fld_of t.c_Harness t.n_Harness_rows)) (da_nil))) (dg_t (K := K) rfl rfl (dgs_cons 6 sc_are_gauges.nd (dgs_cons 7 sc_are_gauges.nd (dgs_nil)))) (dss_one (ds_dput hr (de_op op_sub p_sub (de_dx hr (de_v 4) (de_ix (de_v 7) (de_int))) (de_op op_mulA p_mul (de_ix (de_ix (de_v 1) (de_ix (de_v 3) (de_v 6))) (de_int)) (de_ix (de_v 5) (de_v 6)))) (de_v 4) (de_ix (de_v 7) (de_int))))) (dss_one (ds_ret (de_callB (cr_all rfl) pl_all t.b_all (da_cons (de_lc (own := [("name", 8)]) rfl sc_are_gauges.nd (di_keys (de_v 4)) (by rfl) (fun _ _ _ _ _ => dg_n 8 sc_are_gauges.nd) (fun _ _ _ _ _ => dts_nil) (fun _ _ _ _ _ => de_cmp op_ge p_cmpI (de_dx hr (de_v 4) (de_v 8)) (de_int) (by rfl)) (by decide) (by decide)) (da_nil)))))))))
theorem c_are_gauges (t : Tx K mg) : Cal P w K mg base (TT K) 6 "are_gauges" 4 fn_are_gauges [] := cal_of t.d_are_gauges t.g_are_gauges sc_are_gauges (fun _ F => F.bindsN fun _ _ _ _ _ _ us hl => match us, hl with | [_, _, _, _], _ => rfl) (b_are_gauges t)
abbrev s_is_below : Stmt := top 44
abbrev N_is_below : List Str := ["entry", "costs", "cost"]
theorem sc_is_below : FnScope N_is_below ["entry", "costs"] (defScope s_is_below) := ⟨rfl, rfl, rfl, by decide +kernel, rfl, by decide +kernel, by decide +kernel⟩
noncomputable def lc_is_below_0 : M W := mLc [2] (mSeq (mV 1)) (tgN 2) (ret true) (m2 fLe (mV 0) (mV 2))
noncomputable def m_is_below : M Fl := sSeq (sIf (mB (mNone false (mV 0))) (sRet (m2 fEq (mV 1) (mLst (aNil)))) (sNx)) (sRet (bnd (aCons (lc_is_below_0) (aNil)) (rd1 gAll)))
noncomputable def fn_is_below : Fn := mkFn 3 m_is_below
theorem b_is_below (t : Tx K mg) : Body P w K mg base (TT K) 0 N_is_below "is_below" (defBody s_is_below) (defScope s_is_below) m_is_below := fun p f cdv A outer s H E hr => dss_cons (ds_if (dt_isN (de_v 0)) (dss_one (ds_ret (de_cmp (op_eqD (hu64 hr)) p_eq (de_v 1) (de_lst (da_nil)) (by rfl)))) (dss_nil)) (dss_one (ds_ret (de_callB (cr_all rfl) pl_all t.b_all (da_cons (de_lc (own := [("cost", 2)]) rfl sc_is_below.nd (di_seq (de_v 1)) (by rfl) (fun _ _ _ _ _ => dg_n 2 sc_is_below.nd) (fun _ _ _ _ _ => dts_nil) (fun _ _ _ _ _ => de_cmp op_le p_cmpI (de_v 0) (de_v 2) (by rfl)) (by decide) (by decide)) (da_nil)))))
theorem c_is_below (t : Tx K mg) : Cal P w K mg base (TT K) 1 "is_below" 2 fn_is_below [] := cal_of t.d_is_below t.g_is_below sc_is_below (fun _ F => F.bindsN fun _ _ _ _ _ _ us hl => match us, hl with | [_, _], _ => rfl) (b_is_below t)
abbrev s_is_entry : Stmt := top 42
abbrev N_is_entry : List Str := ["value"]
theorem sc_is_entry : FnScope N_is_entry ["value"] (defScope s_is_entry) := ⟨rfl, rfl, rfl, by decide +kernel, rfl, by decide +kernel, by decide +kernel⟩
noncomputable def m_is_entry : M Fl := sRet (mOrV (mNone false (mV 0)) (mAndV (mCall 1 fn_is_whole [] (aCons (mV 0) (aNil))) (m2 fGe (mV 0) (mC (.int 0)))))
noncomputable def fn_is_entry : Fn := mkFn 1 m_is_entry
theorem b_is_entry (t : Tx K mg) : Body P w K mg base (TT K) 1 N_is_entry "is_entry" (defBody s_is_entry) (defScope s_is_entry) m_is_entry := fun p f cdv A outer s H E hr => dss_one (ds_ret (de_or (de_isN (de_v 0)) (de_one (de_and (de_call ((c_is_whole t).pin p) (hr.mono (by omega)) (da_cons (de_v 0) (da_nil))) (de_one (de_cmp op_ge p_cmpI (de_v 0) (de_int) (by rfl)))))))
theorem c_is_entry (t : Tx K mg) : Cal P w K mg base (TT K) 2 "is_entry" 1 fn_is_entry [] := cal_of t.d_is_entry t.g_is_entry sc_is_entry (fun _ F => F.bindsN fun _ _ _ _ _ _ us hl => match us, hl with | [_], _ => rfl) (b_is_entry t)
abbrev s_is_table_row : Stmt := top 43
abbrev N_is_table_row : List Str := ["value", "limit", "one"]
theorem sc_is_table_row : FnScope N_is_table_row ["value", "limit"] (defScope s_is_table_row) := ⟨rfl, rfl, rfl, by decide +kernel, rfl, by decide +kernel, by decide +kernel⟩
noncomputable def lc_is_table_row_0 : M W := mLc [2] (mSeq (mV 0)) (tgN 2) (ret true) (mCall 1 fn_is_entry [] (aCons (mV 2) (aNil)))
noncomputable def m_is_table_row : M Fl := sRet (mAndV (mCall 2 fn_is_row [] (aCons (mV 0) (aCons (m2 fAdd (mV 1) (mC (.int 1))) (aNil)))) (bnd (aCons (lc_is_table_row_0) (aNil)) (rd1 gAll)))
noncomputable def fn_is_table_row : Fn := mkFn 3 m_is_table_row
theorem b_is_table_row (t : Tx K mg) : Body P w K mg base (TT K) 2 N_is_table_row "is_table_row" (defBody s_is_table_row) (defScope s_is_table_row) m_is_table_row := fun p f cdv A outer s H E hr => dss_one (ds_ret (de_and (de_call ((c_is_row t).pin p) (hr.mono (by omega)) (da_cons (de_v 0) (da_cons (de_op op_addA p_add (de_v 1) (de_int)) (da_nil)))) (de_one (de_callB (cr_all rfl) pl_all t.b_all (da_cons (de_lc (own := [("one", 2)]) rfl sc_is_table_row.nd (di_seq (de_v 0)) (by rfl) (fun _ _ _ _ _ => dg_n 2 sc_is_table_row.nd) (fun _ _ _ _ _ => dts_nil) (fun _ _ _ _ _ => de_call ((c_is_entry t).pin p) (hr.mono (by omega)) (da_cons (de_v 2) (da_nil))) (by decide) (by decide)) (da_nil))))))
theorem c_is_table_row (t : Tx K mg) : Cal P w K mg base (TT K) 3 "is_table_row" 2 fn_is_table_row [] := cal_of t.d_is_table_row t.g_is_table_row sc_is_table_row (fun _ F => F.bindsN fun _ _ _ _ _ _ us hl => match us, hl with | [_, _], _ => rfl) (b_is_table_row t)
abbrev s_are_lower : Stmt := top 45
abbrev N_are_lower : List Str := ["harness", "gauges", "limit", "value", "place", "left", "costs", "row", "cost", "number"]
theorem sc_are_lower : FnScope N_are_lower ["harness", "gauges", "limit", "value"] (defScope s_are_lower) := ⟨rfl, rfl, rfl, by decide +kernel, rfl, by decide +kernel, by decide +kernel⟩
noncomputable def lc_are_lower_0 : M W := mLc [7] (mSeq (mV 3)) (tgN 7) (ret true) (mCall 2 fn_is_table_row [] (aCons (mV 7) (aCons (mV 2) (aNil))))
noncomputable def lc_are_lower_1 : M W := mLc [8, 9] (mSeq (mCall 5 fn_choices [] (aCons (mV 0) (aCons (mV 1) (aCons (mV 4) (aCons (mV 5) (aCons (mV 3) (aNil)))))))) (tgT [8, 9]) (ret true) (mV 8)
noncomputable def bo_are_lower_2 : M Fl := sSeq (sSet 6 (mFz (lc_are_lower_1))) (sIf (mNot (mB (mCall 2 fn_is_below [] (aCons (m2 (rd2 gIx) (m2 (rd2 gIx) (mV 3) (mV 4)) (mV 5)) (aCons (mV 6) (aNil)))))) (sRet (mC (.bl false))) (sNx))
noncomputable def fo_are_lower_3 : M Fl := sFor (mRng1 (aCons (m2 fAdd (mV 2) (mC (.int 1))) (aNil))) (tgN 5) (bo_are_lower_2)
noncomputable def bo_are_lower_4 : M Fl := fo_are_lower_3
noncomputable def fo_are_lower_5 : M Fl := sFor (mRng1 (aCons (bnd (aCons (mV 3) (aNil)) (rd1 gLen)) (aNil))) (tgN 4) (bo_are_lower_4)
noncomputable def m_are_lower : M Fl := sSeq (sDrop (mCall 2 fn_require_gauges [] (aCons (mV 1) (aCons (mV 2) (aNil))))) (sSeq (sIf (mOr (mNot (mB (mCall 2 fn_is_row [] (aCons (mV 3) (aCons (bnd (aCons (mFld ["Harness"] "rows" (mV 0)) (aNil)) (rd1 gLen)) (aNil)))))) (mNot (mB (bnd (aCons (lc_are_lower_0) (aNil)) (rd1 gAll))))) (sRet (mC (.bl false))) (sNx)) (sSeq (fo_are_lower_5) (sRet (mC (.bl true)))))
noncomputable def fn_are_lower : Fn := mkFn 10 m_are_lower
theorem b_are_lower (t : Tx K mg) : Body P w K mg base (TT K) 5 N_are_lower "are_lower" (defBody s_are_lower) (defScope s_are_lower) m_are_lower := fun p f cdv A outer s H E hr => dss_cons (ds_expr (de_call ((c_require_gauges t).pin p) (hr.mono (by omega)) (da_cons (de_v 1) (da_cons (de_v 2) (da_nil))))) (dss_cons (ds_if (DW.dt (dw_or (dt_not (dt_val (de_call ((c_is_row t).pin p) (hr.mono (by omega)) (da_cons (de_v 3) (da_cons (de_callB call_len pl_len t.b_len (da_cons (de_fld (f := "rows") (de_v 0) (fld_of t.c_Harness t.n_Harness_rows)) (da_nil))) (da_nil)))))) (dw_or1 (dt_not (dt_val (de_callB (cr_all rfl) pl_all t.b_all (da_cons (de_lc (own := [("row", 7)]) rfl sc_are_lower.nd (di_seq (de_v 3)) (by rfl) (fun _ _ _ _ _ => dg_n 7 sc_are_lower.nd) (fun _ _ _ _ _ => dts_nil) (fun _ _ _ _ _ => de_call ((c_is_table_row t).pin p) (hr.mono (by omega)) (da_cons (de_v 7) (da_cons (de_v 2) (da_nil)))) (by decide) (by decide)) (da_nil)))))))) (dss_one (ds_ret (de_bl))) (dss_nil)) (dss_cons (ds_for rfl (di_rng1 t.b_range (da_cons (de_callB call_len pl_len t.b_len (da_cons (de_v 3) (da_nil))) (da_nil))) (dg_n 4 sc_are_lower.nd) (dss_one (ds_for rfl (di_rng1 t.b_range (da_cons (de_op op_addA p_add (de_v 2) (de_int)) (da_nil))) (dg_n 5 sc_are_lower.nd) (dss_cons (ds_setLcF 6 (own := [("cost", 8), ("number", 9)]) rfl sc_are_lower.nd (di_seq (de_call ((c_choices t).pin p) (hr.mono (by omega)) (da_cons (de_v 0) (da_cons (de_v 1) (da_cons (de_v 4) (da_cons (de_v 5) (da_cons (de_v 3) (da_nil)))))))) (by rfl) (fun _ _ _ _ _ => dg_t (K := K) rfl rfl (dgs_cons 8 sc_are_lower.nd (dgs_cons 9 sc_are_lower.nd (dgs_nil)))) (fun _ _ _ _ _ => dts_nil) (fun _ _ _ _ _ => de_v 8) (by decide) (by decide) (hsw := by exact sw_true rfl rfl (by decide) (by rfl))) (dss_one (ds_if (dt_not (dt_val (de_call ((c_is_below t).pin p) (hr.mono (by omega)) (da_cons (de_ix (de_ix (de_v 3) (de_v 4)) (de_v 5)) (da_cons (de_v 6) (da_nil)))))) (dss_one (ds_ret (de_bl))) (dss_nil))))))) (dss_one (ds_ret (de_bl)))))
theorem c_are_lower (t : Tx K mg) : Cal P w K mg base (TT K) 6 "are_lower" 4 fn_are_lower [] := cal_of t.d_are_lower t.g_are_lower sc_are_lower (fun _ F => F.bindsN fun _ _ _ _ _ _ us hl => match us, hl with | [_, _, _, _], _ => rfl) (b_are_lower t)
abbrev s_cost_of : Stmt := top 41
abbrev N_cost_of : List Str := ["gauges", "value", "number"]
theorem sc_cost_of : FnScope N_cost_of ["gauges", "value"] (defScope s_cost_of) := ⟨rfl, rfl, rfl, by decide +kernel, rfl, by decide +kernel, by decide +kernel⟩
noncomputable def lc_cost_of_0 : M W := mLc [2] (mSeq (mV 1)) (tgN 2) (ret true) (m2 (rd2 gIx) (m2 (rd2 gIx) (mV 0) (mV 2)) (mC (.int 1)))
noncomputable def m_cost_of : M Fl := sRet (bnd (aCons (lc_cost_of_0) (aNil)) (rd1 gSum))
noncomputable def fn_cost_of : Fn := mkFn 3 m_cost_of
theorem b_cost_of (t : Tx K mg) : Body P w K mg base (TT K) 0 N_cost_of "cost_of" (defBody s_cost_of) (defScope s_cost_of) m_cost_of := fun p f cdv A outer s H E hr => dss_one (ds_ret (de_callB (cr_sum rfl) pl_sum t.b_sum (da_cons (de_lc (own := [("number", 2)]) rfl sc_cost_of.nd (di_seq (de_v 1)) (by rfl) (fun _ _ _ _ _ => dg_n 2 sc_cost_of.nd) (fun _ _ _ _ _ => dts_nil) (fun _ _ _ _ _ => de_ix (de_ix (de_v 0) (de_v 2)) (de_int)) (by decide) (by decide)) (da_nil))))
theorem c_cost_of (t : Tx K mg) : Cal P w K mg base (TT K) 1 "cost_of" 2 fn_cost_of [] := cal_of t.d_cost_of t.g_cost_of sc_cost_of (fun _ F => F.bindsN fun _ _ _ _ _ _ us hl => match us, hl with | [_, _], _ => rfl) (b_cost_of t)
abbrev s_shows_cheapest : Stmt := top 46
abbrev N_shows_cheapest : List Str := ["harness", "gauges", "limit", "value", "rows", "told", "place"]
theorem sc_shows_cheapest : FnScope N_shows_cheapest ["harness", "gauges", "limit", "value", "rows"] (defScope s_shows_cheapest) := ⟨rfl, rfl, rfl, by decide +kernel, rfl, by decide +kernel, by decide +kernel⟩
noncomputable def lc_shows_cheapest_0 : M W := mLc [6] (mSeq (mCall 2 fn_children [] (aCons (mV 0) (aCons (mC .non) (aNil))))) (tgN 6) (ret true) (m2 (rd2 gIx) (m2 (rd2 gIx) (mV 4) (mV 6)) (mV 2))
noncomputable def m_shows_cheapest : M Fl := sSeq (sIf (mOr (mNot (mB (mCall 4 fn_are_gauges [] (aCons (mV 0) (aCons (mV 1) (aCons (mV 2) (aCons (mV 3) (aNil)))))))) (mNot (mB (mCall 4 fn_are_lower [] (aCons (mV 0) (aCons (mV 1) (aCons (mV 2) (aCons (mV 4) (aNil))))))))) (sRet (mC (.bl false))) (sNx)) (sSeq (sSet 5 (mCall 1 fn_sum_told [] (aCons (lc_shows_cheapest_0) (aNil)))) (sRet (m2 fEq (mV 5) (mCall 2 fn_cost_of [] (aCons (mV 1) (aCons (mV 3) (aNil)))))))
noncomputable def fn_shows_cheapest : Fn := mkFn 7 m_shows_cheapest
theorem b_shows_cheapest (t : Tx K mg) : Body P w K mg base (TT K) 6 N_shows_cheapest "shows_cheapest" (defBody s_shows_cheapest) (defScope s_shows_cheapest) m_shows_cheapest := fun p f cdv A outer s H E hr => dss_cons (ds_if (DW.dt (dw_or (dt_not (dt_val (de_call ((c_are_gauges t).pin p) (hr.mono (by omega)) (da_cons (de_v 0) (da_cons (de_v 1) (da_cons (de_v 2) (da_cons (de_v 3) (da_nil)))))))) (dw_or1 (dt_not (dt_val (de_call ((c_are_lower t).pin p) (hr.mono (by omega)) (da_cons (de_v 0) (da_cons (de_v 1) (da_cons (de_v 2) (da_cons (de_v 4) (da_nil))))))))))) (dss_one (ds_ret (de_bl))) (dss_nil)) (dss_cons (ds_set 5 sc_shows_cheapest.nd (de_call ((c_sum_told t).pin p) (hr.mono (by omega)) (da_cons (de_lc (own := [("place", 6)]) rfl sc_shows_cheapest.nd (di_seq (de_call ((c_children t).pin p) (hr.mono (by omega)) (da_cons (de_v 0) (da_cons (de_non) (da_nil))))) (by rfl) (fun _ _ _ _ _ => dg_n 6 sc_shows_cheapest.nd) (fun _ _ _ _ _ => dts_nil) (fun _ _ _ _ _ => de_ix (de_ix (de_v 4) (de_v 6)) (de_v 2)) (by decide) (by decide)) (da_nil)))) (dss_one (ds_ret (de_cmp (op_eqD (hu64 hr)) p_eq (de_v 5) (de_call ((c_cost_of t).pin p) (hr.mono (by omega)) (da_cons (de_v 1) (da_cons (de_v 3) (da_nil)))) (by rfl)))))
theorem c_shows_cheapest (t : Tx K mg) : Cal P w K mg base (TT K) 7 "shows_cheapest" 5 fn_shows_cheapest [] := cal_of t.d_shows_cheapest t.g_shows_cheapest sc_shows_cheapest (fun _ F => F.bindsN fun _ _ _ _ _ _ us hl => match us, hl with | [_, _, _, _, _], _ => rfl) (b_shows_cheapest t)
abbrev s_least_limit : Stmt := top 47
abbrev N_least_limit : List Str := ["harness", "gauges", "ohms", "left", "most", "row", "current"]
theorem sc_least_limit : FnScope N_least_limit ["harness", "gauges"] (defScope s_least_limit) := ⟨rfl, rfl, rfl, by decide +kernel, rfl, by decide +kernel, by decide +kernel⟩
noncomputable def bo_least_limit_0 : M Fl := sSeq (sDPut (m2 fAdd (m2 (rd2 gDx) (mV 3) (m2 (rd2 gIx) (mV 5) (mC (.int 1)))) (m2 fMul (mV 2) (mV 6))) (mV 3) (m2 (rd2 gIx) (mV 5) (mC (.int 0)))) (sSet 4 (bnd (aCons (mV 4) (aCons (m2 (rd2 gDx) (mV 3) (m2 (rd2 gIx) (mV 5) (mC (.int 0)))) (aNil))) (rdL2 gMax2)))
noncomputable def fo_least_limit_1 : M Fl := sFor (mZipT (aCons (mFld ["Harness"] "rows" (mV 0)) (aCons (mCall 1 fn_currents [] (aCons (mV 0) (aNil))) (aNil)))) (tgT [5, 6]) (bo_least_limit_0)
noncomputable def m_least_limit : M Fl := sSeq (sDrop (mCall 2 fn_require_gauges [] (aCons (mV 1) (aCons (mC (.int 0)) (aNil))))) (sSeq (sPar3 2 3 4 (m2 (rd2 gIx) (m2 (rd2 gIx) (mV 1) (mNeg (mC (.int 1)))) (mC (.int 0))) (mDic1 (mC (.str "source")) (mC (.int 0))) (mC (.int 0))) (sSeq (fo_least_limit_1) (sRet (mIf (mB (m2 fLe (mV 4) (mC (.int (300))))) (mV 4) (mC .non)))))
noncomputable def fn_least_limit : Fn := mkFn 7 m_least_limit
theorem b_least_limit (t : Tx K mg) : Body P w K mg base (TT K) 5 N_least_limit "least_limit" (defBody s_least_limit) (defScope s_least_limit) m_least_limit := fun p f cdv A outer s H E hr => dss_cons (ds_expr (de_call ((c_require_gauges t).pin p) (hr.mono (by omega)) (da_cons (de_v 1) (da_cons (de_int) (da_nil))))) (dss_cons (ds_par3 2 3 4 rfl sc_least_limit.nd (de_ix (de_ix (de_v 1) (de_neg (de_int))) (de_int)) (de_dic1 (de_gs t.s_ROOT) (de_int)) (de_int)) (dss_cons (ds_for rfl (di_zipT t.b_zip (da_cons (de_fld (f := "rows") (de_v 0) (fld_of t.c_Harness t.n_Harness_rows)) (da_cons (de_call ((c_currents t).pin p) (hr.mono (by omega)) (da_cons (de_v 0) (da_nil))) (da_nil)))) (dg_t (K := K) rfl rfl (dgs_cons 5 sc_least_limit.nd (dgs_cons 6 sc_least_limit.nd (dgs_nil)))) (dss_cons (ds_dput hr (de_op op_addA p_add (de_dx hr (de_v 3) (de_ix (de_v 5) (de_int))) (de_op op_mulA p_mul (de_v 2) (de_v 6))) (de_v 3) (de_ix (de_v 5) (de_int))) (dss_one (ds_set 4 sc_least_limit.nd (de_callB (call_max2 rfl) pl_max2 t.b_max (da_cons (de_v 4) (da_cons (de_dx hr (de_v 3) (de_ix (de_v 5) (de_int))) (da_nil)))))))) (dss_one (ds_ret (de_if (dt_cmp op_le p_cmpI (de_v 4) (de_gi t.i_MOST_LIMIT) (by rfl)) (de_v 4) (de_non))))))
theorem c_least_limit (t : Tx K mg) : Cal P w K mg base (TT K) 6 "least_limit" 2 fn_least_limit [] := cal_of t.d_least_limit t.g_least_limit sc_least_limit (fun _ F => F.bindsN fun _ _ _ _ _ _ us hl => match us, hl with | [_, _], _ => rfl) (b_least_limit t)
abbrev s_law_fits : Stmt := top 57
abbrev N_law_fits : List Str := ["rows", "gauges", "limit", "value", "flows", "k", "j"]
theorem sc_law_fits : FnScope N_law_fits ["rows", "gauges", "limit", "value"] (defScope s_law_fits) := ⟨rfl, rfl, rfl, by decide +kernel, rfl, by decide +kernel, by decide +kernel⟩
noncomputable def lc_law_fits_0 : M W := mLc [6] (mSeq (mCall 2 fn_law_path [] (aCons (mV 0) (aCons (mV 5) (aNil))))) (tgN 6) (ret true) (m2 fMul (m2 (rd2 gIx) (m2 (rd2 gIx) (mV 1) (m2 (rd2 gIx) (mV 3) (mV 6))) (mC (.int 0))) (m2 (rd2 gIx) (mV 4) (mV 6)))
noncomputable def bo_law_fits_1 : M Fl := sIf (mB (m2 fGt (bnd (aCons (lc_law_fits_0) (aNil)) (rd1 gSum)) (mV 2))) (sRet (mC (.bl false))) (sNx)
noncomputable def fo_law_fits_2 : M Fl := sFor (mRng1 (aCons (bnd (aCons (mV 0) (aNil)) (rd1 gLen)) (aNil))) (tgN 5) (bo_law_fits_1)
noncomputable def m_law_fits : M Fl := sSeq (sSet 4 (mFz (mCall 1 fn_law_flows [] (aCons (mV 0) (aNil))))) (sSeq (fo_law_fits_2) (sRet (mC (.bl true))))
noncomputable def fn_law_fits : Fn := mkFn 7 m_law_fits
theorem b_law_fits (t : Tx K mg) : Body P w K mg base (TT K) 2 N_law_fits "_law_fits" (defBody s_law_fits) (defScope s_law_fits) m_law_fits := fun p f cdv A outer s H E hr => dss_cons (ds_set 4 sc_law_fits.nd (de_fz (de_call ((c_law_flows t).pin p) (hr.mono (by omega)) (da_cons (de_v 0) (da_nil))))) (dss_cons (ds_for rfl (di_rng1 t.b_range (da_cons (de_callB call_len pl_len t.b_len (da_cons (de_v 0) (da_nil))) (da_nil))) (dg_n 5 sc_law_fits.nd) (dss_one (ds_if (dt_cmp op_gt p_cmpI (de_callB (cr_sum rfl) pl_sum t.b_sum (da_cons (de_lc (own := [("j", 6)]) rfl sc_law_fits.nd (di_seq (de_call ((c_law_path t).pin p) (hr.mono (by omega)) (da_cons (de_v 0) (da_cons (de_v 5) (da_nil))))) (by rfl) (fun _ _ _ _ _ => dg_n 6 sc_law_fits.nd) (fun _ _ _ _ _ => dts_nil) (fun _ _ _ _ _ => de_op op_mulA p_mul (de_ix (de_ix (de_v 1) (de_ix (de_v 3) (de_v 6))) (de_int)) (de_ix (de_v 4) (de_v 6))) (by decide) (by decide)) (da_nil))) (de_v 2) (by rfl)) (dss_one (ds_ret (de_bl))) (dss_nil)))) (dss_one (ds_ret (de_bl))))
theorem c_law_fits (t : Tx K mg) : Cal P w K mg base (TT K) 3 "_law_fits" 4 fn_law_fits [] := cal_of t.d_law_fits t.g__law_fits sc_law_fits (fun _ F => F.bindsN fun _ _ _ _ _ _ us hl => match us, hl with | [_, _, _, _], _ => rfl) (b_law_fits t)
abbrev s_law : Stmt := top 60
abbrev N_law : List Str := ["script", "row", "turn", "ends", "least", "found", "thin", "need", "parts", "gauges", "rows", "limit", "harness", "due", "told", "lots", "one", "costs", "k", "longer", "lot", "most"]
theorem sc_law : FnScope N_law ["script"] (defScope s_law) := ⟨rfl, rfl, rfl, by decide +kernel, rfl, by decide +kernel, by decide +kernel⟩
noncomputable def lc_law_0 : M W := mLc [18] (mSeq (mCall 2 fn_law_kids [] (aCons (mV 10) (aCons (mNeg (mC (.int 1))) (aNil))))) (tgN 18) (ret true) (m2 (rd2 gIx) (m2 (rd2 gIx) (mV 13) (mV 18)) (mV 11))
noncomputable def lc_law_1 : M W := mLc [16] (mSeq (mV 5)) (tgN 16) (mNot (mB (mCh fLe fLt (mC (.int 0)) (mV 16) (bnd (aCons (mV 9) (aNil)) (rd1 gLen))))) (mV 16)
noncomputable def lc_law_2 : M W := mLc [16] (mSeq (mV 5)) (tgN 16) (ret true) (m2 (rd2 gIx) (m2 (rd2 gIx) (mV 9) (mV 16)) (mC (.int 1)))
noncomputable def lc_law_3 : M W := mLc [18] (mRng1 (aCons (bnd (aCons (mV 9) (aNil)) (rd1 gLen)) (aNil))) (tgN 18) (ret true) (m2 fAdd (mV 20) (mTup (aCons (mV 18) (aNil))))
noncomputable def bo_law_4 : M Fl := sExtend (mV 19) (aCons (lc_law_3) (aNil))
noncomputable def fo_law_5 : M Fl := sFor (mSeq (mV 15)) (tgN 20) (bo_law_4)
noncomputable def bo_law_6 : M Fl := sSeq (sSet 19 (mLst (aNil))) (sSeq (fo_law_5) (sSet 15 (mFz (mV 19))))
noncomputable def fo_law_7 : M Fl := sFor (mSeq (mV 10)) (tgN 16) (bo_law_6)
noncomputable def lc_law_8 : M W := mLc [18] (mSeq (mV 20)) (tgN 18) (ret true) (m2 (rd2 gIx) (m2 (rd2 gIx) (mV 9) (mV 18)) (mC (.int 1)))
noncomputable def lc_law_9 : M W := mLc [20] (mSeq (mV 15)) (tgN 20) (mB (mCall 4 fn_law_fits [] (aCons (mV 10) (aCons (mV 9) (aCons (mV 11) (aCons (mV 20) (aNil))))))) (bnd (aCons (lc_law_8) (aNil)) (rd1 gSum))
noncomputable def lc_law_10 : M W := mLc [21] (mRng1 (aCons (mC (.int 301)) (aNil))) (tgN 21) (mB (mCall 4 fn_law_fits [] (aCons (mV 10) (aCons (mV 9) (aCons (mV 21) (aCons (mV 6) (aNil))))))) (mV 21)
noncomputable def bo_law_11 : M Fl := sSeq (sPar 8 9 (mCall 1 fn_law_harness [] (aCons (mV 1) (aNil))) (mCall 1 fn_law_gauges [] (aCons (mV 1) (aNil)))) (sSeq (sPar 10 11 (mFz (mSl (m2 (rd2 gIx) (mV 8) (mC (.int 0))) (oNone) (oSome (mCall 2 fn_law_pick [] (aCons (mV 1) (aCons (mLst (aCons (mC (.int 3)) (aCons (mC (.int 10)) (aNil)))) (aNil))))))) (mCall 2 fn_law_pick [] (aCons (mV 1) (aCons (mLst (aCons (mC (.int 0)) (aCons (mC (.int 9)) (aCons (mC (.int 60)) (aNil))))) (aNil))))) (sSeq (sPar 12 13 (mFz (mMake "Harness" 4 fn_Harness_init [] (aCons (mV 10) (aCons (m2 (rd2 gIx) (mV 8) (mC (.int 1))) (aCons (m2 (rd2 gIx) (mV 8) (mC (.int 2))) (aNil)))))) (mCall 3 fn_law_least_tables [] (aCons (mV 10) (aCons (mV 9) (aCons (mV 11) (aNil)))))) (sSeq (sSet 3 (mFz (lc_law_0))) (sSeq (sSet 4 (mIf (mB (m2 fIn (mC .non) (mV 3))) (mC .non) (bnd (aCons (mV 3) (aNil)) (rd1 gSum)))) (sSeq (sSet 5 (mCall 3 fn_cheapest [] (aCons (mV 12) (aCons (mV 9) (aCons (mV 11) (aNil)))))) (sSeq (sIf (mOr (mNot (mB (mCall 2 (fn_law_alike 5) [] (aCons (mTup (aCons (mCall 3 fn_least_cost [] (aCons (mV 12) (aCons (mV 9) (aCons (mV 11) (aNil))))) (aCons (mCall 3 fn_tables [] (aCons (mV 12) (aCons (mV 9) (aCons (mV 11) (aNil))))) (aNil)))) (aCons (mTup (aCons (mV 4) (aCons (mV 13) (aNil)))) (aNil)))))) (mB (m2 fNe (mNone false (mV 5)) (mNone false (mV 4))))) (sRet (mC (.bl false))) (sNx)) (sSeq (sIf (mB (mNone true (mV 5))) (sSeq (sIf (mOr (mNot (mB (bnd (aCons (mV 5) (aCons (mC (.ty "tuple")) (aNil))) (rdL2 gIsi)))) (mOr (mB (m2 fNe (bnd (aCons (mV 5) (aNil)) (rd1 gLen)) (bnd (aCons (mV 10) (aNil)) (rd1 gLen)))) (mOr (mB (m2 fNe (lc_law_1) (mLst (aNil)))) (mNot (mB (mCall 4 fn_law_fits [] (aCons (mV 10) (aCons (mV 9) (aCons (mV 11) (aCons (mV 5) (aNil))))))))))) (sRet (mC (.bl false))) (sNx)) (sSeq (sIf (mOr (mB (m2 fNe (bnd (aCons (lc_law_2) (aNil)) (rd1 gSum)) (mV 4))) (mNot (mB (mCall 2 (fn_law_alike 5) [] (aCons (mCall 2 fn_cost_of [] (aCons (mV 9) (aCons (mV 5) (aNil)))) (aCons (mV 4) (aNil))))))) (sRet (mC (.bl false))) (sNx)) (sSeq (sSet 14 (mTup (aCons (mCall 4 fn_are_gauges [] (aCons (mV 12) (aCons (mV 9) (aCons (mV 11) (aCons (mV 5) (aNil)))))) (aCons (mCall 4 fn_are_lower [] (aCons (mV 12) (aCons (mV 9) (aCons (mV 11) (aCons (mV 13) (aNil)))))) (aCons (mCall 5 fn_shows_cheapest [] (aCons (mV 12) (aCons (mV 9) (aCons (mV 11) (aCons (mV 5) (aCons (mV 13) (aNil))))))) (aNil)))))) (sIf (mB (m2 fNe (mV 14) (mTup (aCons (mC (.bl true)) (aCons (mC (.bl true)) (aCons (mC (.bl true)) (aNil))))))) (sRet (mC (.bl false))) (sNx))))) (sNx)) (sSeq (sIf (mB (m2 fLe (bnd (aCons (mV 10) (aNil)) (rd1 gLen)) (mC (.int 4)))) (sSeq (sSet 15 (mFz (mLst (aCons (mTup (aNil)) (aNil))))) (sSeq (fo_law_7) (sSeq (sSet 17 (mFz (lc_law_9))) (sIf (mB (m2 fNe (mIf (mB (m2 fNe (mV 17) (mLst (aNil)))) (bnd (aCons (mV 17) (aNil)) (rd1 gMinL)) (mC .non)) (mV 4))) (sRet (mC (.bl false))) (sNx))))) (sNx)) (sSeq (sSet 6 (m2 fMulB (mTup (aCons (m2 fSub (bnd (aCons (mV 9) (aNil)) (rd1 gLen)) (mC (.int 1))) (aNil))) (bnd (aCons (mV 10) (aNil)) (rd1 gLen)))) (sSeq (sSet 7 (mFz (mSl (lc_law_10) (oNone) (oSome (mC (.int 1)))))) (sIf (mNot (mB (mCall 2 (fn_law_alike 5) [] (aCons (mCall 2 fn_least_limit [] (aCons (mV 12) (aCons (mV 9) (aNil)))) (aCons (mIf (mB (m2 fNe (mV 7) (mLst (aNil)))) (m2 (rd2 gIx) (mV 7) (mC (.int 0))) (mC .non)) (aNil)))))) (sRet (mC (.bl false))) (sNx))))))))))))
noncomputable def fo_law_12 : M Fl := sFor (mRng1 (aCons (mC (.int 2)) (aNil))) (tgN 2) (bo_law_11)
noncomputable def m_law : M Fl := sSeq (sSet 1 (mLst (aCons (mV 0) (aCons (mC (.int 0)) (aCons (mC (.int 3151)) (aCons (mC (.int 0)) (aNil))))))) (sSeq (fo_law_12) (sRet (mC (.bl true))))
noncomputable def fn_law : Fn := mkFn 22 m_law
theorem b_law (t : Tx K mg) : Body P w K mg base (TT K) 8 N_law "law" (defBody s_law) (defScope s_law) m_law := fun p f cdv A outer s H E hr => dss_cons (ds_set 1 sc_law.nd (de_lst (da_cons (de_v 0) (da_cons (de_int) (da_cons (de_int) (da_cons (de_int) (da_nil))))))) (dss_cons (ds_for rfl (di_rng1 t.b_range (da_cons (de_int) (da_nil))) (dg_n 2 sc_law.nd) (dss_cons (ds_parC 8 9 rfl sc_law.nd (de_call ((c_law_harness t).pin p) (hr.mono (by omega)) (da_cons (de_v 1) (da_nil))) (de_call ((c_law_gauges t).pin p) (hr.mono (by omega)) (da_cons (de_v 1) (da_nil)))) (dss_cons (ds_parC 10 11 rfl sc_law.nd (de_fz (de_sl (de_ix (de_v 8) (de_int)) (do_none) (do_some (de_call ((c_law_pick t).pin p) (hr.mono (by omega)) (da_cons (de_v 1) (da_cons (de_lst (da_cons (de_int) (da_cons (de_int) (da_nil)))) (da_nil))))))) (de_call ((c_law_pick t).pin p) (hr.mono (by omega)) (da_cons (de_v 1) (da_cons (de_lst (da_cons (de_int) (da_cons (de_int) (da_cons (de_int) (da_nil))))) (da_nil))))) (dss_cons (ds_parC 12 13 rfl sc_law.nd (de_fz (de_make ((c_Harness_init t).pin p) (hr.mono (by omega)) (da_cons (de_v 10) (da_cons (de_ix (de_v 8) (de_int)) (da_cons (de_ix (de_v 8) (de_int)) (da_nil)))))) (de_call ((c_law_least_tables t).pin p) (hr.mono (by omega)) (da_cons (de_v 10) (da_cons (de_v 9) (da_cons (de_v 11) (da_nil)))))) (dss_cons (ds_setLcF 3 (own := [("k", 18)]) rfl sc_law.nd (di_seq (de_call ((c_law_kids t).pin p) (hr.mono (by omega)) (da_cons (de_v 10) (da_cons (de_neg (de_int)) (da_nil))))) (by rfl) (fun _ _ _ _ _ => dg_n 18 sc_law.nd) (fun _ _ _ _ _ => dts_nil) (fun _ _ _ _ _ => de_ix (de_ix (de_v 13) (de_v 18)) (de_v 11)) (by decide) (by decide) (hsw := by exact sw_true rfl rfl (by decide) (by rfl))) (dss_cons (ds_set 4 sc_law.nd (de_if (dt_cmp (op_inP (hu64 hr)) p_in (de_non) (de_v 3) (by rfl)) (de_non) (de_callB (cr_sum rfl) pl_sum t.b_sum (da_cons (de_v 3) (da_nil))))) (dss_cons (ds_set 5 sc_law.nd (de_call ((c_cheapest t).pin p) (hr.mono (by omega)) (da_cons (de_v 12) (da_cons (de_v 9) (da_cons (de_v 11) (da_nil)))))) (dss_cons (ds_if (DW.dt (dw_or (dt_not (dt_val (de_call ((c_law_alike t 5).pin p) (hr.mono (by omega)) (da_cons (de_tup (da_cons (de_call ((c_least_cost t).pin p) (hr.mono (by omega)) (da_cons (de_v 12) (da_cons (de_v 9) (da_cons (de_v 11) (da_nil))))) (da_cons (de_call ((c_tables t).pin p) (hr.mono (by omega)) (da_cons (de_v 12) (da_cons (de_v 9) (da_cons (de_v 11) (da_nil))))) (da_nil)))) (da_cons (de_tup (da_cons (de_v 4) (da_cons (de_v 13) (da_nil)))) (da_nil)))))) (dw_or1 (dt_cmp (op_neD (hu64 hr)) p_ne (de_isN (de_v 5)) (de_isN (de_v 4)) (by rfl))))) (dss_one (ds_ret (de_bl))) (dss_nil)) (dss_cons (ds_if (dt_notN (de_v 5)) (dss_cons (ds_if (DW.dt (dw_or (dt_not (dt_val (de_callB call_isi pl_isi t.b_isinstance (da_cons (de_v 5) (da_cons (de_ty t.b_tuple) (da_nil)))))) (dw_or (dt_cmp (op_neD (hu64 hr)) p_ne (de_callB call_len pl_len t.b_len (da_cons (de_v 5) (da_nil))) (de_callB call_len pl_len t.b_len (da_cons (de_v 10) (da_nil))) (by rfl)) (dw_or (dt_cmp (op_neD (hu64 hr)) p_ne (de_lc (own := [("one", 16)]) rfl sc_law.nd (di_seq (de_v 5)) (by rfl) (fun _ _ _ _ _ => dg_n 16 sc_law.nd) (fun _ _ _ _ _ => dts_one (dt_not (dt_ch op_le p_cmpI op_lt p_cmpI (de_int) (de_v 16) (de_callB call_len pl_len t.b_len (da_cons (de_v 9) (da_nil)))))) (fun _ _ _ _ _ => de_v 16) (by decide) (by decide)) (de_lst (da_nil)) (by rfl)) (dw_or1 (dt_not (dt_val (de_call ((c_law_fits t).pin p) (hr.mono (by omega)) (da_cons (de_v 10) (da_cons (de_v 9) (da_cons (de_v 11) (da_cons (de_v 5) (da_nil))))))))))))) (dss_one (ds_ret (de_bl))) (dss_nil)) (dss_cons (ds_if (DW.dt (dw_or (dt_cmp (op_neD (hu64 hr)) p_ne (de_callB (cr_sum rfl) pl_sum t.b_sum (da_cons (de_lc (own := [("one", 16)]) rfl sc_law.nd (di_seq (de_v 5)) (by rfl) (fun _ _ _ _ _ => dg_n 16 sc_law.nd) (fun _ _ _ _ _ => dts_nil) (fun _ _ _ _ _ => de_ix (de_ix (de_v 9) (de_v 16)) (de_int)) (by decide) (by decide)) (da_nil))) (de_v 4) (by rfl)) (dw_or1 (dt_not (dt_val (de_call ((c_law_alike t 5).pin p) (hr.mono (by omega)) (da_cons (de_call ((c_cost_of t).pin p) (hr.mono (by omega)) (da_cons (de_v 9) (da_cons (de_v 5) (da_nil)))) (da_cons (de_v 4) (da_nil))))))))) (dss_one (ds_ret (de_bl))) (dss_nil)) (dss_cons (ds_set 14 sc_law.nd (de_tup (da_cons (de_call ((c_are_gauges t).pin p) (hr.mono (by omega)) (da_cons (de_v 12) (da_cons (de_v 9) (da_cons (de_v 11) (da_cons (de_v 5) (da_nil)))))) (da_cons (de_call ((c_are_lower t).pin p) (hr.mono (by omega)) (da_cons (de_v 12) (da_cons (de_v 9) (da_cons (de_v 11) (da_cons (de_v 13) (da_nil)))))) (da_cons (de_call ((c_shows_cheapest t).pin p) (hr.mono (by omega)) (da_cons (de_v 12) (da_cons (de_v 9) (da_cons (de_v 11) (da_cons (de_v 5) (da_cons (de_v 13) (da_nil))))))) (da_nil)))))) (dss_one (ds_if (dt_cmp (op_neD (hu64 hr)) p_ne (de_v 14) (de_tup (da_cons (de_bl) (da_cons (de_bl) (da_cons (de_bl) (da_nil))))) (by rfl)) (dss_one (ds_ret (de_bl))) (dss_nil)))))) (dss_nil)) (dss_cons (ds_if (dt_cmp op_le p_cmpI (de_callB call_len pl_len t.b_len (da_cons (de_v 10) (da_nil))) (de_int) (by rfl)) (dss_cons (ds_set 15 sc_law.nd (de_fz (de_lst (da_cons (de_tup (da_nil)) (da_nil))))) (dss_cons (ds_for rfl (di_seq (de_v 10)) (dg_n 16 sc_law.nd) (dss_cons (ds_set 19 sc_law.nd (de_lst (da_nil))) (dss_cons (ds_for rfl (di_seq (de_v 15)) (dg_n 20 sc_law.nd) (dss_one (ds_extend (de_v 19) (da_cons (de_lc (own := [("k", 18)]) rfl sc_law.nd (di_rng1 t.b_range (da_cons (de_callB call_len pl_len t.b_len (da_cons (de_v 9) (da_nil))) (da_nil))) (by rfl) (fun _ _ _ _ _ => dg_n 18 sc_law.nd) (fun _ _ _ _ _ => dts_nil) (fun _ _ _ _ _ => de_op op_addA p_add (de_v 20) (de_tup (da_cons (de_v 18) (da_nil)))) (by decide) (by decide)) (da_nil))))) (dss_one (ds_set 15 sc_law.nd (de_fz (de_v 19))))))) (dss_cons (ds_setLcF 17 (own := [("lot", 20)]) rfl sc_law.nd (di_seq (de_v 15)) (by rfl) (fun _ _ _ _ _ => dg_n 20 sc_law.nd) (fun _ _ _ _ _ => dts_one (dt_val (de_call ((c_law_fits t).pin p) (hr.mono (by omega)) (da_cons (de_v 10) (da_cons (de_v 9) (da_cons (de_v 11) (da_cons (de_v 20) (da_nil)))))))) (fun _ _ _ _ _ => de_callB (cr_sum rfl) pl_sum t.b_sum (da_cons (de_lc (own := [("k", 18)]) rfl sc_law.nd (di_seq (de_v 20)) (by rfl) (fun _ _ _ _ _ => dg_n 18 sc_law.nd) (fun _ _ _ _ _ => dts_nil) (fun _ _ _ _ _ => de_ix (de_ix (de_v 9) (de_v 18)) (de_int)) (by decide) (by decide)) (da_nil))) (by decide) (by decide) (hsw := by exact sw_true rfl rfl (by decide) (by rfl))) (dss_one (ds_if (dt_cmp (op_neD (hu64 hr)) p_ne (de_if (dt_cmp (op_neD (hu64 hr)) p_ne (de_v 17) (de_lst (da_nil)) (by rfl)) (de_callB (call_minD rfl (hu64 hr)) pl_minL t.b_min (da_cons (de_v 17) (da_nil))) (de_non)) (de_v 4) (by rfl)) (dss_one (ds_ret (de_bl))) (dss_nil)))))) (dss_nil)) (dss_cons (ds_set 6 sc_law.nd (de_op op_mulB p_mulB (de_tup (da_cons (de_op op_sub p_sub (de_callB call_len pl_len t.b_len (da_cons (de_v 9) (da_nil))) (de_int)) (da_nil))) (de_callB call_len pl_len t.b_len (da_cons (de_v 10) (da_nil))))) (dss_cons (ds_set 7 sc_law.nd (de_fz (de_sl (de_lc (own := [("most", 21)]) rfl sc_law.nd (di_rng1 t.b_range (da_cons (de_int) (da_nil))) (by rfl) (fun _ _ _ _ _ => dg_n 21 sc_law.nd) (fun _ _ _ _ _ => dts_one (dt_val (de_call ((c_law_fits t).pin p) (hr.mono (by omega)) (da_cons (de_v 10) (da_cons (de_v 9) (da_cons (de_v 21) (da_cons (de_v 6) (da_nil)))))))) (fun _ _ _ _ _ => de_v 21) (by decide) (by decide)) (do_none) (do_some (de_int))))) (dss_one (ds_if (dt_not (dt_val (de_call ((c_law_alike t 5).pin p) (hr.mono (by omega)) (da_cons (de_call ((c_least_limit t).pin p) (hr.mono (by omega)) (da_cons (de_v 12) (da_cons (de_v 9) (da_nil)))) (da_cons (de_if (dt_cmp (op_neD (hu64 hr)) p_ne (de_v 7) (de_lst (da_nil)) (by rfl)) (de_ix (de_v 7) (de_int)) (de_non)) (da_nil)))))) (dss_one (ds_ret (de_bl))) (dss_nil))))))))))))))) (dss_one (ds_ret (de_bl))))
theorem c_law (t : Tx K mg) : Cal P w K mg base (TT K) 9 "law" 1 fn_law [] := cal_of t.d_law t.g_law sc_law (fun _ F => F.bindsN fun _ _ _ _ _ _ us hl => match us, hl with | [_], _ => rfl) (b_law t)
end
end k15
end DP
end
section
set_option Elab.async false
set_option linter.all false
set_option maxRecDepth 100000
set_option maxHeartbeats 0
namespace DP
namespace k15
open PySem PySem.W PySem.Calls PySem.Spec PyProof.Rows L2
def nms0 : List PySem.Str := ["_wall", "WireError", "BadPart", "BadNumber", "BadGroup", "LETTERS", "LONGEST", "is_whole", "is_within", "is_name", "is_row", "first_wrong", "place_told", "require_part", "names_in", "MOST_WIRES", "MOST_OHMS_harness", "MOST_LOAD", "MOST_FUSE", "MOST_VOLTS", "ROOT", "is_wire", "Harness", "currents", "MOST_GAUGES", "MOST_OHMS_gauges", "MOST_COST", "MOST_LIMIT", "is_gauge", "require_gauges"]
def nms1 : List PySem.Str := ["children", "sum_told", "choices", "tables", "least_cost", "cheapest", "are_gauges", "cost_of", "is_entry", "is_table_row", "is_below", "are_lower", "shows_cheapest", "least_limit", "_law_taken", "_law_pick", "_law_alike", "_law_names", "_law_harness", "_law_path", "_law_flows", "_law_gauges", "_law_fits", "_law_kids", "_law_least_tables"]
def nms : List PySem.Str := nms0 ++ nms1
abbrev R : PySem.W.OpenRow := PySem.W.OpenLaw.row PySem.Challenge.rw_carwires_k15_whole_cheapest_gauges
abbrev hk : PySem.W.Hook := He.hookD 4 fa_ fn_
def ob (s : PySem.W.SharedT) : He.AlD := He.obsDG 4 fa_ fn_ (HandSHeadRun.getT s)
theorem ob_eq (s : PySem.W.SharedT) : ob s = hk.obs s.abs := He.obsDG_eq (HandSHeadRun.getT_eq s)
theorem run (w : World) : HandSHeadRun.RunEq R (PySem.W.view R.prog [60]) hk ob 3000 nms w := by
  intro os
  kernel_rfl
theorem facts {P : Program} {w : World} {K : PySem.W.Frag} {h : Heap} {mg : Str → Option Value} {f : Addr} (X : K.In h) (G : h.Ns mainGlobals mg) (hfa : mg ("law" : Str) = some (.ref f)) (c : He.SaysD fa_ fn_ K) :
    ∃ fd : FuncData, (∀ (s : Shared) (v : Value), BindsTo s fd ⟨[v], []⟩ [("script", v)]) ∧ ∀ base : Heap, K.In base → base.Ns mainGlobals mg → FnOk P w K mg base (CXx P w) 9 f fd ["script"] (liftF K (TT K) 1 fn_law) := by
  have t : Tx K mg := tx_of X G c
  obtain ⟨fd, F⟩ := t.d_law
  have e := hfa.symm.trans t.g_law
  cases e
  have b := FunD.bindsA (ps := ["script"]) F fun _ _ _ _ _ _ us hl => match us, hl with | [_], _ => rfl
  exact ⟨fd, fun s v => b s [v] rfl, fun base _ _ => fun_ok F sc_law (b_law t)⟩
theorem scr_only {K : PySem.W.Frag} {H : Hp} {a : Addr} {xs : List V} (ho : Only H) (h : SqL K H a xs) : ScrAt K (fun b => H b ≠ none) H a xs := by
  rcases h with (h | ⟨o, h⟩) | h
  · rcases ho a with z | ⟨o, ys, z⟩
    · rw [h] at z; cases z
    · rw [h] at z; cases z
  · exact .inl ⟨by show H a ≠ none; rw [h]; simp, o, h⟩
  · exact .inr h
theorem law_end {K : PySem.W.Frag} {H : Hp} {a : Addr} {ns : List Int} (law_ok : fn_law [.d (.scr ns)] = .ok (.d (.bl true)) []) (ho : Only H) (h : SqL K H a (ns.map V.int)) : liftF K (TT K) 1 fn_law [.ref a] H (fun v _ => v = .bl true) fun _ _ _ => False := by
  refine ⟨fun b => H b ≠ none, [], [.d (.scr ns)], .d (.scr (scr_only ho h)) .nil, rfl, List.nodup_nil, fun a ha => by simp at ha, fun a f => f, ?_⟩
  rw [law_ok]
  intro F' H' v own _ _ _ _ r _
  cases r with
  | d r => cases r; rfl
abbrev CXe (P : Program) : CXT := fun o H s E u s' => ∃ w : World, CXx P w o H s E u s'
theorem fn_cx {P : Program} {w : World} {K : PySem.W.Frag} {mg : Str → Option Value} {base : Heap} {k : Nat} {f : Addr} {fd : FuncData} {ps : List Str} {sp : Sp} (F : FnOk P w K mg base (CXx P w) k f fd ps sp) : FnOk P w K mg base (CXe P) k f fd ps sp :=
  ⟨F.len, fun A outer s H args us vs Q E hr he hb hv hs => codeAny_mono (F.run A outer s H args us vs Q E hr he hb hv hs) fun r s' hq => by
    cases r with
    | error e => exact ⟨w, hq⟩
    | ok fl => cases fl <;> exact hq⟩
theorem holds_of (law_ok : ∀ ns : List Int, ns.length ≤ 63 → fn_law [.d (.scr ns)] = .ok (.d (.bl true)) []) : PySem.Challenge.rw_carwires_k15_whole_cheapest_gauges.Holds := by
  w_on; o_law
  refine HandSHeadRun.head_any (r := R) (q := PySem.W.view R.prog [60]) (H := hk) (ob := ob) (M := 3000) (loose := nms) (d := HandSHeadRun.topDef R.prog 60) (kwd := []) ob_eq
    (by kernel_rfl) (fun s => by kernel_rfl) run (by kernel_rfl) (by kernel_rfl) (by kernel_rfl) (by rfl) (by first | assumption | decide +kernel) (by decide +kernel) ⟨rfl, rfl, rfl, rfl, rfl, by decide +kernel⟩ ?hw ?hc
  case hw => w_witness2
  case hc =>
    refine L2.walk_ofE (l := PySem.Challenge.rw_carwires_k15_whole_cheapest_gauges) (n := 63) (k := 9) (x := "script") (CX := CXe (PySem.Challenge.rw_carwires_k15_whole_cheapest_gauges).prog) rfl (by decide) (by kernel_rfl) ⟨rfl, by decide, by decide⟩ ?F (fun _ _ _ _ ⟨_, _, _, _, _, _, _, _, _, _, _, _, _, z⟩ => z)
    intro w mg fa h Y G hmg0
    obtain ⟨K, KX, c⟩ := Y
    have hmg : mg ("law" : PySem.Str) = some (.ref fa) := by
      have e : (HandSHeadRun.topDef R.prog 60).name = ("law" : PySem.Str) := by kernel_rfl
      rw [← e]
      exact hmg0
    obtain ⟨fd, hb, hF⟩ := facts (P := (PySem.Challenge.rw_carwires_k15_whole_cheapest_gauges).prog) (w := w) KX G hmg c
    exact ⟨K, fd, liftF K (TT K) 1 fn_law, KX, hb, fun H a ns hl ho hS => law_end (law_ok ns hl) ho hS, fun base hK hN => fn_cx (hF base hK hN)⟩
end k15
end DP
end
section
set_option Elab.async false
set_option linter.all false
set_option maxRecDepth 100000
set_option maxHeartbeats 4000000
/-! DQ: plain facts about the readings: comprehensions, loops, equality of data. -/
namespace DP
open PySem PySem.Spec PyProof.Rows L2
theorem cLoop_pure {src : Src} {t : Item → M Unit} {test : M Bool} {elt : M W} {vs : List Nat} {st : St} {b : Item → Bool} {d : Item → D} (hok : src.ok st) : ∀ {its : List Item} {acc : List D},
    (∀ it ∈ its, ∃ s1, t it st = .ok () s1 ∧ wipeS s1 vs = st ∧ test s1 = .ok (b it) s1 ∧ (b it = true → ∃ w, elt s1 = .ok w s1 ∧ w.fzD = some (d it))) → acc.length + its.length ≤ 1000000 →
    cLoop src t test elt vs its acc st = .ok (acc ++ (its.filter b).map d) st
  | [], acc, _, _ => by unfold cLoop; rw [if_pos hok]; simp
  | it :: its, acc, h, hl => by
    obtain ⟨s1, h1, h2, h3, h4⟩ := h it List.mem_cons_self
    simp only [List.length_cons] at hl
    unfold cLoop
    rw [if_pos hok, bnd_ok h1, bnd_ok h3]
    cases hb : b it with
    | true =>
      obtain ⟨w, h5, h6⟩ := h4 hb
      rw [if_pos rfl, bnd_ok h5]
      simp only [h6]
      rw [if_pos (by omega), h2, cLoop_pure hok (fun j hj => h j (List.mem_cons_of_mem _ hj)) (by simp; omega)]
      simp [hb]
    | false =>
      rw [if_neg Bool.false_ne_true]
      show cLoop src t test elt vs its acc (wipeS s1 vs) = _
      rw [h2, cLoop_pure hok (fun j hj => h j (List.mem_cons_of_mem _ hj)) (by omega)]
      simp [hb]
theorem mLc_pure {ms : M Src} {src : Src} {t : Item → M Unit} {test : M Bool} {elt : M W} {vs : List Nat} {st0 st1 : St} {b : Item → Bool} {d : Item → D} {L : List D} {st2 : St} (hs : ms st0 = .ok src st1) (ho : okW vs st1 = true) (hok : src.ok (wipeS st1 vs))
    (h : ∀ it ∈ src.items, ∃ s1, t it (wipeS st1 vs) = .ok () s1 ∧ wipeS s1 vs = wipeS st1 vs ∧ test s1 = .ok (b it) s1 ∧ (b it = true → ∃ w, elt s1 = .ok w s1 ∧ w.fzD = some (d it))) (hl : src.items.length ≤ 1000000) (hL : (src.items.filter b).map d = L) (hb : backS st1 vs (wipeS st1 vs) = st2) :
    mLc vs ms t test elt st0 = .ok (.o (.lst L)) st2 := by
  unfold mLc
  rw [bnd_ok hs, if_pos ho, cLoop_pure hok h (by simpa using hl)]
  simp only [mLcEnd, List.nil_append, hL, hb]
/-- a loop whose turns all go on -/
theorem forL_all {t : Item → M Unit} {b : M Fl} (P : Nat → St → Prop) : ∀ {its : List Item} {i : Nat} {st : St}, P i st → (∀ j it s, its[j]? = some it → P (i + j) s → ∃ s1 s2, t it s = .ok () s1 ∧ (b s1 = .ok .nx s2 ∨ b s1 = .ok .ct s2) ∧ P (i + j + 1) s2) →
    ∃ s', forL t b its st = .ok .nx s' ∧ P (i + its.length) s'
  | [], i, st, h0, _ => ⟨st, rfl, h0⟩
  | it :: its, i, st, h0, h => by
    obtain ⟨s1, s2, h1, h2, h3⟩ := h 0 it st rfl h0
    have h3 : P (i + 1) s2 := h3
    obtain ⟨s', h4, h5⟩ := forL_all P (its := its) (i := i + 1) h3 fun j x s e p => by
      obtain ⟨s1, s2, q1, q2, q3⟩ := h (j + 1) x s (by simpa using e) (by rw [Nat.add_comm j 1, ← Nat.add_assoc]; exact p)
      exact ⟨s1, s2, q1, q2, by rw [Nat.add_comm j 1, ← Nat.add_assoc] at q3; exact q3⟩
    refine ⟨s', ?_, by rw [List.length_cons, Nat.add_comm its.length 1, ← Nat.add_assoc]; exact h5⟩
    unfold forL
    simp only [h1]
    rcases h2 with h2 | h2
    · rw [bnd_ok h2]; exact h4
    · rw [bnd_ok h2]; exact h4
/-- a loop that ends at its k-th turn -/
theorem forL_end {t : Item → M Unit} {b : M Fl} (P : Nat → St → Prop) {r : Res Fl} : ∀ {its : List Item} {i k : Nat} {st : St}, P i st → k < its.length → (∀ j it s, j < k → its[j]? = some it → P (i + j) s → ∃ s1 s2, t it s = .ok () s1 ∧ (b s1 = .ok .nx s2 ∨ b s1 = .ok .ct s2) ∧ P (i + j + 1) s2) →
    (∀ it s, its[k]? = some it → P (i + k) s → ∃ s1 f s2, t it s = .ok () s1 ∧ b s1 = .ok f s2 ∧ ((f = .bk ∧ r = .ok .nx s2) ∨ ∃ w, f = .ret w ∧ r = .ok (.ret w) s2)) → forL t b its st = r
  | [], i, k, st, _, hk, _, _ => by simp at hk
  | it :: its, i, 0, st, h0, hk, _, he => by
    obtain ⟨s1, f, s2, h1, h2, h3⟩ := he it st rfl h0
    unfold forL
    simp only [h1]
    rw [bnd_ok h2]
    rcases h3 with ⟨rfl, rfl⟩ | ⟨w, rfl, rfl⟩ <;> rfl
  | it :: its, i, k + 1, st, h0, hk, h, he => by
    obtain ⟨s1, s2, h1, h2, h3⟩ := h 0 it st (by omega) rfl h0
    have h3 : P (i + 1) s2 := h3
    have q := forL_end P (r := r) (its := its) (i := i + 1) (k := k) h3 (by simpa using hk) (fun j x s hj e p => by
      obtain ⟨s1, s2, q1, q2, q3⟩ := h (j + 1) x s (by omega) (by simpa using e) (by rw [Nat.add_comm j 1, ← Nat.add_assoc]; exact p)
      exact ⟨s1, s2, q1, q2, by rw [Nat.add_comm j 1, ← Nat.add_assoc] at q3; exact q3⟩) (fun x s e p => he x s (by simpa using e) (by rw [Nat.add_comm k 1, ← Nat.add_assoc]; exact p))
    unfold forL
    simp only [h1]
    rcases h2 with h2 | h2
    · rw [bnd_ok h2]; exact q
    · rw [bnd_ok h2]; exact q
/-! ### equality -/
theorem eqD_str {a b : Str} (ha : PyData.strOk a = true) (hb : PyData.strOk b = true) : eqD (.str a) (.str b) = some (a == b) := by
  simp [eqD, toP, SeqAt.shaped, PyData.canLay0, PyData.depth, ha, hb, PyData.eqv]
theorem eqD_int {a b : Int} : eqD (.int a) (.int b) = some (a == b) := by
  simp [eqD, toP, SeqAt.shaped, PyData.canLay0, PyData.depth, PyData.eqv]
theorem eqD_bl {a b : Bool} : eqD (.bl a) (.bl b) = some (a == b) := by
  simp [eqD, toP, SeqAt.shaped, PyData.canLay0, PyData.depth, PyData.eqv]
theorem eqD_non : eqD .non .non = some true := by
  simp [eqD, toP, SeqAt.shaped, PyData.canLay0, PyData.depth, PyData.eqv]
theorem eqD_strN {a : Str} (ha : PyData.strOk a = true) : eqD (.str a) .non = some false := by
  simp [eqD, toP, SeqAt.shaped, PyData.canLay0, PyData.depth, ha, PyData.eqv]
theorem eqD_Nstr {a : Str} (ha : PyData.strOk a = true) : eqD .non (.str a) = some false := by
  simp [eqD, toP, SeqAt.shaped, PyData.canLay0, PyData.depth, ha, PyData.eqv]
theorem toPs_strs {xs : List Str} : toPs (xs.map D.str) = some (xs.map PyData.str) := by
  induction xs with
  | nil => simp [toPs]
  | cons x xs ih => simp [toPs, toP, ih]
theorem lay_strs {xs : List Str} (h : ∀ x ∈ xs, PyData.strOk x = true) : PyData.canLayAll0 (xs.map PyData.str) = true := by
  induction xs with
  | nil => simp [PyData.canLayAll0]
  | cons x xs ih => simp [PyData.canLayAll0, PyData.canLay0, h x (by simp), ih fun y hy => h y (by simp [hy])]
theorem depth_strs {xs : List Str} : PyData.depthAll (xs.map PyData.str) = 0 := by
  induction xs with
  | nil => simp [PyData.depthAll]
  | cons x xs ih => simp [PyData.depthAll, PyData.depth, ih]
theorem any_strs {xs : List Str} {x : Str} : (xs.map PyData.str).any (fun y => PyData.eqv y (.str x)) = xs.contains x := by
  induction xs with
  | nil => simp
  | cons y xs ih =>
    rw [List.map_cons, List.any_cons, ih, List.contains_cons]
    simp only [PyData.eqv]
    congr 1
    exact Bool.beq_comm
theorem inD_strsT {xs : List Str} {x : Str} (hx : PyData.strOk x = true) (h : ∀ x ∈ xs, PyData.strOk x = true) : inD (.str x) (.tup (xs.map D.str)) = some (xs.contains x) := by
  simp only [inD, toP, toPs_strs]
  rw [if_pos (by simp [PyData.canLay0, hx, lay_strs h, PyData.depth]), any_strs]
theorem inD_strsL {xs : List Str} {x : Str} (hx : PyData.strOk x = true) (h : ∀ x ∈ xs, PyData.strOk x = true) : inD (.str x) (.lst (xs.map D.str)) = some (xs.contains x) := by
  simp only [inD, toP, toPs_strs]
  rw [if_pos (by simp [PyData.canLay0, hx, lay_strs h, PyData.depth]), any_strs]
theorem toPs_ints {xs : List Int} : toPs (xs.map D.int) = some (xs.map PyData.int) := by
  induction xs with
  | nil => simp [toPs]
  | cons x xs ih => simp [toPs, toP, ih]
theorem lay_ints {xs : List Int} : PyData.canLayAll0 (xs.map PyData.int) = true := by
  induction xs with
  | nil => simp [PyData.canLayAll0]
  | cons x xs ih => simp [PyData.canLayAll0, PyData.canLay0, ih]
theorem any_ints {xs : List Int} {x : Int} : (xs.map PyData.int).any (fun y => PyData.eqv y (.int x)) = xs.contains x := by
  induction xs with
  | nil => simp
  | cons y xs ih =>
    rw [List.map_cons, List.any_cons, ih, List.contains_cons]
    simp only [PyData.eqv]
    congr 1
    exact Bool.beq_comm
theorem inD_intsL {xs : List Int} {x : Int} : inD (.int x) (.lst (xs.map D.int)) = some (xs.contains x) := by
  simp only [inD, toP, toPs_ints]
  rw [if_pos (by simp [PyData.canLay0, lay_ints, PyData.depth]), any_ints]
theorem find_strs {xs : List Str} {x : Str} : (xs.map PyData.str).findIdx? (fun y => PyData.eqv y (.str x)) = xs.findIdx? (· == x) := by
  rw [List.findIdx?_map]
  rfl
theorem idxP_strs {xs : List Str} {x : Str} (hx : PyData.strOk x = true) (h : ∀ x ∈ xs, PyData.strOk x = true) : idxP (.str x) (xs.map D.str) = xs.findIdx? (· == x) := by
  simp only [idxP, toP, toPs_strs]
  rw [if_pos (by simp [SeqAt.shaped, PyData.canLay0, hx, lay_strs h, PyData.depth, depth_strs]), find_strs]
theorem find_at {xs : List Str} {i : Nat} {x : Str} (nd : xs.Nodup) (h : xs[i]? = some x) : xs.findIdx? (· == x) = some i := by
  rw [List.findIdx?_eq_some_iff_getElem]
  obtain ⟨hi, rfl⟩ := List.getElem?_eq_some_iff.mp h
  refine ⟨hi, by simp, fun j hj => ?_⟩
  simp only [Bool.not_eq_true, beq_eq_false_iff_ne]
  intro z
  exact List.pairwise_iff_getElem.mp nd j i (by omega) hi hj z
/-- a list of laid data is empty or not -/
theorem eqD_nil {ds : List D} {ps : List PyData} (h : toPs ds = some ps) (hl : PyData.canLayAll0 ps = true) (hd : PyData.depthAll ps ≤ 63) : eqD (.lst ds) (.lst []) = some ds.isEmpty := by
  have e : eqD (.lst ds) (.lst []) = some (PyData.eqvAll ps []) := by
    simp only [eqD, toP, h, toPs, Option.map_some]
    rw [if_pos (by simp [SeqAt.shaped, PyData.canLay0, hl, PyData.depth, PyData.canLayAll0, PyData.depthAll, hd])]
    simp [PyData.eqv]
  rw [e]
  cases ds with
  | nil => simp [toPs] at h; subst h; simp [PyData.eqvAll]
  | cons d ds =>
    unfold toPs at h
    split at h
    · cases h; simp [PyData.eqvAll]
    · cases h
theorem asInts_map {ns : List Int} : asInts (ns.map D.int) = some ns := by
  induction ns with
  | nil => rfl
  | cons n ns ih => simp [asInts, ih]
theorem asBls_map {ns : List Bool} : asBls (ns.map D.bl) = some ns := by
  induction ns with
  | nil => rfl
  | cons n ns ih => simp [asBls, ih]
theorem atI_nat {α : Type} {xs : List α} {i : Nat} : atI xs (i : Int) = xs[i]? := by
  unfold atI ixN
  by_cases h : i < xs.length
  · rw [if_pos (by omega), if_pos (by omega)]; simp
  · rw [if_pos (by omega), if_neg (by omega)]; exact (List.getElem?_eq_none (by omega)).symm
theorem atI_last {α : Type} {xs : List α} : atI xs (-1) = xs.getLast? := by
  unfold atI ixN
  rw [if_neg (by decide)]
  cases xs with
  | nil => rfl
  | cons x xs =>
    rw [if_pos (by rw [List.length_cons]; omega), List.getLast?_eq_getElem?]
    show (x :: xs)[((-1 : Int) + ((x :: xs).length : Nat)).toNat]? = _
    congr 1
    rw [List.length_cons]
    omega
end DP
end
section
set_option Elab.async false
set_option linter.all false
set_option maxRecDepth 100000
set_option maxHeartbeats 4000000
namespace DP
namespace k15
open PySem PySem.Spec PyProof.Rows L2
structure Row where
  nm : Str
  fr : Str
  ohm : Int
  load : Int
  fuse : Int
def rowD (r : Row) : D := .tup [.str r.nm, .str r.fr, .int r.ohm, .int r.load, .int r.fuse]
def rowsD (rs : List Row) : D := .tup (rs.map rowD)
def nms_ (rs : List Row) : List Str := rs.map (·.nm)
def namesD (rs : List Row) : D := .tup ((nms_ rs).map .str)
def srcS : Str := "source"
structure NmOk (x : Str) : Prop where
  l1 : 1 ≤ x.cps.size
  l8 : x.cps.size ≤ 8
  ab : ∀ c ∈ x.cps.toList, 97 ≤ c ∧ c ≤ 122
theorem NmOk.ok {x : Str} (h : NmOk x) : PyData.strOk x = true := by
  unfold PyData.strOk
  rw [Array.all_eq_true_iff_forall_mem]
  intro c hc
  have := h.ab c (by simpa using hc)
  simp; omega
theorem src_ok : NmOk srcS := ⟨by decide, by decide, by decide⟩
theorem at_0 {α : Type} {a : α} {l : List α} : L2.atI (a :: l) (0 : Int) = some a := by
  have := atI_nat (xs := a :: l) (i := 0); simpa using this
theorem at_1 {α : Type} {a b : α} {l : List α} : L2.atI (a :: b :: l) (1 : Int) = some b := by
  have := atI_nat (xs := a :: b :: l) (i := 1); simpa using this
theorem at_2 {α : Type} {a b c : α} {l : List α} : L2.atI (a :: b :: c :: l) (2 : Int) = some c := by
  have := atI_nat (xs := a :: b :: c :: l) (i := 2); simpa using this
theorem at_3 {α : Type} {a b c d : α} {l : List α} : L2.atI (a :: b :: c :: d :: l) (3 : Int) = some d := by
  have := atI_nat (xs := a :: b :: c :: d :: l) (i := 3); simpa using this
theorem at_4 {α : Type} {a b c d e : α} {l : List α} : L2.atI (a :: b :: c :: d :: e :: l) (4 : Int) = some e := by
  have := atI_nat (xs := a :: b :: c :: d :: e :: l) (i := 4); simpa using this
theorem fs_d {x : D} : freeS (.d x) = true := rfl
theorem fs_no : freeS .no = true := rfl
theorem fs_o {x : OD} : freeS (.o none x) = true := rfl
theorem asBls_T {α : Type} {l : List α} : asBls (l.map fun _ => D.bl true) = some (l.map fun _ => true) := by
  have := asBls_map (ns := l.map fun _ => true); rwa [List.map_map] at this
theorem allT {α : Type} {l : List α} : (l.map fun _ => true).all id = true := by simp
theorem filterT {α : Type} {l : List α} : l.filter (fun _ => true) = l := List.filter_eq_self.mpr fun _ _ => rfl
theorem leSz {n : Nat} (h : n ≤ 1000) : n ≤ sizeLine := by rw [sizeLine_eq]; omega
/-! ### small defs -/
theorem e_is_whole (v : Int) : fn_is_whole [.d (.int v)] = .ok (.d (.bl true)) [] := by rfl
theorem e_is_within (v a b : Int) : fn_is_within [.d (.int v), .d (.int a), .d (.int b)] = .ok (.d (.bl (decide (a ≤ v) && decide (v ≤ b)))) [] := by
  simp [fn_is_within, m_is_within, e_is_whole, mkFn, stOf, finF, withRefs, refs, sSeq, thenS, sNx, sBad, sDrop, retW, sRet, sIf, mFz, endS, asgW, fs_d, fs_no, fs_o, sSet, sUnp, tgT, tgN, setNs, setN, sPar, putAt, sPut, sAugL, sAug, isL, sAppL, sAppend, sExtend, okApp, okExt, bnd, ret, rd, W.fzD, fz, mV, mC, m2, rd2, gI, gMod, gDiv, gPow, fAdd, fMul, mB, mNone, isN, okB, mCh, mIf, mNot, mNotV, argW, aNil, aCons, allD, mTup, mLst, rd1, rdL2, gLen, gInt, gAbs, gSum, gAll, gAny, fTupOf, fLstOf, mFld, fldD, putD, gIx, oNone, oSome, fSl, mSl, mRev, mNeg, gIsi, gIsiT, tysOf, tyN, tyM, knownC, mIdxT, mIdxL, idxEnd, Item, srcOf, mSeq, b62, mRng1, mRng2, mRng3, mZipT, mEnumT, mCall, callW, argsOf, slotsOf, tagOf, putBack, mMeth, mMake, makeW, putFld, sFldS, mCallL2, okW, backS, wipeS, Src.items, Src.ok, gEq, gNe, gIn, gNotIn, ixN, at_0, at_1, at_2, at_3, at_4]
  cases decide (a ≤ v) <;> simp [mkFn, stOf, finF, withRefs, refs, sSeq, thenS, sNx, sBad, sDrop, retW, sRet, sIf, mFz, endS, asgW, fs_d, fs_no, fs_o, sSet, sUnp, tgT, tgN, setNs, setN, sPar, putAt, sPut, sAugL, sAug, isL, sAppL, sAppend, sExtend, okApp, okExt, bnd, ret, rd, W.fzD, fz, mV, mC, m2, rd2, gI, gMod, gDiv, gPow, fAdd, fMul, mB, mNone, isN, okB, mCh, mIf, mNot, mNotV, argW, aNil, aCons, allD, mTup, mLst, rd1, rdL2, gLen, gInt, gAbs, gSum, gAll, gAny, fTupOf, fLstOf, mFld, fldD, putD, gIx, oNone, oSome, fSl, mSl, mRev, mNeg, gIsi, gIsiT, tysOf, tyN, tyM, knownC, mIdxT, mIdxL, idxEnd, Item, srcOf, mSeq, b62, mRng1, mRng2, mRng3, mZipT, mEnumT, mCall, callW, argsOf, slotsOf, tagOf, putBack, mMeth, mMake, makeW, putFld, sFldS, mCallL2, okW, backS, wipeS, Src.items, Src.ok, gEq, gNe, gIn, gNotIn, ixN, at_0, at_1, at_2, at_3, at_4]
theorem e_is_row (r : Row) : fn_is_row [.d (rowD r), .d (.int 5)] = .ok (.d (.bl true)) [] := by
  simp [fn_is_row, m_is_row, rowD, eqD_int, mkFn, stOf, finF, withRefs, refs, sSeq, thenS, sNx, sBad, sDrop, retW, sRet, sIf, mFz, endS, asgW, fs_d, fs_no, fs_o, sSet, sUnp, tgT, tgN, setNs, setN, sPar, putAt, sPut, sAugL, sAug, isL, sAppL, sAppend, sExtend, okApp, okExt, bnd, ret, rd, W.fzD, fz, mV, mC, m2, rd2, gI, gMod, gDiv, gPow, fAdd, fMul, mB, mNone, isN, okB, mCh, mIf, mNot, mNotV, argW, aNil, aCons, allD, mTup, mLst, rd1, rdL2, gLen, gInt, gAbs, gSum, gAll, gAny, fTupOf, fLstOf, mFld, fldD, putD, gIx, oNone, oSome, fSl, mSl, mRev, mNeg, gIsi, gIsiT, tysOf, tyN, tyM, knownC, mIdxT, mIdxL, idxEnd, Item, srcOf, mSeq, b62, mRng1, mRng2, mRng3, mZipT, mEnumT, mCall, callW, argsOf, slotsOf, tagOf, putBack, mMeth, mMake, makeW, putFld, sFldS, mCallL2, okW, backS, wipeS, Src.items, Src.ok, gEq, gNe, gIn, gNotIn, ixN, at_0, at_1, at_2, at_3, at_4]
theorem e_names_in (rs : List Row) (hl : rs.length ≤ 1000) : fn_names_in [.d (rowsD rs)] = .ok (.d (namesD rs)) [] := by
  have h : lc_names_in_0 [.d (rowsD rs), .no] = .ok (.o (.lst ((nms_ rs).map .str))) [.d (rowsD rs), .no] := by
    refine mLc_pure (src := .fz ((rs.map rowD).map .one)) (st1 := [.d (rowsD rs), .no]) (b := fun _ => true) (d := fun it => match it with | .one (.tup (x :: _)) => x | _ => .non) (by rfl) (by rfl) trivial (fun it hi => ?_) (by simpa [Src.items] using Nat.le_trans hl (by decide)) (by simp [Src.items, rowD, nms_, Function.comp_def, filterT]) (by rfl)
    simp only [Src.items, List.map_map, List.mem_map, Function.comp] at hi
    obtain ⟨r, hr, rfl⟩ := hi
    exact ⟨[.d (rowsD rs), .d (rowD r)], rfl, rfl, rfl, fun _ => ⟨.d (.str r.nm), by rfl, rfl⟩⟩
  simp [fn_names_in, m_names_in, h, namesD, mkFn, stOf, finF, withRefs, refs, sSeq, thenS, sNx, sBad, sDrop, retW, sRet, sIf, mFz, endS, asgW, fs_d, fs_no, fs_o, sSet, sUnp, tgT, tgN, setNs, setN, sPar, putAt, sPut, sAugL, sAug, isL, sAppL, sAppend, sExtend, okApp, okExt, bnd, ret, rd, W.fzD, fz, mV, mC, m2, rd2, gI, gMod, gDiv, gPow, fAdd, fMul, mB, mNone, isN, okB, mCh, mIf, mNot, mNotV, argW, aNil, aCons, allD, mTup, mLst, rd1, rdL2, gLen, gInt, gAbs, gSum, gAll, gAny, fTupOf, fLstOf, mFld, fldD, putD, gIx, oNone, oSome, fSl, mSl, mRev, mNeg, gIsi, gIsiT, tysOf, tyN, tyM, knownC, mIdxT, mIdxL, idxEnd, Item, srcOf, mSeq, b62, mRng1, mRng2, mRng3, mZipT, mEnumT, mCall, callW, argsOf, slotsOf, tagOf, putBack, mMeth, mMake, makeW, putFld, sFldS, mCallL2, okW, backS, wipeS, Src.items, Src.ok, gEq, gNe, gIn, gNotIn, ixN, at_0, at_1, at_2, at_3, at_4]
def alphS : Str := "abcdefghijklmnopqrstuvwxyz"
theorem in_alph (c : Nat) (h1 : 97 ≤ c) (h2 : c ≤ 122) : inD (.str ⟨#[c]⟩) (.str alphS) = some true := by
  have : c = 97 ∨ c = 98 ∨ c = 99 ∨ c = 100 ∨ c = 101 ∨ c = 102 ∨ c = 103 ∨ c = 104 ∨ c = 105 ∨ c = 106 ∨ c = 107 ∨ c = 108 ∨ c = 109 ∨ c = 110 ∨ c = 111 ∨ c = 112 ∨ c = 113 ∨ c = 114 ∨ c = 115 ∨ c = 116 ∨ c = 117 ∨ c = 118 ∨ c = 119 ∨ c = 120 ∨ c = 121 ∨ c = 122 := by omega
  rcases this with h | h | h | h | h | h | h | h | h | h | h | h | h | h | h | h | h | h | h | h | h | h | h | h | h | h <;> subst h <;> decide +kernel
theorem e_is_name (x : Str) (hx : NmOk x) : fn_is_name [.d (.str x)] = .ok (.d (.bl true)) [] := by
  have h : lc_is_name_0 [.d (.str x), .no] = .ok (.o (.lst (x.cps.toList.map fun _ => .bl true))) [.d (.str x), .no] := by
    refine mLc_pure (src := .fz (x.cps.toList.map fun c => .one (.str ⟨#[c]⟩))) (st1 := [.d (.str x), .no]) (b := fun _ => true) (d := fun it => .bl true) (by rfl) (by rfl) trivial (fun it hi => ?_) (by have := hx.l8; simp [Src.items]; omega) (by simp [Src.items, Function.comp_def, filterT]) (by rfl)
    simp only [Src.items, List.mem_map] at hi
    obtain ⟨c, hc, rfl⟩ := hi
    obtain ⟨h1, h2⟩ := hx.ab c hc
    refine ⟨[.d (.str x), .d (.str ⟨#[c]⟩)], rfl, rfl, rfl, fun _ => ⟨.d (.bl true), ?_, rfl⟩⟩
    have e := in_alph c h1 h2
    have e2 : gIn (.str ⟨#[c]⟩) (.str alphS) = some (.bl true) := by unfold gIn; rw [e]; rfl
    show m2 (rd2 gIn) (mV 1) (mC (.str alphS)) [.d (.str x), .d (.str ⟨#[c]⟩)] = _
    simp [m2, rd2, bnd, mV, mC, rd, e2]
  have l1 := hx.l1
  have l8 := hx.l8
  have g1 : (1 : Int) ≤ (x.length : Nat) := by unfold Str.length; omega
  have g2 : ((x.length : Nat) : Int) ≤ 8 := by unfold Str.length; omega
  have hle : x.length ≤ sizeLine := leSz (by unfold Str.length; omega)
  simp [fn_is_name, m_is_name, h, asBls_T, g1, g2, hle, mkFn, stOf, finF, withRefs, refs, sSeq, thenS, sNx, sBad, sDrop, retW, sRet, sIf, mFz, endS, asgW, fs_d, fs_no, fs_o, sSet, sUnp, tgT, tgN, setNs, setN, sPar, putAt, sPut, sAugL, sAug, isL, sAppL, sAppend, sExtend, okApp, okExt, bnd, ret, rd, W.fzD, fz, mV, mC, m2, rd2, gI, gMod, gDiv, gPow, fAdd, fMul, mB, mNone, isN, okB, mCh, mIf, mNot, mNotV, argW, aNil, aCons, allD, mTup, mLst, rd1, rdL2, gLen, gInt, gAbs, gSum, gAll, gAny, fTupOf, fLstOf, mFld, fldD, putD, gIx, oNone, oSome, fSl, mSl, mRev, mNeg, gIsi, gIsiT, tysOf, tyN, tyM, knownC, mIdxT, mIdxL, idxEnd, Item, srcOf, mSeq, b62, mRng1, mRng2, mRng3, mZipT, mEnumT, mCall, callW, argsOf, slotsOf, tagOf, putBack, mMeth, mMake, makeW, putFld, sFldS, mCallL2, okW, backS, wipeS, Src.items, Src.ok, gEq, gNe, gIn, gNotIn, ixN, at_0, at_1, at_2, at_3, at_4]
/-! ### the tree of wires -/
structure Good (rs : List Row) : Prop where
  l1 : 1 ≤ rs.length
  l10 : rs.length ≤ 10
  nd : (nms_ rs).Nodup
  nm : ∀ r ∈ rs, NmOk r.nm ∧ r.nm ≠ srcS
  up : ∀ (i : Nat) (r : Row), rs[i]? = some r → r.fr = srcS ∨ ∃ j, j < i ∧ ∃ q, rs[j]? = some q ∧ r.fr = q.nm
  rg : ∀ r ∈ rs, (1 ≤ r.ohm ∧ r.ohm ≤ 99) ∧ (0 ≤ r.load ∧ r.load ≤ 99) ∧ (0 ≤ r.fuse ∧ r.fuse ≤ 999)
theorem Good.frOk {rs : List Row} (g : Good rs) {i : Nat} {r : Row} (h : rs[i]? = some r) : NmOk r.fr := by
  rcases g.up i r h with e | ⟨j, _, q, e1, e2⟩
  · rw [e]; exact src_ok
  · rw [e2]; exact (g.nm q (List.mem_of_getElem? e1)).1
theorem names_get {rs : List Row} {i : Nat} {r : Row} (h : rs[i]? = some r) : (nms_ rs)[i]? = some r.nm := by
  unfold nms_; rw [List.getElem?_map, h]; rfl
/-- a prefix holds no name twice -/
theorem fresh_name {rs : List Row} (nd : (nms_ rs).Nodup) {i : Nat} {r : Row} (h : rs[i]? = some r) : r.nm ∉ nms_ (rs.take i) := by
  intro z
  unfold nms_ at z
  rw [List.map_take, List.mem_take_iff_getElem] at z
  obtain ⟨j, hj, e⟩ := z
  have hi := (List.getElem?_eq_some_iff.mp (names_get h)).1
  have ei : (nms_ rs)[i] = r.nm := (List.getElem?_eq_some_iff.mp (names_get h)).2
  have hji : j < i := Nat.lt_of_lt_of_le hj (Nat.min_le_left _ _)
  exact List.pairwise_iff_getElem.mp nd j i (by omega) hi hji (e.trans ei.symm)
theorem e_is_wire {rs : List Row} (g : Good rs) {i : Nat} {r : Row} (h : rs[i]? = some r) : fn_is_wire [.d (rowD r), .d (rowsD (rs.take i))] = .ok (.d (.bl true)) [] := by
  have hm := List.mem_of_getElem? h
  obtain ⟨n1, n2⟩ := g.nm r hm
  obtain ⟨⟨a1, a2⟩, ⟨b1, b2⟩, c1, c2⟩ := g.rg r hm
  have f1 := g.frOk h
  have hl : (rs.take i).length ≤ 1000 := by rw [List.length_take]; have := g.l10; omega
  have sOk : ∀ x ∈ nms_ (rs.take i), PyData.strOk x = true := fun x hx => by
    obtain ⟨q, hq, rfl⟩ := List.mem_map.mp hx
    exact (g.nm q (List.mem_of_mem_take hq)).1.ok
  have q1 : eqD (.str r.nm) (.str srcS) = some false := by rw [eqD_str n1.ok src_ok.ok]; simp [n2]
  have q2 : inD (.str r.nm) (namesD (rs.take i)) = some false := by
    unfold namesD; rw [inD_strsT n1.ok sOk]; simp [fresh_name g.nd h]
  have q3 : eqD (.str r.fr) (.str srcS) = some (r.fr == srcS) := eqD_str f1.ok src_ok.ok
  have q4 : inD (.str r.fr) (namesD (rs.take i)) = some ((nms_ (rs.take i)).contains r.fr) := by
    unfold namesD; exact inD_strsT f1.ok sOk
  have q5 : (r.fr == srcS) = true ∨ (nms_ (rs.take i)).contains r.fr = true := by
    rcases g.up i r h with e | ⟨j, hj, q, e1, e2⟩
    · exact .inl (by simp [e])
    · refine .inr ?_
      rw [e2]
      simp only [List.contains_iff_mem]
      exact List.mem_map.mpr ⟨q, List.mem_of_getElem? (i := j) (by rw [List.getElem?_take_of_lt hj]; exact e1), rfl⟩
  have er : fn_is_row [.d (rowD r), .d (.int 5)] = .ok (.d (.bl true)) [] := e_is_row r
  unfold rowD at er
  unfold srcS at q1 q3 q5
  by_cases hs : (r.fr == Str.ofString "source") = true
  · rw [hs] at q3
    simp [fn_is_wire, q1, q2, q3, m_is_wire, rowD, er, e_is_name _ n1, e_is_name _ f1, e_names_in _ hl, e_is_within, a1, a2, b1, b2, c1, c2, mkFn, stOf, finF, withRefs, refs, sSeq, thenS, sNx, sBad, sDrop, retW, sRet, sIf, mFz, endS, asgW, fs_d, fs_no, fs_o, sSet, sUnp, tgT, tgN, setNs, setN, sPar, putAt, sPut, sAugL, sAug, isL, sAppL, sAppend, sExtend, okApp, okExt, bnd, ret, rd, W.fzD, fz, mV, mC, m2, rd2, gI, gMod, gDiv, gPow, fAdd, fMul, mB, mNone, isN, okB, mCh, mIf, mNot, mNotV, argW, aNil, aCons, allD, mTup, mLst, rd1, rdL2, gLen, gInt, gAbs, gSum, gAll, gAny, fTupOf, fLstOf, mFld, fldD, putD, gIx, oNone, oSome, fSl, mSl, mRev, mNeg, gIsi, gIsiT, tysOf, tyN, tyM, knownC, mIdxT, mIdxL, idxEnd, Item, srcOf, mSeq, b62, mRng1, mRng2, mRng3, mZipT, mEnumT, mCall, callW, argsOf, slotsOf, tagOf, putBack, mMeth, mMake, makeW, putFld, sFldS, mCallL2, okW, backS, wipeS, Src.items, Src.ok, gEq, gNe, gIn, gNotIn, ixN, at_0, at_1, at_2, at_3, at_4]
  · have q6 := q5.resolve_left hs
    rw [q6] at q4
    rw [Bool.eq_false_iff.mpr hs] at q3
    simp [fn_is_wire, q1, q2, q3, q4, m_is_wire, rowD, er, e_is_name _ n1, e_is_name _ f1, e_names_in _ hl, e_is_within, a1, a2, b1, b2, c1, c2, mkFn, stOf, finF, withRefs, refs, sSeq, thenS, sNx, sBad, sDrop, retW, sRet, sIf, mFz, endS, asgW, fs_d, fs_no, fs_o, sSet, sUnp, tgT, tgN, setNs, setN, sPar, putAt, sPut, sAugL, sAug, isL, sAppL, sAppend, sExtend, okApp, okExt, bnd, ret, rd, W.fzD, fz, mV, mC, m2, rd2, gI, gMod, gDiv, gPow, fAdd, fMul, mB, mNone, isN, okB, mCh, mIf, mNot, mNotV, argW, aNil, aCons, allD, mTup, mLst, rd1, rdL2, gLen, gInt, gAbs, gSum, gAll, gAny, fTupOf, fLstOf, mFld, fldD, putD, gIx, oNone, oSome, fSl, mSl, mRev, mNeg, gIsi, gIsiT, tysOf, tyN, tyM, knownC, mIdxT, mIdxL, idxEnd, Item, srcOf, mSeq, b62, mRng1, mRng2, mRng3, mZipT, mEnumT, mCall, callW, argsOf, slotsOf, tagOf, putBack, mMeth, mMake, makeW, putFld, sFldS, mCallL2, okW, backS, wipeS, Src.items, Src.ok, gEq, gNe, gIn, gNotIn, ixN, at_0, at_1, at_2, at_3, at_4]
/-! ### the harness made -/
theorem cut_take {α : Type} {xs : List α} {i : Nat} (h : i ≤ xs.length) : cutG xs none (some (i : Int)) = xs.take i := by
  unfold cutG
  have e1 : HT.sIx xs.length 0 none = 0 := rfl
  have e2 : HT.sIx xs.length xs.length (some (i : Int)) = i := by
    unfold HT.sIx
    simp
    rw [if_neg (by omega)]
    omega
  rw [e1, e2]; simp
theorem e_first_wrong {rs : List Row} (g : Good rs) : fn_first_wrong [.d (rowsD rs), .d (.int 1), .d (.int 10), .d (.fn "is_wire")] = .ok (.d .non) [] := by
  have h : ∃ s', fo_first_wrong_1 [.d (rowsD rs), .d (.int 1), .d (.int 10), .d (.fn "is_wire"), .no, .no] = .ok .nx s' ∧ ∃ a b, s' = [.d (rowsD rs), .d (.int 1), .d (.int 10), .d (.fn "is_wire"), a, b] ∧ freeS a = true ∧ freeS b = true := by
    refine forL_all (t := tgT [4, 5]) (b := bo_first_wrong_0) (fun _ s => ∃ a b, s = [.d (rowsD rs), .d (.int 1), .d (.int 10), .d (.fn "is_wire"), a, b] ∧ freeS a = true ∧ freeS b = true) (its := (rs.map rowD).zipIdx.map fun p => .many [.int (p.2 : Nat), p.1]) (i := 0) (st := [.d (rowsD rs), .d (.int 1), .d (.int 10), .d (.fn "is_wire"), .no, .no]) ⟨.no, .no, rfl, rfl, rfl⟩ ?_
    · rintro j it s hj ⟨a, b, rfl, fa, fb⟩
      rw [List.getElem?_map] at hj
      simp only [Option.map_eq_some_iff] at hj
      obtain ⟨⟨x, k⟩, hj, rfl⟩ := hj
      rw [List.getElem?_zipIdx] at hj
      simp only [Option.map_eq_some_iff, Nat.zero_add, Prod.mk.injEq, List.getElem?_map] at hj
      obtain ⟨_, ⟨r, hr, rfl⟩, rfl, rfl⟩ := hj
      have hjl : j ≤ (rs.map rowD).length := by rw [List.length_map]; exact Nat.le_of_lt (List.getElem?_eq_some_iff.mp hr).1
      refine ⟨[.d (rowsD rs), .d (.int 1), .d (.int 10), .d (.fn "is_wire"), .d (.int (j : Nat)), .d (rowD r)], [.d (rowsD rs), .d (.int 1), .d (.int 10), .d (.fn "is_wire"), .d (.int (j : Nat)), .d (rowD r)], by simp [tgT, setNs, setN, bnd, ret, fa, fb], .inl ?_, _, _, rfl, rfl, rfl⟩
      have e := e_is_wire g hr
      have ec : cutG (rs.map rowD) none (some (j : Int)) = (rs.map rowD).take j := cut_take hjl
      have e' : fn_is_wire [.d (rowD r), .d (.tup ((rs.map rowD).take j))] = .ok (.d (.bl true)) [] := by rw [← List.map_take]; exact e
      simp [bo_first_wrong_0, rowsD, ec, e', mkFn, stOf, finF, withRefs, refs, sSeq, thenS, sNx, sBad, sDrop, retW, sRet, sIf, mFz, endS, asgW, fs_d, fs_no, fs_o, sSet, sUnp, tgT, tgN, setNs, setN, sPar, putAt, sPut, sAugL, sAug, isL, sAppL, sAppend, sExtend, okApp, okExt, bnd, ret, rd, W.fzD, fz, mV, mC, m2, rd2, gI, gMod, gDiv, gPow, fAdd, fMul, mB, mNone, isN, okB, mCh, mIf, mNot, mNotV, argW, aNil, aCons, allD, mTup, mLst, rd1, rdL2, gLen, gInt, gAbs, gSum, gAll, gAny, fTupOf, fLstOf, mFld, fldD, putD, gIx, oNone, oSome, fSl, mSl, mRev, mNeg, gIsi, gIsiT, tysOf, tyN, tyM, knownC, mIdxT, mIdxL, idxEnd, Item, srcOf, mSeq, b62, mRng1, mRng2, mRng3, mZipT, mEnumT, mCall, callW, argsOf, slotsOf, tagOf, putBack, mMeth, mMake, makeW, putFld, sFldS, mCallL2, okW, backS, wipeS, Src.items, Src.ok, gEq, gNe, gIn, gNotIn, ixN, at_0, at_1, at_2, at_3, at_4]
  obtain ⟨s', h1, a, b, rfl, _, _⟩ := h
  have hl := g.l10
  have hl1 := g.l1
  have g1 : (1 : Int) ≤ (rs.length : Nat) := by omega
  have g2 : ((rs.length : Nat) : Int) ≤ 10 := by omega
  unfold rowsD at h1 ⊢
  simp [fn_first_wrong, m_first_wrong, h1, g1, g2, mkFn, stOf, finF, withRefs, refs, sSeq, thenS, sNx, sBad, sDrop, retW, sRet, sIf, mFz, endS, asgW, fs_d, fs_no, fs_o, sSet, sUnp, tgT, tgN, setNs, setN, sPar, putAt, sPut, sAugL, sAug, isL, sAppL, sAppend, sExtend, okApp, okExt, bnd, ret, rd, W.fzD, fz, mV, mC, m2, rd2, gI, gMod, gDiv, gPow, fAdd, fMul, mB, mNone, isN, okB, mCh, mIf, mNot, mNotV, argW, aNil, aCons, allD, mTup, mLst, rd1, rdL2, gLen, gInt, gAbs, gSum, gAll, gAny, fTupOf, fLstOf, mFld, fldD, putD, gIx, oNone, oSome, fSl, mSl, mRev, mNeg, gIsi, gIsiT, tysOf, tyN, tyM, knownC, mIdxT, mIdxL, idxEnd, Item, srcOf, mSeq, b62, mRng1, mRng2, mRng3, mZipT, mEnumT, mCall, callW, argsOf, slotsOf, tagOf, putBack, mMeth, mMake, makeW, putFld, sFldS, mCallL2, okW, backS, wipeS, Src.items, Src.ok, gEq, gNe, gIn, gNotIn, ixN, at_0, at_1, at_2, at_3, at_4]
structure Har where
  rows : List Row
  volts : Int
  limit : Int
def Har.fs (h : Har) : List (String × D) := [("rows", rowsD h.rows), ("volts", .int h.volts), ("limit", .int h.limit), ("names", namesD h.rows)]
def Har.d (h : Har) : D := .ins "Harness" h.fs
structure HOk (h : Har) : Prop where
  g : Good h.rows
  v : 1 ≤ h.volts ∧ h.volts ≤ 99999
  l : 0 ≤ h.limit ∧ h.limit ≤ 99999
theorem e_require (p : String) : fn_require_part [.d (.str p), .d .non] = .ok (.d .non) [] := by rfl
theorem e_init {h : Har} (o : HOk h) : fn_Harness_init [.r (.ins "Harness" []), .d (rowsD h.rows), .d (.int h.volts), .d (.int h.limit)] = .ok (.d .non) [.ins "Harness" h.fs] := by
  have e1 := e_first_wrong o.g
  have e2 := e_names_in h.rows (Nat.le_trans o.g.l10 (by decide))
  have l : (1 : Nat) ≤ 1000 := by decide
  simp [fn_Harness_init, m_Harness_init, e1, e2, e_require, e_is_within, o.v.1, o.v.2, o.l.1, o.l.2, Har.fs, mkFn, stOf, finF, withRefs, refs, sSeq, thenS, sNx, sBad, sDrop, retW, sRet, sIf, mFz, endS, asgW, fs_d, fs_no, fs_o, sSet, sUnp, tgT, tgN, setNs, setN, sPar, putAt, sPut, sAugL, sAug, isL, sAppL, sAppend, sExtend, okApp, okExt, bnd, ret, rd, W.fzD, fz, mV, mC, m2, rd2, gI, gMod, gDiv, gPow, fAdd, fMul, mB, mNone, isN, okB, mCh, mIf, mNot, mNotV, argW, aNil, aCons, allD, mTup, mLst, rd1, rdL2, gLen, gInt, gAbs, gSum, gAll, gAny, fTupOf, fLstOf, mFld, fldD, putD, gIx, oNone, oSome, fSl, mSl, mRev, mNeg, gIsi, gIsiT, tysOf, tyN, tyM, knownC, mIdxT, mIdxL, idxEnd, Item, srcOf, mSeq, b62, mRng1, mRng2, mRng3, mZipT, mEnumT, mCall, callW, argsOf, slotsOf, tagOf, putBack, mMeth, mMake, makeW, putFld, sFldS, mCallL2, okW, backS, wipeS, Src.items, Src.ok, gEq, gNe, gIn, gNotIn, ixN, at_0, at_1, at_2, at_3, at_4]
end k15
end DP
end
section
set_option Elab.async false
set_option linter.all false
set_option maxRecDepth 100000
set_option maxHeartbeats 4000000
namespace DP
namespace k15
open PySem PySem.Spec PyProof.Rows L2
/-! ### ways -/
theorem hf_rows {h : Har} : fldD "rows" h.fs = some (rowsD h.rows) := by rfl
theorem hf_names {h : Har} : fldD "names" h.fs = some (namesD h.rows) := by rfl
theorem hf_volts {h : Har} : fldD "volts" h.fs = some (.int h.volts) := by rfl
theorem hf_limit {h : Har} : fldD "limit" h.fs = some (.int h.limit) := by rfl
theorem hf_spot {h : Har} : fldD "spot" h.fs = none := by rfl
def upI (rs : List Row) (i : Nat) : Option Nat := match rs[i]? with
  | some r => if r.fr = srcS then none else (nms_ rs).findIdx? (· == r.fr)
  | none => none
theorem Good.src_no {rs : List Row} (g : Good rs) {j : Nat} {q : Row} (h : rs[j]? = some q) : q.nm ≠ srcS := (g.nm q (List.mem_of_getElem? h)).2
theorem up_cases {rs : List Row} (g : Good rs) {i : Nat} {r : Row} (h : rs[i]? = some r) : (r.fr = srcS ∧ upI rs i = none) ∨ ∃ j, j < i ∧ upI rs i = some j ∧ r.fr ≠ srcS ∧ (nms_ rs).findIdx? (· == r.fr) = some j ∧ ∃ q, rs[j]? = some q ∧ q.nm = r.fr := by
  rcases g.up i r h with e | ⟨j, hj, q, e1, e2⟩
  · left; exact ⟨e, by unfold upI; rw [h]; simp [e]⟩
  · right
    have ne : r.fr ≠ srcS := by rw [e2]; exact g.src_no e1
    have f : (nms_ rs).findIdx? (· == r.fr) = some j := by rw [e2]; exact find_at g.nd (names_get e1)
    exact ⟨j, hj, by unfold upI; rw [h]; simp only [ne, if_false]; exact f, ne, f, q, e1, e2.symm⟩
/-- the way back to the source, fuel f -/
def rp (rs : List Row) : Nat → Nat → List Nat
  | 0, _ => []
  | f + 1, i => i :: (match upI rs i with
    | some j => rp rs f j
    | none => [])
def rpth (rs : List Row) (i : Nat) : List Nat := rp rs (i + 1) i
def pth (rs : List Row) (i : Nat) : List Nat := (rpth rs i).reverse
theorem rp_enough {rs : List Row} (g : Good rs) : ∀ (i f : Nat), i < rs.length → i < f → rp rs f i = rpth rs i := by
  intro i
  induction i using Nat.strongRecOn with
  | ind i ih =>
    intro f hi hf
    cases f with
    | zero => omega
    | succ f =>
      unfold rpth rp
      obtain ⟨r, hr⟩ : ∃ r, rs[i]? = some r := ⟨rs[i], by simp [hi]⟩
      rcases up_cases g hr with ⟨_, e⟩ | ⟨j, hj, e, _⟩
      · rw [e]
      · rw [e]
        simp only
        rw [ih j hj f (by omega) (by omega), ih j hj i (by omega) hj]
theorem rpth_none {rs : List Row} {i : Nat} (e : upI rs i = none) : rpth rs i = [i] := by unfold rpth rp; rw [e]
theorem rpth_some {rs : List Row} (g : Good rs) {i j : Nat} (hi : i < rs.length) (hj : j < i) (e : upI rs i = some j) : rpth rs i = i :: rpth rs j := by
  have : rpth rs i = i :: (match upI rs i with | some j => rp rs i j | none => []) := rfl
  rw [this, e]
  simp only
  rw [rp_enough g j i (by omega) hj]
def natsD (l : List Nat) : List D := l.map fun k => .int (k : Nat)
theorem natsD_app {l m : List Nat} : natsD (l ++ m) = natsD l ++ natsD m := List.map_append ..
theorem rows_at {rs : List Row} {i : Nat} {r : Row} (h : rs[i]? = some r) : L2.atI (rs.map rowD) (i : Int) = some (rowD r) := by
  rw [atI_nat, List.getElem?_map, h]; rfl
theorem natsD_last {l : List Nat} {i : Nat} : L2.atI (natsD (l ++ [i])) (-1) = some (.int (i : Nat)) := by
  rw [atI_last, natsD_app]
  simp [natsD]
theorem idx_fr {rs : List Row} (g : Good rs) {i j : Nat} {r : Row} (h : rs[i]? = some r) (e : (nms_ rs).findIdx? (· == r.fr) = some j) : idxP (.str r.fr) ((nms_ rs).map .str) = some j := by
  rw [idxP_strs (g.frOk h).ok (fun x hx => by
    obtain ⟨q, hq, rfl⟩ := List.mem_map.mp hx
    exact (g.nm q hq).1.ok)]
  exact e
end k15
end DP
end
section
set_option Elab.async false
set_option linter.all false
set_option maxRecDepth 100000
set_option maxHeartbeats 4000000
namespace DP
namespace k15
open PySem PySem.Spec PyProof.Rows L2
def nmAt (rs : List Row) (k : Nat) : Str := (nms_ rs).getD k srcS
theorem nmAt_of {rs : List Row} {i : Nat} {r : Row} (h : rs[i]? = some r) : nmAt rs i = r.nm := by
  unfold nmAt; rw [List.getD_eq_getElem?_getD, names_get h]; rfl
theorem mem_rpth {rs : List Row} (g : Good rs) : ∀ (i : Nat), i < rs.length → ∀ k ∈ rpth rs i, k ≤ i := by
  intro i
  induction i using Nat.strongRecOn with
  | ind i ih =>
    intro hi k hk
    obtain ⟨r, hr⟩ : ∃ r, rs[i]? = some r := ⟨rs[i], by simp [hi]⟩
    rcases up_cases g hr with ⟨_, e⟩ | ⟨j, hj, e, _⟩
    · rw [rpth_none e] at hk; simp at hk; omega
    · rw [rpth_some g hi hj e] at hk
      rcases List.mem_cons.mp hk with z | z
      · omega
      · have := ih j hj (by omega) k z; omega
theorem mem_pth {rs : List Row} (g : Good rs) {i k : Nat} (hi : i < rs.length) (hk : k ∈ pth rs i) : k ≤ i := mem_rpth g i hi k (List.mem_reverse.mp hk)
theorem self_pth {rs : List Row} {i : Nat} : i ∈ pth rs i := by
  unfold pth rpth rp; simp
theorem rpth_len {rs : List Row} (g : Good rs) : ∀ (i : Nat), i < rs.length → (rpth rs i).length ≤ i + 1 := by
  intro i
  induction i using Nat.strongRecOn with
  | ind i ih =>
    intro hi
    obtain ⟨r, hr⟩ : ∃ r, rs[i]? = some r := ⟨rs[i], by simp [hi]⟩
    rcases up_cases g hr with ⟨_, e⟩ | ⟨j, hj, e, _⟩
    · rw [rpth_none e]; simp
    · rw [rpth_some g hi hj e]; have := ih j hj (by omega); simp; omega
theorem pth_len {rs : List Row} (g : Good rs) {i : Nat} (hi : i < rs.length) : (pth rs i).length ≤ 10 := by
  have h1 := rpth_len g i hi
  have h2 := g.l10
  unfold pth; rw [List.length_reverse]; omega
theorem namesOk {rs : List Row} (g : Good rs) : ∀ x ∈ nms_ rs, PyData.strOk x = true := fun x hx => by
  obtain ⟨q, hq, rfl⟩ := List.mem_map.mp hx
  exact (g.nm q hq).1.ok
def wayL (rs : List Row) (l : List Nat) : List D := l.map fun k => .str (nmAt rs k)
theorem names_at {rs : List Row} {k : Nat} (hk : k < rs.length) : L2.atI ((nms_ rs).map D.str) (k : Int) = some (.str (nmAt rs k)) := by
  obtain ⟨r, hr⟩ : ∃ r, rs[k]? = some r := ⟨rs[k], by simp [hk]⟩
  rw [atI_nat, List.getElem?_map, names_get hr, nmAt_of hr]; rfl
theorem nmAt_ok {rs : List Row} (g : Good rs) (k : Nat) : NmOk (nmAt rs k) := by
  by_cases hk : k < rs.length
  · obtain ⟨r, hr⟩ : ∃ r, rs[k]? = some r := ⟨rs[k], by simp [hk]⟩
    rw [nmAt_of hr]; exact (g.nm r (List.mem_of_getElem? hr)).1
  · unfold nmAt
    rw [List.getD_eq_getElem?_getD, List.getElem?_eq_none (by unfold nms_; simp; omega)]
    exact src_ok
theorem nmAt_inj {rs : List Row} (g : Good rs) {i j : Nat} (hi : i < rs.length) (hj : j < rs.length) (e : nmAt rs i = nmAt rs j) : i = j := by
  obtain ⟨r, hr⟩ : ∃ r, rs[i]? = some r := ⟨rs[i], by simp [hi]⟩
  obtain ⟨q, hq⟩ : ∃ q, rs[j]? = some q := ⟨rs[j], by simp [hj]⟩
  rw [nmAt_of hr, nmAt_of hq] at e
  have h1 := find_at g.nd (names_get hr)
  have h2 := find_at g.nd (names_get hq)
  rw [e, h2] at h1
  exact (Option.some.inj h1).symm
/-- is k on the way to j -/
def onB (rs : List Row) (k j : Nat) : Bool := (pth rs j).contains k
theorem names_range {rs : List Row} : nms_ rs = (List.range rs.length).map (nmAt rs) := by
  refine List.ext_getElem? fun i => ?_
  by_cases hi : i < rs.length
  · obtain ⟨r, hr⟩ : ∃ r, rs[i]? = some r := ⟨rs[i], by simp [hi]⟩
    rw [names_get hr, List.getElem?_map, List.getElem?_range hi]
    simp [nmAt_of hr]
  · rw [List.getElem?_eq_none (by unfold nms_; simp; omega), List.getElem?_eq_none (by simp; omega)]
/-- the wires behind the k-th, in order -/
def behL (rs : List Row) (k : Nat) : List Nat := (List.range rs.length).filter fun j => onB rs k j
end k15
end DP
end
section
set_option Elab.async false
set_option linter.all false
set_option maxRecDepth 100000
set_option maxHeartbeats 4000000
namespace DP
namespace k15
open PySem PySem.Spec PyProof.Rows L2
/-! ### the law's ways -/
theorem natsD_head {l : List Nat} {i : Nat} : L2.atI (natsD (i :: l)) (0 : Int) = some (.int (i : Nat)) := at_0
theorem lp_names {rs : List Row} (g : Good rs) (k : D) : lc_law_path_0 [.d (rowsD rs), .d k, .no, .no, .no, .no] = .ok (.o (.lst ((nms_ rs).map .str))) [.d (rowsD rs), .d k, .no, .no, .no, .no] := by
  have hl : rs.length ≤ 1000 := Nat.le_trans g.l10 (by decide)
  refine mLc_pure (src := .fz ((rs.map rowD).map .one)) (st1 := [.d (rowsD rs), .d k, .no, .no, .no, .no]) (b := fun _ => true) (d := fun it => match it with | .one (.tup (x :: _)) => x | _ => .non) (by rfl) (by rfl) trivial (fun it hi => ?_) (by simpa [Src.items] using Nat.le_trans hl (by decide)) (by simp [Src.items, rowD, nms_, Function.comp_def, filterT]) (by rfl)
  simp only [Src.items, List.map_map, List.mem_map, Function.comp] at hi
  obtain ⟨r, hr, rfl⟩ := hi
  exact ⟨[.d (rowsD rs), .d k, .no, .no, .no, .d (rowD r)], rfl, rfl, rfl, fun _ => ⟨.d (.str r.nm), by rfl, rfl⟩⟩
def lpS (rs : List Row) (k tv : D) (l : List Nat) : St := [.d (rowsD rs), .d k, .d tv, .d (.lst ((nms_ rs).map .str)), .d (.lst (natsD l)), .no]
theorem lp_body1 {rs : List Row} (g : Good rs) {i : Nat} {r : Row} (hr : rs[i]? = some r) (e : r.fr = srcS) (k tv : D) (acc : List Nat) : bo_law_path_1 (lpS rs k tv (i :: acc)) = .ok .bk (lpS rs k tv (i :: acc)) := by
  have e1 := rows_at hr
  have e2 := natsD_head (l := acc) (i := i)
  have e3 : eqD (.str r.fr) (.str (Str.ofString "source")) = some true := by rw [e]; exact (eqD_str src_ok.ok src_ok.ok).trans (by simp [srcS])
  simp only [rowD] at e1
  simp [bo_law_path_1, lpS, rowsD, rowD, e1, e2, e3, mkFn, stOf, finF, withRefs, refs, sSeq, thenS, sNx, sBad, sDrop, retW, sRet, sIf, mFz, endS, asgW, fs_d, fs_no, fs_o, sSet, sUnp, tgT, tgN, setNs, setN, sPar, putAt, sPut, sAugL, sAug, isL, sAppL, sAppend, sExtend, okApp, okExt, bnd, ret, rd, W.fzD, fz, mV, mC, m2, rd2, gI, gMod, gDiv, gPow, fAdd, fMul, mB, mNone, isN, okB, mCh, mIf, mNot, mNotV, argW, aNil, aCons, allD, mTup, mLst, rd1, rdL2, gLen, gInt, gAbs, gSum, gAll, gAny, fTupOf, fLstOf, mFld, fldD, putD, gIx, oNone, oSome, fSl, mSl, mRev, mNeg, gIsi, gIsiT, tysOf, tyN, tyM, knownC, mIdxT, mIdxL, idxEnd, Item, srcOf, mSeq, b62, mRng1, mRng2, mRng3, mZipT, mEnumT, mCall, callW, argsOf, slotsOf, tagOf, putBack, mMeth, mMake, makeW, putFld, sFldS, mCallL2, okW, backS, wipeS, Src.items, Src.ok, gEq, gNe, gIn, gNotIn, ixN, at_0, at_1, at_2, at_3, at_4]
theorem lp_body2 {rs : List Row} (g : Good rs) {i j : Nat} {r : Row} (hr : rs[i]? = some r) (ne : r.fr ≠ srcS) (e : (nms_ rs).findIdx? (· == r.fr) = some j) (k tv : D) (acc : List Nat) (hl : acc.length < 900) : bo_law_path_1 (lpS rs k tv (i :: acc)) = .ok .nx (lpS rs k tv (j :: i :: acc)) := by
  have e1 := rows_at hr
  have e2 := natsD_head (l := acc) (i := i)
  have e3 : eqD (.str r.fr) (.str (Str.ofString "source")) = some false := by
    rw [show (D.str (Str.ofString "source")) = .str srcS from rfl, eqD_str (g.frOk hr).ok src_ok.ok]; simp [ne]
  have e4 := idx_fr g hr e
  have e5 : (natsD (i :: acc)).length + 1 ≤ sizeLine := leSz (by simp [natsD]; omega)
  have e6 : natsD (j :: i :: acc) = .int (j : Nat) :: natsD (i :: acc) := rfl
  unfold lpS
  rw [e6]
  generalize hX : natsD (i :: acc) = X at e2 e5 ⊢
  simp only [rowD] at e1
  rw [Nat.add_comm] at e5
  simp [bo_law_path_1, rowsD, rowD, e1, e2, e3, e4, e5, mkFn, stOf, finF, withRefs, refs, sSeq, thenS, sNx, sBad, sDrop, retW, sRet, sIf, mFz, endS, asgW, fs_d, fs_no, fs_o, sSet, sUnp, tgT, tgN, setNs, setN, sPar, putAt, sPut, sAugL, sAug, isL, sAppL, sAppend, sExtend, okApp, okExt, bnd, ret, rd, W.fzD, fz, mV, mC, m2, rd2, gI, gMod, gDiv, gPow, fAdd, fMul, mB, mNone, isN, okB, mCh, mIf, mNot, mNotV, argW, aNil, aCons, allD, mTup, mLst, rd1, rdL2, gLen, gInt, gAbs, gSum, gAll, gAny, fTupOf, fLstOf, mFld, fldD, putD, gIx, oNone, oSome, fSl, mSl, mRev, mNeg, gIsi, gIsiT, tysOf, tyN, tyM, knownC, mIdxT, mIdxL, idxEnd, Item, srcOf, mSeq, b62, mRng1, mRng2, mRng3, mZipT, mEnumT, mCall, callW, argsOf, slotsOf, tagOf, putBack, mMeth, mMake, makeW, putFld, sFldS, mCallL2, okW, backS, wipeS, Src.items, Src.ok, gEq, gNe, gIn, gNotIn, ixN, at_0, at_1, at_2, at_3, at_4]
theorem lp_loop {rs : List Row} (g : Good rs) (k : D) : ∀ (i : Nat) (its : List Item) (acc : List Nat) (tv : Sl), i < rs.length → i < its.length → (∀ it ∈ its, ∃ d, it = .one d) → acc.length + i < 800 → freeS tv = true →
    ∃ d, forL (tgN 2) bo_law_path_1 its [.d (rowsD rs), .d k, tv, .d (.lst ((nms_ rs).map .str)), .d (.lst (natsD (i :: acc))), .no] = .ok .nx (lpS rs k d ((rpth rs i).reverse ++ acc)) := by
  intro i
  induction i using Nat.strongRecOn with
  | ind i ih =>
    intro its acc tv hi hl ho ha ft
    cases its with
    | nil => simp at hl
    | cons it its =>
      obtain ⟨d, rfl⟩ := ho it List.mem_cons_self
      obtain ⟨r, hr⟩ : ∃ r, rs[i]? = some r := ⟨rs[i], by simp [hi]⟩
      have et : tgN 2 (.one d) [.d (rowsD rs), .d k, tv, .d (.lst ((nms_ rs).map .str)), .d (.lst (natsD (i :: acc))), .no] = .ok () (lpS rs k d (i :: acc)) := by simp [tgN, setN, ft, lpS]
      unfold forL
      simp only [et]
      rcases up_cases g hr with ⟨e0, e⟩ | ⟨j, hj, e, ne, ef, _⟩
      · refine ⟨d, ?_⟩
        rw [bnd_ok (lp_body1 g hr e0 k d acc), rpth_none e]
        rfl
      · rw [bnd_ok (lp_body2 g hr ne ef k d acc (by omega))]
        obtain ⟨d2, q⟩ := ih j hj its (i :: acc) (.d d) (by omega) (by simp at hl; omega) (fun it h => ho it (List.mem_cons_of_mem _ h)) (by simp; omega) rfl
        refine ⟨d2, ?_⟩
        rw [rpth_some g hi hj e]
        simp only [List.reverse_cons, List.append_assoc, List.singleton_append]
        exact q
theorem rng_len {rs : List Row} (g : Good rs) (st : St) (h : st[0]? = some (.d (rowsD rs))) : mRng1 (aCons (bnd (aCons (mV 0) aNil) (rd1 gLen)) aNil) st = .ok (.fz ((List.range rs.length).map fun k => .one (.int (0 + (k : Nat))))) st := by
  have hl := g.l10
  have hb : b62 ((rs.length : Nat) : Int) = true := by
    unfold b62
    rw [decide_eq_true_iff]
    omega
  simp [rowsD, mRng1, aCons, aNil, bnd, ret, mV, rd1, rd, gLen, argW, h, hb]
theorem lp_fo {rs : List Row} (g : Good rs) {i : Nat} (hi : i < rs.length) : ∃ d, fo_law_path_2 [.d (rowsD rs), .d (.int (i : Nat)), .no, .d (.lst ((nms_ rs).map .str)), .d (.lst [.int (i : Nat)]), .no] = .ok .nx (lpS rs (.int (i : Nat)) d (pth rs i)) := by
  have hl := g.l10
  obtain ⟨d, q⟩ := lp_loop g (.int (i : Nat)) i ((List.range rs.length).map fun k => .one (.int (0 + (k : Nat)))) [] .no hi (by simpa using hi) (fun it h => by
    obtain ⟨m, _, rfl⟩ := List.mem_map.mp h
    exact ⟨_, rfl⟩) (by simp; omega) rfl
  rw [List.append_nil] at q
  refine ⟨d, ?_⟩
  unfold fo_law_path_2 sFor
  rw [bnd_ok (rng_len g _ rfl)]
  exact q
theorem e_law_path {rs : List Row} (g : Good rs) {i : Nat} (hi : i < rs.length) : fn_law_path [.d (rowsD rs), .d (.int (i : Nat))] = .ok (.d (.lst (natsD (pth rs i)))) [] := by
  obtain ⟨d, q2⟩ := lp_fo g hi
  have hn := lp_names g (.int (i : Nat))
  have h1 : sPar 3 4 (mFz lc_law_path_0) (mFz (mLst (aCons (mV 1) aNil))) [.d (rowsD rs), .d (.int (i : Nat)), .no, .no, .no, .no] = .ok .nx [.d (rowsD rs), .d (.int (i : Nat)), .no, .d (.lst ((nms_ rs).map .str)), .d (.lst [.int (i : Nat)]), .no] := by
    unfold sPar mFz
    rw [bnd_assoc, bnd_ok hn]
    rfl
  have h2 : m_law_path [.d (rowsD rs), .d (.int (i : Nat)), .no, .no, .no, .no] = .ok (.ret (.d (.lst (natsD (pth rs i))))) (lpS rs (.int (i : Nat)) d (pth rs i)) := by
    have h3 : sSeq fo_law_path_2 (sRet (mV 4)) [.d (rowsD rs), .d (.int (i : Nat)), .no, .d (.lst ((nms_ rs).map .str)), .d (.lst [.int (i : Nat)]), .no] = .ok (.ret (.d (.lst (natsD (pth rs i))))) (lpS rs (.int (i : Nat)) d (pth rs i)) := (bnd_ok q2).trans rfl
    exact (bnd_ok (k := thenS (sSeq fo_law_path_2 (sRet (mV 4)))) h1).trans h3
  show finF _ (m_law_path [.d (rowsD rs), .d (.int (i : Nat)), .no, .no, .no, .no]) = _
  rw [h2]
  rfl
/-! ### greatest common divisors -/
end k15
end DP
end
section
set_option Elab.async false
set_option linter.all false
set_option maxRecDepth 100000
set_option maxHeartbeats 4000000
namespace DP
namespace k15
open PySem PySem.Spec PyProof.Rows L2
def rowAt (rs : List Row) (k : Nat) : Row := rs.getD k ⟨srcS, srcS, 1, 0, 0⟩
theorem rowAt_of {rs : List Row} {k : Nat} (hk : k < rs.length) : rs[k]? = some (rowAt rs k) := by
  unfold rowAt; rw [List.getD_eq_getElem?_getD]; simp [hk]
theorem rowAt_eq {rs : List Row} {i : Nat} {r : Row} (h : rs[i]? = some r) : rowAt rs i = r := by
  unfold rowAt; rw [List.getD_eq_getElem?_getD, h]; rfl
theorem rowAt_ohm {rs : List Row} (g : Good rs) (k : Nat) : 1 ≤ (rowAt rs k).ohm ∧ (rowAt rs k).ohm ≤ 99 := by
  by_cases hk : k < rs.length
  · exact (g.rg _ (List.mem_of_getElem? (rowAt_of hk))).1
  · unfold rowAt; rw [List.getD_eq_getElem?_getD, List.getElem?_eq_none (by omega)]; exact ⟨by decide, by decide⟩
theorem nmAt_row {rs : List Row} {k : Nat} (hk : k < rs.length) : nmAt rs k = (rowAt rs k).nm := nmAt_of (rowAt_of hk)
theorem rows_atI {rs : List Row} {k : Nat} (hk : k < rs.length) : L2.atI (rs.map rowD) (k : Int) = some (rowD (rowAt rs k)) := rows_at (rowAt_of hk)
def ohms (rs : List Row) (i : Nat) : Int := ((pth rs i).map fun k => (rowAt rs k).ohm).sum
theorem sum_rng (l : List Nat) (f : Nat → Int) (h : ∀ k ∈ l, 1 ≤ f k ∧ f k ≤ 99) : (l.length : Int) ≤ (l.map f).sum ∧ (l.map f).sum ≤ 99 * (l.length : Int) := by
  induction l with
  | nil => simp
  | cons x l ih =>
    have := ih fun k hk => h k (List.mem_cons_of_mem _ hk)
    have := h x List.mem_cons_self
    simp only [List.map_cons, List.sum_cons, List.length_cons]
    omega
theorem ohms_rng {rs : List Row} (g : Good rs) {i : Nat} (hi : i < rs.length) : 1 ≤ ohms rs i ∧ ohms rs i ≤ 990 := by
  have h := sum_rng (pth rs i) (fun k => (rowAt rs k).ohm) fun k _ => rowAt_ohm g k
  have h2 := pth_len g hi
  have h3 : 0 < (pth rs i).length := List.length_pos_of_mem (self_pth (rs := rs) (i := i))
  unfold ohms
  omega
def shr (h : Har) (i : Nat) : Int := (Int.gcd h.volts (ohms h.rows i) : Nat)
theorem shr_rng {h : Har} (o : HOk h) {i : Nat} (hi : i < h.rows.length) : 0 < shr h i ∧ shr h i < 1073741824 := by
  obtain ⟨v1, v2⟩ := o.v
  have p : 0 < Int.gcd h.volts (ohms h.rows i) := Nat.pos_of_ne_zero fun z => by
    have := (Int.gcd_eq_zero_iff.mp z).1
    omega
  have d : ((Int.gcd h.volts (ohms h.rows i) : Nat) : Int) ∣ h.volts := Int.gcd_dvd_left ..
  have := Int.le_of_dvd (by omega) d
  unfold shr
  omega
theorem mem_path {rs : List Row} (g : Good rs) {i : Nat} (hi : i < rs.length) {it : Item} (h : it ∈ ((natsD (pth rs i)).map Item.one)) : ∃ k, k ∈ pth rs i ∧ k < rs.length ∧ it = .one (.int (k : Nat)) := by
  simp only [natsD, List.map_map, List.mem_map, Function.comp] at h
  obtain ⟨k, hk, rfl⟩ := h
  exact ⟨k, hk, Nat.lt_of_le_of_lt (mem_pth g hi hk) hi, rfl⟩
theorem srcO {m : M W} {st : St} {l : List D} (h : m st = .ok (.o (.lst l)) st) : mSeq m st = .ok (.fz (l.map .one)) st := by
  unfold mSeq; rw [bnd_ok h]; rfl
theorem srcD {m : M W} {st : St} {l : List D} (h : m st = .ok (.d (.lst l)) st) : mSeq m st = .ok (.fz (l.map .one)) st := by
  unfold mSeq; rw [bnd_ok h]; rfl
end k15
end DP
end
section
set_option Elab.async false
set_option linter.all false
set_option maxRecDepth 100000
set_option maxHeartbeats 4000000
namespace DP
namespace k15
open PySem PySem.Spec PyProof.Rows L2
def nameO (rs : List Row) : Option Nat → D
  | some k => .str (nmAt rs k)
  | none => .non
def findFl (rs : List Row) : Option Nat → Fl
  | some k => .ret (.d (.str (nmAt rs k)))
  | none => .nx
def pOpen (rs : List Row) (top below : Int) (k : Nat) : Bool := decide (0 < (rowAt rs k).fuse) && decide ((rowAt rs k).fuse * below < top)
/-- the fuse that opens -/
def opn (h : Har) (i k : Nat) : Bool := decide (0 < (rowAt h.rows k).fuse) && decide ((rowAt h.rows k).fuse * ohms h.rows i < h.volts)
def openJ (h : Har) (i : Nat) : Option Nat := (rpth h.rows i).find? (opn h i)
theorem open_eq {h : Har} (o : HOk h) {i : Nat} (hi : i < h.rows.length) (k : Nat) : pOpen h.rows (h.volts / shr h i) (ohms h.rows i / shr h i) k = opn h i k := by
  have hs := shr_rng o hi
  have d1 : shr h i ∣ h.volts := Int.gcd_dvd_left ..
  have d2 : shr h i ∣ ohms h.rows i := Int.gcd_dvd_right ..
  obtain ⟨a, ha⟩ := d1
  obtain ⟨b, hb⟩ := d2
  unfold pOpen opn
  congr 1
  rw [ha, hb, Int.mul_ediv_cancel_left _ (by omega), Int.mul_ediv_cancel_left _ (by omega)]
  rw [decide_eq_decide]
  rw [show (rowAt h.rows k).fuse * (shr h i * b) = shr h i * ((rowAt h.rows k).fuse * b) by rw [Int.mul_left_comm]]
  exact (Int.mul_lt_mul_left hs.1).symm
theorem rpth_lt {rs : List Row} (g : Good rs) {i : Nat} (hi : i < rs.length) : ∀ k ∈ rpth rs i, k < rs.length := fun k hk => Nat.lt_of_le_of_lt (mem_rpth g i hi k hk) hi
def pNear (rs : List Row) (k : Nat) : Bool := decide (0 < (rowAt rs k).fuse)
def nearJ (h : Har) (i : Nat) : Option Nat := (rpth h.rows i).find? (pNear h.rows)
def darkL (h : Har) (i : Nat) : List Nat := match openJ h i with
  | none => List.range h.rows.length
  | some k => behL h.rows k
/-- names that pass -/
theorem lc_names {h : Har} (g : Good h.rows) {test : M Bool} (pr : Nat → Bool) (ht : ∀ j, j < h.rows.length → test [.d h.d, .d (.str (nmAt h.rows j))] = .ok (pr j) [.d h.d, .d (.str (nmAt h.rows j))]) :
    mLc [1] (mSeq (mFld ["Harness"] "names" (mV 0))) (tgN 1) test (mV 1) [.d h.d, .no] = .ok (.o (.lst (wayL h.rows ((List.range h.rows.length).filter pr)))) [.d h.d, .no] := by
  refine mLc_pure (src := .fz ((((List.range h.rows.length).map (nmAt h.rows)).map D.str).map .one)) (st1 := [.d h.d, .no]) (b := fun it => match it with | .one (.str x) => (match (nms_ h.rows).findIdx? (· == x) with | some j => pr j | none => false) | _ => false) (d := fun it => match it with | .one x => x | _ => .non) ?_ (by rfl) trivial (fun it hit => ?_) (by have := g.l10; simp [Src.items]; omega) ?_ (by rfl)
  · rw [← names_range]
    simp [Har.d, hf_names, namesD, mkFn, stOf, finF, withRefs, refs, sSeq, thenS, sNx, sBad, sDrop, retW, sRet, sIf, mFz, endS, asgW, fs_d, fs_no, fs_o, sSet, sUnp, tgT, tgN, setNs, setN, sPar, putAt, sPut, sAugL, sAug, isL, sAppL, sAppend, sExtend, okApp, okExt, bnd, ret, rd, W.fzD, fz, mV, mC, m2, rd2, gI, gMod, gDiv, gPow, fAdd, fMul, mB, mNone, isN, okB, mCh, mIf, mNot, mNotV, argW, aNil, aCons, allD, mTup, mLst, rd1, rdL2, gLen, gInt, gAbs, gSum, gAll, gAny, fTupOf, fLstOf, mFld, fldD, putD, gIx, oNone, oSome, fSl, mSl, mRev, mNeg, gIsi, gIsiT, tysOf, tyN, tyM, knownC, mIdxT, mIdxL, idxEnd, Item, srcOf, mSeq, b62, mRng1, mRng2, mRng3, mZipT, mEnumT, mCall, callW, argsOf, slotsOf, tagOf, putBack, mMeth, mMake, makeW, putFld, sFldS, mCallL2, okW, backS, wipeS, Src.items, Src.ok, gEq, gNe, gIn, gNotIn, ixN, at_0, at_1, at_2, at_3, at_4]
  · simp only [Src.items, List.map_map, List.mem_map, Function.comp, List.mem_range] at hit
    obtain ⟨j, hj, rfl⟩ := hit
    have f := find_at g.nd (names_get (rowAt_of hj))
    rw [← nmAt_row hj] at f
    refine ⟨[.d h.d, .d (.str (nmAt h.rows j))], rfl, rfl, ?_, fun _ => ⟨.d (.str (nmAt h.rows j)), rfl, rfl⟩⟩
    simp only [f]
    exact ht j hj
  · simp only [Src.items, wayL, List.map_map, List.filter_map, Function.comp_def]
    congr 1
    refine List.filter_congr fun j hj => ?_
    rw [List.mem_range] at hj
    have f := find_at g.nd (names_get (rowAt_of hj))
    rw [← nmAt_row hj] at f
    simp only [f]
theorem eq_nameO {rs : List Row} (g : Good rs) {a b : Option Nat} (ha : ∀ k, a = some k → k < rs.length) (hb : ∀ k, b = some k → k < rs.length) : eqD (nameO rs a) (nameO rs b) = some (a == b) := by
  cases a with
  | none => cases b with
    | none => exact eqD_non
    | some k => exact eqD_Nstr (nmAt_ok g k).ok
  | some k => cases b with
    | none => exact eqD_strN (nmAt_ok g k).ok
    | some m =>
      simp only [nameO]
      rw [eqD_str (nmAt_ok g k).ok (nmAt_ok g m).ok]
      congr 1
      rw [Bool.eq_iff_iff]
      simp only [beq_iff_eq, Option.some.injEq]
      exact ⟨fun e => nmAt_inj g (ha k rfl) (hb m rfl) e, fun e => by rw [e]⟩
theorem openJ_lt {h : Har} (o : HOk h) {i : Nat} (hi : i < h.rows.length) : ∀ k, openJ h i = some k → k < h.rows.length := fun k e => rpth_lt o.g hi k (List.mem_of_find?_eq_some e)
theorem nearJ_lt {h : Har} (o : HOk h) {i : Nat} (hi : i < h.rows.length) : ∀ k, nearJ h i = some k → k < h.rows.length := fun k e => rpth_lt o.g hi k (List.mem_of_find?_eq_some e)
end k15
end DP
end
section
set_option Elab.async false
set_option linter.all false
set_option maxRecDepth 100000
set_option maxHeartbeats 4000000
namespace DP
namespace k15
open PySem PySem.Spec PyProof.Rows L2
/-! ### sums -/
def S : Nat → (Nat → Int) → Int
  | 0, _ => 0
  | n + 1, f => S n f + f n
theorem S_eq (n : Nat) (f : Nat → Int) : ((List.range n).map f).sum = S n f := by
  induction n with
  | zero => rfl
  | succ n ih => rw [List.range_succ, List.map_append, List.sum_append, ih]; simp [S]
theorem S_congr {n : Nat} {f g : Nat → Int} (h : ∀ k, k < n → f k = g k) : S n f = S n g := by
  induction n with
  | zero => rfl
  | succ n ih => simp only [S]; rw [ih fun k hk => h k (by omega), h n (by omega)]
theorem S_add (n : Nat) (f g : Nat → Int) : S n (fun k => f k + g k) = S n f + S n g := by
  induction n with
  | zero => rfl
  | succ n ih => simp only [S]; rw [ih]; omega
theorem S_zero (n : Nat) : S n (fun _ => 0) = 0 := by
  induction n with
  | zero => rfl
  | succ n ih => simp only [S]; rw [ih]; rfl
theorem S_one {n k : Nat} (v : Nat → Int) (hk : k < n) : S n (fun j => if j = k then v j else 0) = v k := by
  induction n with
  | zero => omega
  | succ n ih =>
    simp only [S]
    by_cases e : n = k
    · subst e
      rw [if_pos rfl, S_congr (g := fun _ => 0) (fun j hj => by rw [if_neg (by omega)]), S_zero]; omega
    · rw [ih (by omega), if_neg e]; omega
theorem S_swap (n m : Nat) (f : Nat → Nat → Int) : S n (fun i => S m (f i)) = S m (fun j => S n fun i => f i j) := by
  induction n with
  | zero => simp only [S]; rw [S_zero]
  | succ n ih => simp only [S]; rw [ih, S_add]
theorem S_mul (n : Nat) (c : Int) (f : Nat → Int) : S n (fun k => f k * c) = S n f * c := by
  induction n with
  | zero => simp [S]
  | succ n ih => simp only [S]; rw [ih, Int.add_mul]
theorem S_ite (n : Nat) (b : Bool) (f : Nat → Int) : S n (fun k => if b then f k else 0) = if b then S n f else 0 := by
  cases b with
  | true => rfl
  | false => exact S_zero n
theorem S_filter (n : Nat) (b : Nat → Bool) (f : Nat → Int) : (((List.range n).filter b).map f).sum = S n fun k => if b k then f k else 0 := by
  induction n with
  | zero => rfl
  | succ n ih =>
    rw [List.range_succ, List.filter_append, List.map_append, List.sum_append, ih]
    simp only [S]
    cases h : b n <;> simp [h]
/-! ### flows -/
theorem onB_self {rs : List Row} {j : Nat} : onB rs j j = true := by unfold onB; simpa using self_pth
theorem pth_step {rs : List Row} (g : Good rs) {j i : Nat} (hj : j < rs.length) (hi : i < j) (e : upI rs j = some i) : pth rs j = pth rs i ++ [j] := by
  unfold pth; rw [rpth_some g hj hi e]; simp
theorem pth_root {rs : List Row} {j : Nat} (e : upI rs j = none) : pth rs j = [j] := by unfold pth; rw [rpth_none e]; rfl
def ind (rs : List Row) (k j : Nat) : Int := if onB rs k j then 1 else 0
theorem ind_root {rs : List Row} {k j : Nat} (e : upI rs j = none) : ind rs k j = if k = j then 1 else 0 := by
  unfold ind onB; rw [pth_root e]; simp
theorem ind_step {rs : List Row} (g : Good rs) {k j i : Nat} (hj : j < rs.length) (hi : i < j) (e : upI rs j = some i) : ind rs k j = (if k = j then 1 else 0) + ind rs k i := by
  unfold ind onB
  rw [pth_step g hj hi e]
  by_cases h : k = j
  · subst h
    have : k ∉ pth rs i := fun z => by have := mem_pth g (by omega) z; omega
    simp [this]
  · simp [h]
theorem up_lt {rs : List Row} (g : Good rs) {c k : Nat} (hc : c < rs.length) (e : upI rs c = some k) : k < c := by
  rcases up_cases g (rowAt_of hc) with ⟨_, q⟩ | ⟨j, hj, q, _⟩
  · rw [e] at q; cases q
  · rw [e] at q; cases q; exact hj
theorem ind_rec {rs : List Row} (g : Good rs) (k : Nat) : ∀ j, j < rs.length → ind rs k j = (if k = j then 1 else 0) + S rs.length fun c => if upI rs c = some k then ind rs c j else 0 := by
  intro j
  induction j using Nat.strongRecOn with
  | ind j ih =>
    intro hj
    have one : ∀ v : Int, S rs.length (fun c => if upI rs c = some k then (if c = j then v else 0) else 0) = if upI rs j = some k then v else 0 := fun v => by
      rw [← S_one (n := rs.length) (k := j) (fun c => if upI rs c = some k then v else 0) hj]
      refine S_congr fun c _ => ?_
      by_cases h1 : c = j
      · subst h1; simp
      · simp [h1]
    cases e : upI rs j with
    | none =>
      rw [ind_root e, S_congr (g := fun c => if upI rs c = some k then (if c = j then 1 else 0) else 0) (fun c _ => by rw [ind_root e]), one 1, e]
      simp
    | some i =>
      have hi := up_lt g hj e
      rw [ind_step g hj hi e, S_congr (g := fun c => (if upI rs c = some k then (if c = j then 1 else 0) else 0) + (if upI rs c = some k then ind rs c i else 0)) (fun c _ => by
        rw [ind_step g hj hi e]
        by_cases h : upI rs c = some k
        · simp [h]
        · simp [h]), S_add, one 1, e, ih i hi (by omega)]
      by_cases h : k = i
      · subst h; simp
      · have h2 : ¬ i = k := fun z => h z.symm
        simp [h, h2]
def flow (rs : List Row) (k : Nat) : Int := S rs.length fun j => if onB rs k j then (rowAt rs j).load else 0
theorem flow_ind {rs : List Row} (k : Nat) : flow rs k = S rs.length fun j => ind rs k j * (rowAt rs j).load := by
  unfold flow ind
  refine S_congr fun j _ => ?_
  cases onB rs k j <;> simp
theorem flow_rec {rs : List Row} (g : Good rs) {k : Nat} (hk : k < rs.length) : flow rs k = (rowAt rs k).load + S rs.length fun c => if upI rs c = some k then flow rs c else 0 := by
  rw [flow_ind, S_congr (g := fun j => (if j = k then (rowAt rs j).load else 0) + S rs.length (fun c => (if upI rs c = some k then ind rs c j else 0) * (rowAt rs j).load)) (fun j hj => by
    rw [ind_rec g k j hj, Int.add_mul, S_mul]
    congr 1
    by_cases h : k = j
    · subst h; simp
    · have h2 : ¬ j = k := fun z => h z.symm
      simp [h, h2]), S_add, S_one (fun j => (rowAt rs j).load) hk, S_swap]
  congr 1
  refine S_congr fun c _ => ?_
  rw [flow_ind]
  by_cases h : upI rs c = some k
  · simp [h]
  · simp [h, S_zero]
/-- what the list holds at k when the places from p on have been added -/
def part (rs : List Row) (p k : Nat) : Int := (rowAt rs k).load + S rs.length fun c => if p ≤ c ∧ upI rs c = some k then flow rs c else 0
theorem part_end {rs : List Row} (g : Good rs) {k : Nat} (hk : k < rs.length) : part rs 0 k = flow rs k := by
  rw [flow_rec g hk]; unfold part; congr 1
  refine S_congr fun c _ => ?_
  simp
theorem part_start {rs : List Row} {k : Nat} : part rs rs.length k = (rowAt rs k).load := by
  unfold part
  rw [S_congr (g := fun _ => 0) (fun c hc => by rw [if_neg (fun z => by omega)]), S_zero]; omega
theorem part_self {rs : List Row} (g : Good rs) {p : Nat} (hp : p < rs.length) : part rs (p + 1) p = flow rs p := by
  rw [flow_rec g hp]; unfold part; congr 1
  refine S_congr fun c hc => ?_
  by_cases h : upI rs c = some p
  · have := up_lt g hc h
    rw [if_pos ⟨by omega, h⟩, if_pos h]
  · rw [if_neg (fun z => h z.2), if_neg h]
theorem part_step {rs : List Row} {p k : Nat} (hp : p < rs.length) : part rs p k = part rs (p + 1) k + if upI rs p = some k then flow rs p else 0 := by
  unfold part
  rw [Int.add_assoc]
  congr 1
  rw [← S_one (n := rs.length) (k := p) (fun c => if upI rs c = some k then flow rs c else 0) hp, ← S_add]
  refine S_congr fun c _ => ?_
  by_cases h1 : upI rs c = some k
  · by_cases h2 : c = p
    · subst h2; simp [h1]; omega
    · by_cases h3 : p ≤ c
      · have : p + 1 ≤ c := by omega
        simp [h1, h2, h3, this]
      · have : ¬ p + 1 ≤ c := by omega
        simp [h1, h2, h3, this]
  · simp [h1]
end k15
end DP
end
section
set_option Elab.async false
set_option linter.all false
set_option maxRecDepth 100000
set_option maxHeartbeats 4000000
namespace DP
namespace k15
open PySem PySem.Spec PyProof.Rows L2
def vec (n : Nat) (f : Nat → Int) : List D := (List.range n).map fun k => .int (f k)
theorem vec_at {n k : Nat} {f : Nat → Int} (hk : k < n) : L2.atI (vec n f) (k : Int) = some (.int (f k)) := by
  rw [atI_nat]; unfold vec; rw [List.getElem?_map, List.getElem?_range hk]; rfl
theorem vec_len {n : Nat} {f : Nat → Int} : (vec n f).length = n := by unfold vec; simp
theorem vec_congr {n : Nat} {f g : Nat → Int} (h : ∀ k, k < n → f k = g k) : vec n f = vec n g := by
  unfold vec
  refine List.map_congr_left fun k hk => ?_
  rw [h k (List.mem_range.mp hk)]
theorem vec_set {n i : Nat} {f : Nat → Int} {x : Int} : (vec n f).set i (.int x) = vec n fun k => if k = i then x else f k := by
  refine List.ext_getElem? fun j => ?_
  unfold vec
  rw [List.getElem?_set]
  simp only [List.getElem?_map, List.length_map, List.length_range]
  by_cases hj : j < n
  · rw [List.getElem?_range hj]
    by_cases e : i = j
    · subst e; simp [hj]
    · have e2 : ¬ j = i := fun z => e z.symm
      simp [e, e2]
  · rw [List.getElem?_eq_none (by simp; omega)]
    by_cases e : i = j
    · subst e; simp [hj]
    · simp [e]
theorem rows_range {rs : List Row} : rs = (List.range rs.length).map (rowAt rs) := by
  refine List.ext_getElem? fun i => ?_
  rw [List.getElem?_map]
  by_cases hi : i < rs.length
  · rw [List.getElem?_range hi, rowAt_of hi]; rfl
  · rw [List.getElem?_eq_none (by omega), List.getElem?_eq_none (by simp; omega)]; rfl
/-! ### currents -/
def curS (h : Har) (f : Nat → Int) (tv : Sl) : St := [.d h.d, .o none (.lst (vec h.rows.length f)), tv, .no]
theorem cur_loads {h : Har} (g : Good h.rows) : lc_currents_0 [.d h.d, .no, .no, .no] = .ok (.o (.lst (vec h.rows.length fun k => (rowAt h.rows k).load))) [.d h.d, .no, .no, .no] := by
  refine mLc_pure (src := .fz ((h.rows.map rowD).map .one)) (st1 := [.d h.d, .no, .no, .no]) (b := fun _ => true) (d := fun it => match it with | .one (.tup [_, _, _, x, _]) => x | _ => .non) (by rfl) (by rfl) trivial (fun it hi => ?_) (by have := g.l10; simp [Src.items]; omega) ?_ (by rfl)
  · simp only [Src.items, List.map_map, List.mem_map, Function.comp] at hi
    obtain ⟨r, hr, rfl⟩ := hi
    exact ⟨[.d h.d, .no, .no, .d (rowD r)], rfl, rfl, rfl, fun _ => ⟨.d (.int r.load), by rfl, rfl⟩⟩
  · simp only [Src.items, filterT, List.map_map, vec]
    conv => lhs; rw [rows_range (rs := h.rows)]
    rw [List.map_map]
    rfl
theorem cur_body1 {h : Har} (g : Good h.rows) {p : Nat} (hp : p < h.rows.length) (e : upI h.rows p = none) (f : Nat → Int) : bo_currents_1 (curS h f (.d (.int (p : Nat)))) = .ok .nx (curS h f (.d (.int (p : Nat)))) := by
  have e1 := rows_atI hp
  have e3 : eqD (.str (rowAt h.rows p).fr) (.str (Str.ofString "source")) = some true := by
    rcases up_cases g (rowAt_of hp) with ⟨q, _⟩ | ⟨j, _, q, _⟩
    · rw [q]; exact (eqD_str src_ok.ok src_ok.ok).trans (by simp [srcS])
    · rw [e] at q; cases q
  simp only [rowD] at e1
  simp [bo_currents_1, curS, Har.d, hf_rows, rowsD, rowD, e1, e3, mkFn, stOf, finF, withRefs, refs, sSeq, thenS, sNx, sBad, sDrop, retW, sRet, sIf, mFz, endS, asgW, fs_d, fs_no, fs_o, sSet, sUnp, tgT, tgN, setNs, setN, sPar, putAt, sPut, sAugL, sAug, isL, sAppL, sAppend, sExtend, okApp, okExt, bnd, ret, rd, W.fzD, fz, mV, mC, m2, rd2, gI, gMod, gDiv, gPow, fAdd, fMul, mB, mNone, isN, okB, mCh, mIf, mNot, mNotV, argW, aNil, aCons, allD, mTup, mLst, rd1, rdL2, gLen, gInt, gAbs, gSum, gAll, gAny, fTupOf, fLstOf, mFld, fldD, putD, gIx, oNone, oSome, fSl, mSl, mRev, mNeg, gIsi, gIsiT, tysOf, tyN, tyM, knownC, mIdxT, mIdxL, idxEnd, Item, srcOf, mSeq, b62, mRng1, mRng2, mRng3, mZipT, mEnumT, mCall, callW, argsOf, slotsOf, tagOf, putBack, mMeth, mMake, makeW, putFld, sFldS, mCallL2, okW, backS, wipeS, Src.items, Src.ok, gEq, gNe, gIn, gNotIn, ixN, at_0, at_1, at_2, at_3, at_4]
theorem cur_body2 {h : Har} (g : Good h.rows) {p j : Nat} (hp : p < h.rows.length) (e : upI h.rows p = some j) (f : Nat → Int) : bo_currents_1 (curS h f (.d (.int (p : Nat)))) = .ok .nx (curS h (fun k => if k = j then f j + f p else f k) (.d (.int (p : Nat)))) := by
  have e1 := rows_atI hp
  have hj := up_lt g hp e
  obtain ⟨e3, e4⟩ : eqD (.str (rowAt h.rows p).fr) (.str (Str.ofString "source")) = some false ∧ idxP (.str (rowAt h.rows p).fr) ((nms_ h.rows).map .str) = some j := by
    rcases up_cases g (rowAt_of hp) with ⟨_, q⟩ | ⟨i, _, q, ne, ef, _⟩
    · rw [e] at q; cases q
    · rw [e] at q; cases q
      refine ⟨?_, idx_fr g (rowAt_of hp) ef⟩
      rw [show (D.str (Str.ofString "source")) = .str srcS from rfl, eqD_str (g.frOk (rowAt_of hp)).ok src_ok.ok]; simp [ne]
  have a1 := vec_at (n := h.rows.length) (k := j) (f := f) (by omega)
  have a2 := vec_at (n := h.rows.length) (k := p) (f := f) hp
  have a3 := vec_len (n := h.rows.length) (f := f)
  have a4 := vec_set (n := h.rows.length) (i := j) (f := f) (x := f j + f p)
  unfold curS
  rw [← a4]
  have a5 : j < (vec h.rows.length f).length := by rw [a3]; omega
  generalize vec h.rows.length f = V at a1 a2 a3 a5 ⊢
  simp only [rowD] at e1
  simp [bo_currents_1, Har.d, hf_rows, hf_names, rowsD, namesD, rowD, e1, e3, e4, a1, a2, a5, mkFn, stOf, finF, withRefs, refs, sSeq, thenS, sNx, sBad, sDrop, retW, sRet, sIf, mFz, endS, asgW, fs_d, fs_no, fs_o, sSet, sUnp, tgT, tgN, setNs, setN, sPar, putAt, sPut, sAugL, sAug, isL, sAppL, sAppend, sExtend, okApp, okExt, bnd, ret, rd, W.fzD, fz, mV, mC, m2, rd2, gI, gMod, gDiv, gPow, fAdd, fMul, mB, mNone, isN, okB, mCh, mIf, mNot, mNotV, argW, aNil, aCons, allD, mTup, mLst, rd1, rdL2, gLen, gInt, gAbs, gSum, gAll, gAny, fTupOf, fLstOf, mFld, fldD, putD, gIx, oNone, oSome, fSl, mSl, mRev, mNeg, gIsi, gIsiT, tysOf, tyN, tyM, knownC, mIdxT, mIdxL, idxEnd, Item, srcOf, mSeq, b62, mRng1, mRng2, mRng3, mZipT, mEnumT, mCall, callW, argsOf, slotsOf, tagOf, putBack, mMeth, mMake, makeW, putFld, sFldS, mCallL2, okW, backS, wipeS, Src.items, Src.ok, gEq, gNe, gIn, gNotIn, ixN, at_0, at_1, at_2, at_3, at_4]
theorem cur_loop {h : Har} (g : Good h.rows) : ∃ s', fo_currents_2 (curS h (fun k => (rowAt h.rows k).load) .no) = .ok .nx s' ∧ ∃ tv, s' = curS h (flow h.rows) tv := by
  have hl := g.l10
  have hl1 := g.l1
  have hm : mRng3 (aCons (m2 fSub (bnd (aCons (mV 1) (aNil)) (rd1 gLen)) (mC (.int 1))) (aCons (mNeg (mC (.int 1))) (aCons (mNeg (mC (.int 1))) (aNil)))) (curS h (fun k => (rowAt h.rows k).load) .no) = .ok (.fz ((List.range h.rows.length).map fun k => .one (.int ((((h.rows.length : Nat) : Int) - 1) + (k : Nat) * -1)))) (curS h (fun k => (rowAt h.rows k).load) .no) := by
    have hb : b62 (((h.rows.length : Nat) : Int) - 1) = true := by unfold b62; rw [decide_eq_true_iff]; omega
    have hb2 : b62 (-1) = true := by rfl
    have e : ((((h.rows.length : Nat) : Int) - 1) + 1).toNat = h.rows.length := by omega
    have a3 := vec_len (n := h.rows.length) (f := fun k => (rowAt h.rows k).load)
    unfold curS
    generalize vec h.rows.length (fun k => (rowAt h.rows k).load) = V at a3 ⊢
    simp [mRng3, aCons, aNil, m2, bnd, ret, mV, mC, rd1, rd2, rd, fz, gLen, gI, mNeg, argW, a3, hb, hb2, e]
  unfold fo_currents_2 sFor
  rw [bnd_ok hm]
  have key := forL_all (t := tgN 2) (b := bo_currents_1) (fun t s => ∃ tv, freeS tv = true ∧ s = curS h (part h.rows (h.rows.length - t)) tv) (its := (List.range h.rows.length).map fun k => .one (.int ((((h.rows.length : Nat) : Int) - 1) + (k : Nat) * -1))) (i := 0) (st := curS h (fun k => (rowAt h.rows k).load) .no) ⟨.no, rfl, by
      unfold curS; rw [vec_congr (g := part h.rows (h.rows.length - 0)) fun k _ => by rw [Nat.sub_zero, part_start]]⟩ ?_
  · obtain ⟨s', q1, tv, _, q2⟩ := key
    refine ⟨s', q1, tv, ?_⟩
    rw [q2]
    unfold curS
    rw [vec_congr (g := flow h.rows) fun k hk => ?_]
    simp only [List.length_map, List.length_range, Nat.zero_add, Nat.sub_self]
    exact part_end g hk
  · rintro t it s ht ⟨tv, ft, rfl⟩
    rw [List.getElem?_map] at ht
    simp only [Option.map_eq_some_iff] at ht
    obtain ⟨t', ht, rfl⟩ := ht
    have hlt : t < h.rows.length := by
      have := (List.getElem?_eq_some_iff.mp ht).1; simpa using this
    rw [List.getElem?_range hlt] at ht
    obtain rfl : t = t' := Option.some.inj ht
    simp only [Nat.zero_add]
    obtain ⟨p, hp⟩ : ∃ p, p = h.rows.length - 1 - t := ⟨_, rfl⟩
    have ep : (((h.rows.length : Nat) : Int) - 1) + (t : Nat) * -1 = (p : Nat) := by omega
    have hpn : p < h.rows.length := by omega
    have e1 : h.rows.length - t = p + 1 := by omega
    have e2 : h.rows.length - (t + 1) = p := by omega
    rw [ep, e1, e2]
    refine ⟨curS h (part h.rows (p + 1)) (.d (.int (p : Nat))), ?_⟩
    have et : tgN 2 (.one (.int (p : Nat))) (curS h (part h.rows (p + 1)) tv) = .ok () (curS h (part h.rows (p + 1)) (.d (.int (p : Nat)))) := by simp [tgN, setN, curS, ft]
    cases e : upI h.rows p with
    | none =>
      refine ⟨_, et, .inl (cur_body1 g hpn e _), .d (.int (p : Nat)), rfl, ?_⟩
      unfold curS
      rw [vec_congr (g := part h.rows p) fun k _ => by rw [part_step hpn, e]; simp]
    | some j =>
      refine ⟨_, et, .inl (cur_body2 g hpn e _), .d (.int (p : Nat)), rfl, ?_⟩
      unfold curS
      rw [vec_congr (g := part h.rows p) fun k _ => by
        rw [part_step hpn, e]
        by_cases hk : k = j
        · subst hk; simp [part_self g hpn]
        · have : ¬ j = k := fun z => hk z.symm
          simp [hk, this]]
theorem e_currents {h : Har} (g : Good h.rows) : fn_currents [.d h.d] = .ok (.d (.tup (vec h.rows.length (flow h.rows)))) [] := by
  obtain ⟨s', q, tv, rfl⟩ := cur_loop g
  have h1 : sSet 1 lc_currents_0 [.d h.d, .no, .no, .no] = .ok .nx (curS h (fun k => (rowAt h.rows k).load) .no) := (bnd_ok (cur_loads g)).trans rfl
  have h2 : m_currents [.d h.d, .no, .no, .no] = .ok (.ret (.d (.tup (vec h.rows.length (flow h.rows))))) (curS h (flow h.rows) tv) := (bnd_ok (k := thenS (sSeq fo_currents_2 (sRet (bnd (aCons (mV 1) (aNil)) fTupOf)))) h1).trans ((bnd_ok (k := thenS (sRet (bnd (aCons (mV 1) (aNil)) fTupOf))) q).trans (by simp [curS, mkFn, stOf, finF, withRefs, refs, sSeq, thenS, sNx, sBad, sDrop, retW, sRet, sIf, mFz, endS, asgW, fs_d, fs_no, fs_o, sSet, sUnp, tgT, tgN, setNs, setN, sPar, putAt, sPut, sAugL, sAug, isL, sAppL, sAppend, sExtend, okApp, okExt, bnd, ret, rd, W.fzD, fz, mV, mC, m2, rd2, gI, gMod, gDiv, gPow, fAdd, fMul, mB, mNone, isN, okB, mCh, mIf, mNot, mNotV, argW, aNil, aCons, allD, mTup, mLst, rd1, rdL2, gLen, gInt, gAbs, gSum, gAll, gAny, fTupOf, fLstOf, mFld, fldD, putD, gIx, oNone, oSome, fSl, mSl, mRev, mNeg, gIsi, gIsiT, tysOf, tyN, tyM, knownC, mIdxT, mIdxL, idxEnd, Item, srcOf, mSeq, b62, mRng1, mRng2, mRng3, mZipT, mEnumT, mCall, callW, argsOf, slotsOf, tagOf, putBack, mMeth, mMake, makeW, putFld, sFldS, mCallL2, okW, backS, wipeS, Src.items, Src.ok, gEq, gNe, gIn, gNotIn, ixN, at_0, at_1, at_2, at_3, at_4]))
  show finF _ (m_currents [.d h.d, .no, .no, .no]) = _
  rw [h2]
  rfl
/-! ### drops -/
def fall (rs : List Row) (k : Nat) : Int := ((pth rs k).map fun j => (rowAt rs j).ohm * flow rs j).sum
theorem fall_root {rs : List Row} {k : Nat} (e : upI rs k = none) : fall rs k = 0 + (rowAt rs k).ohm * flow rs k := by unfold fall; rw [pth_root e]; simp
theorem fall_step {rs : List Row} (g : Good rs) {k j : Nat} (hk : k < rs.length) (e : upI rs k = some j) : fall rs k = fall rs j + (rowAt rs k).ohm * flow rs k := by
  unfold fall; rw [pth_step g hk (up_lt g hk e) e]; simp
theorem vec_succ {n : Nat} {f : Nat → Int} : vec (n + 1) f = vec n f ++ [.int (f n)] := by unfold vec; rw [List.range_succ]; simp
def droS (h : Har) (n : Nat) (a b c : Sl) : St := [.d h.d, .d (.tup (vec h.rows.length (flow h.rows))), .o none (.lst (vec n (fall h.rows))), a, b, c]
theorem natAbs_ok {x y : Int} (h : x.natAbs < 1152921504606846976) : x.natAbs < 1152921504606846976 ∨ y.natAbs < 1152921504606846976 := .inl h
end k15
end DP
end
section
set_option Elab.async false
set_option linter.all false
set_option maxRecDepth 100000
set_option maxHeartbeats 4000000
namespace DP
namespace k15
open PySem PySem.Spec PyProof.Rows L2
theorem cLoop_ix {ι : Type} {src : Src} {t : Item → M Unit} {test : M Bool} {elt : M W} {vs : List Nat} {st : St} (item : ι → Item) (b : ι → Bool) (d : ι → D) (hok : src.ok st) : ∀ {ks : List ι} {acc : List D},
    (∀ k ∈ ks, ∃ s1, t (item k) st = .ok () s1 ∧ wipeS s1 vs = st ∧ test s1 = .ok (b k) s1 ∧ (b k = true → ∃ w, elt s1 = .ok w s1 ∧ w.fzD = some (d k))) → acc.length + ks.length ≤ 1000000 →
    cLoop src t test elt vs (ks.map item) acc st = .ok (acc ++ (ks.filter b).map d) st
  | [], acc, _, _ => by unfold List.map cLoop; rw [if_pos hok]; simp
  | k :: ks, acc, h, hl => by
    obtain ⟨s1, h1, h2, h3, h4⟩ := h k List.mem_cons_self
    simp only [List.length_cons] at hl
    show cLoop src t test elt vs (item k :: ks.map item) acc st = _
    unfold cLoop
    rw [if_pos hok, bnd_ok h1, bnd_ok h3]
    cases hb : b k with
    | true =>
      obtain ⟨w, h5, h6⟩ := h4 hb
      rw [if_pos rfl, bnd_ok h5]
      simp only [h6]
      rw [if_pos (by omega), h2, cLoop_ix item b d hok (fun j hj => h j (List.mem_cons_of_mem _ hj)) (by simp; omega)]
      simp [hb]
    | false =>
      rw [if_neg Bool.false_ne_true]
      show cLoop src t test elt vs (ks.map item) acc (wipeS s1 vs) = _
      rw [h2, cLoop_ix item b d hok (fun j hj => h j (List.mem_cons_of_mem _ hj)) (by omega)]
      simp [hb]
theorem mLc_ix {ι : Type} {ms : M Src} {ks : List ι} {t : Item → M Unit} {test : M Bool} {elt : M W} {vs : List Nat} {st0 st1 : St} (item : ι → Item) (b : ι → Bool) (d : ι → D) {st2 : St} (hs : ms st0 = .ok (.fz (ks.map item)) st1) (ho : okW vs st1 = true)
    (h : ∀ k ∈ ks, ∃ s1, t (item k) (wipeS st1 vs) = .ok () s1 ∧ wipeS s1 vs = wipeS st1 vs ∧ test s1 = .ok (b k) s1 ∧ (b k = true → ∃ w, elt s1 = .ok w s1 ∧ w.fzD = some (d k))) (hl : ks.length ≤ 1000000) (hb : backS st1 vs (wipeS st1 vs) = st2) :
    mLc vs ms t test elt st0 = .ok (.o (.lst ((ks.filter b).map d))) st2 := by
  unfold mLc
  rw [bnd_ok hs, if_pos ho]
  show mLcEnd vs st1 (cLoop (.fz (ks.map item)) t test elt vs (ks.map item) [] (wipeS st1 vs)) = _
  rw [cLoop_ix (src := .fz (ks.map item)) item b d (show Src.ok (.fz _) _ from trivial) h (by simpa using hl)]
  simp only [mLcEnd, List.nil_append, hb]
theorem zip_ix {ι : Type} {i : Nat} {ms : M (List W)} {ds es : List D} {ks : List ι} {t : Item → M Unit} {test : M Bool} {elt : M W} {vs : List Nat} {st0 st1 : St} {s : Sl} (item : ι → Item) (b : ι → Bool) (d : ι → D) (hs : ms st0 = .ok [.d (.tup ds), .d (.tup es)] st1) (hi : st1[i]? = some s) (hf : freeS s = true) (ho : okW vs (st1.set i .no) = true)
    (hz : zItems ds es = ks.map item) (h : ∀ k ∈ ks, ∃ s1, t (item k) (wipeS (st1.set i .no) vs) = .ok () s1 ∧ wipeS s1 vs = wipeS (st1.set i .no) vs ∧ test s1 = .ok (b k) s1 ∧ (b k = true → ∃ w, elt s1 = .ok w s1 ∧ w.fzD = some (d k))) (hl : ks.length ≤ 1000000) :
    sZipTup i vs ms t test elt st0 = .ok (.ret (.d (.tup ((ks.filter b).map d)))) (backS (st1.set i .no) vs (wipeS (st1.set i .no) vs)) := by
  unfold sZipTup
  rw [bnd_ok hs]
  simp only [hi, hf, ho, Bool.and_self, if_true, hz]
  rw [cLoop_ix (src := .fz (ks.map item)) item b d (show Src.ok (.fz _) _ from trivial) h (by simpa using hl)]
  simp
theorem aC1 {m : M W} {st st' : St} {w : W} (h : m st = .ok w st') : aCons m aNil st = .ok [argW w] st' := by unfold aCons; rw [bnd_ok h]; rfl
theorem fn_of_m {N : Nat} {m : M Fl} {as : List Arg} {st : St} {r : Res Fl} (hst : stOf 0 as ++ List.replicate (N - as.length) .no = st) (h : m st = r) : mkFn N m as = finF as r := by unfold mkFn; rw [hst, h]
theorem zip_rows {rs : List Row} {f : Nat → Int} : zItems (rs.map rowD) (vec rs.length f) = (List.range rs.length).map fun k => .many [rowD (rowAt rs k), .int (f k)] := by
  refine List.ext_getElem? fun i => ?_
  unfold zItems vec
  rw [List.getElem?_map, List.getElem?_map]
  by_cases hi : i < rs.length
  · have h1 : (rs.map rowD)[i]? = some (rowD (rowAt rs i)) := by rw [List.getElem?_map, rowAt_of hi]; rfl
    have h2 : ((List.range rs.length).map fun k => D.int (f k))[i]? = some (.int (f i)) := by rw [List.getElem?_map, List.getElem?_range hi]; rfl
    rw [List.getElem?_range hi, (List.getElem?_zip_eq_some (z := (rowD (rowAt rs i), D.int (f i)))).mpr ⟨h1, h2⟩]
    rfl
  · rw [List.getElem?_eq_none (by simp; omega), List.getElem?_eq_none (by simp; omega)]; rfl
theorem wayL_map {rs : List Row} {l : List Nat} (hl : ∀ k ∈ l, k < rs.length) : l.map (fun k => D.str (rowAt rs k).nm) = wayL rs l := by
  unfold wayL
  refine List.map_congr_left fun k hk => ?_
  rw [nmAt_row (hl k hk)]
theorem filt_lt {n : Nat} {b : Nat → Bool} : ∀ k ∈ (List.range n).filter b, k < n := fun k hk => List.mem_range.mp (List.mem_filter.mp hk).1
def weakB (h : Har) (k : Nat) : Bool := decide (0 < (rowAt h.rows k).load) && decide (h.limit < fall h.rows k)
def blowB (h : Har) (k : Nat) : Bool := decide (0 < (rowAt h.rows k).fuse) && decide ((rowAt h.rows k).fuse < flow h.rows k)
/-! ### the law's flows and falls -/
theorem rng_at {rs : List Row} (g : Good rs) {st : St} (h : st[0]? = some (.d (rowsD rs))) : mRng1 (aCons (bnd (aCons (mV 0) aNil) (rd1 gLen)) aNil) st = .ok (.fz ((List.range rs.length).map fun k => Item.one (.int (0 + (k : Nat))))) st := rng_len g st h
theorem onB_in {rs : List Row} (k j : Nat) : inD (.int (k : Nat)) (.lst (natsD (pth rs j))) = some (onB rs k j) := by
  have e : natsD (pth rs j) = ((pth rs j).map fun m : Nat => (m : Int)).map D.int := by unfold natsD; rw [List.map_map]; rfl
  rw [e, inD_intsL]
  congr 1
  rw [Bool.eq_iff_iff]
  unfold onB
  simp only [List.contains_iff_mem, List.mem_map]
  constructor
  · rintro ⟨m, hm, e⟩
    have : m = k := by omega
    subst this; exact hm
  · exact fun hm => ⟨k, hm, rfl⟩
theorem lf_in {rs : List Row} (g : Good rs) {k : Nat} : lc_law_flows_0 [.d (rowsD rs), .d (.int (k : Nat)), .no] = .ok (.o (.lst ((((List.range rs.length).filter fun j => onB rs k j).map fun j => (rowAt rs j).load).map .int))) [.d (rowsD rs), .d (.int (k : Nat)), .no] := by
  have hl := g.l10
  rw [List.map_map]
  refine mLc_ix (ks := List.range rs.length) (st1 := [.d (rowsD rs), .d (.int (k : Nat)), .no]) (fun j => .one (.int (0 + (j : Nat)))) (fun j => onB rs k j) _ (rng_at g rfl) (by rfl) (fun j hj => ?_) (by simp; omega) (by rfl)
  rw [List.mem_range] at hj
  have e1 := e_law_path g hj
  have e2 := onB_in (rs := rs) k j
  have e3 := rows_atI hj
  simp only [rowD] at e3
  refine ⟨[.d (rowsD rs), .d (.int (k : Nat)), .d (.int (0 + (j : Nat)))], rfl, rfl, ?_, fun _ => ⟨.d (.int (rowAt rs j).load), ?_, rfl⟩⟩
  · simp [e1, e2, mkFn, stOf, finF, withRefs, refs, sSeq, thenS, sNx, sBad, sDrop, retW, sRet, sIf, mFz, endS, asgW, fs_d, fs_no, fs_o, sSet, sUnp, tgT, tgN, setNs, setN, sPar, putAt, sPut, sAugL, sAug, isL, sAppL, sAppend, sExtend, okApp, okExt, bnd, ret, rd, W.fzD, fz, mV, mC, m2, rd2, gI, gMod, gDiv, gPow, fAdd, fMul, mB, mNone, isN, okB, mCh, mIf, mNot, mNotV, argW, aNil, aCons, allD, mTup, mLst, rd1, rdL2, gLen, gInt, gAbs, gSum, gAll, gAny, fTupOf, fLstOf, mFld, fldD, putD, gIx, oNone, oSome, fSl, mSl, mRev, mNeg, gIsi, gIsiT, tysOf, tyN, tyM, knownC, mIdxT, mIdxL, idxEnd, Item, srcOf, mSeq, b62, mRng1, mRng2, mRng3, mZipT, mEnumT, mCall, callW, argsOf, slotsOf, tagOf, putBack, mMeth, mMake, makeW, putFld, sFldS, mCallL2, okW, backS, wipeS, Src.items, Src.ok, gEq, gNe, gIn, gNotIn, ixN, at_0, at_1, at_2, at_3, at_4]
  · simp [rowsD, rowD, e3, mkFn, stOf, finF, withRefs, refs, sSeq, thenS, sNx, sBad, sDrop, retW, sRet, sIf, mFz, endS, asgW, fs_d, fs_no, fs_o, sSet, sUnp, tgT, tgN, setNs, setN, sPar, putAt, sPut, sAugL, sAug, isL, sAppL, sAppend, sExtend, okApp, okExt, bnd, ret, rd, W.fzD, fz, mV, mC, m2, rd2, gI, gMod, gDiv, gPow, fAdd, fMul, mB, mNone, isN, okB, mCh, mIf, mNot, mNotV, argW, aNil, aCons, allD, mTup, mLst, rd1, rdL2, gLen, gInt, gAbs, gSum, gAll, gAny, fTupOf, fLstOf, mFld, fldD, putD, gIx, oNone, oSome, fSl, mSl, mRev, mNeg, gIsi, gIsiT, tysOf, tyN, tyM, knownC, mIdxT, mIdxL, idxEnd, Item, srcOf, mSeq, b62, mRng1, mRng2, mRng3, mZipT, mEnumT, mCall, callW, argsOf, slotsOf, tagOf, putBack, mMeth, mMake, makeW, putFld, sFldS, mCallL2, okW, backS, wipeS, Src.items, Src.ok, gEq, gNe, gIn, gNotIn, ixN, at_0, at_1, at_2, at_3, at_4]
theorem e_law_flows {rs : List Row} (g : Good rs) : fn_law_flows [.d (rowsD rs)] = .ok (.o (.lst (vec rs.length (flow rs)))) [] := by
  have hl := g.l10
  have q : lc_law_flows_1 [.d (rowsD rs), .no, .no] = .ok (.o (.lst (((List.range rs.length).filter fun _ => true).map fun k => .int (flow rs k)))) [.d (rowsD rs), .no, .no] := by
    refine mLc_ix (ks := List.range rs.length) (st1 := [.d (rowsD rs), .no, .no]) (fun j => .one (.int (0 + (j : Nat)))) (fun _ => true) _ (rng_at g rfl) (by rfl) (fun k hk => ?_) (by simp; omega) (by rfl)
    have e1 := lf_in g (k := k)
    have e2 : asInts ((((List.range rs.length).filter fun j => onB rs k j).map fun j => (rowAt rs j).load).map D.int) = _ := asInts_map
    have e3 : (((List.range rs.length).filter fun j => onB rs k j).map fun j => (rowAt rs j).load).sum = flow rs k := S_filter _ _ _
    generalize (((List.range rs.length).filter fun j => onB rs k j).map fun j => (rowAt rs j).load) = L at e1 e2 e3
    refine ⟨[.d (rowsD rs), .d (.int (0 + (k : Nat))), .no], rfl, rfl, rfl, fun _ => ⟨.d (.int (flow rs k)), ?_, rfl⟩⟩
    have e1' : lc_law_flows_0 [.d (rowsD rs), .d (.int (0 + (k : Nat))), .no] = .ok (.o (.lst (L.map .int))) [.d (rowsD rs), .d (.int (0 + (k : Nat))), .no] := by rw [Int.zero_add]; exact e1
    exact (bnd_ok (aC1 e1')).trans (by simp [e2, e3, rd1, rd, argW, fz, gSum])
  rw [filterT, show (List.range rs.length).map (fun k => D.int (flow rs k)) = vec rs.length (flow rs) from rfl] at q
  have q2 : m_law_flows [.d (rowsD rs), .no, .no] = .ok (.ret (.o (.lst (vec rs.length (flow rs))))) [.d (rowsD rs), .no, .no] := by
    unfold m_law_flows sRet
    rw [bnd_ok q]
    rfl
  unfold fn_law_flows
  rw [fn_of_m (st := [.d (rowsD rs), .no, .no]) rfl q2]
  rfl
end k15
end DP
end
section
set_option Elab.async false
set_option linter.all false
set_option maxRecDepth 100000
set_option maxHeartbeats 4000000
namespace DP
namespace k15
open PySem PySem.Spec PyProof.Rows L2
/-! ### the law's falls -/
def lfS (rs : List Row) (n : Nat) (a : Sl) : St := [.d (rowsD rs), a, .d (.lst (vec rs.length (flow rs))), .o none (.lst (vec n (fall rs))), .no]
theorem call1 {F : Fn} {x : D} {w : W} {st : St} (h : F [.d x] = .ok w []) : callW 1 F [] [.d x] st = .ok w st := by
  unfold callW
  simp [argsOf, slotsOf, h, putBack]
theorem mcall1 {F : Fn} {m : M W} {x : D} {w : W} {st st1 : St} (hm : m st = .ok (.d x) st1) (h : F [.d x] = .ok w []) : mCall 1 F [] (aCons m aNil) st = .ok w st1 := (bnd_ok (aC1 hm)).trans (call1 h)
/-! ### the law's shorts -/
def Har.p (h : Har) : D := .tup [rowsD h.rows, .int h.volts, .int h.limit]
theorem path_src {h : Har} (g : Good h.rows) {i : Nat} (hi : i < h.rows.length) {st : St} (h0 : st[0]? = some (.d h.p)) (h1 : st[1]? = some (.d (.int (i : Nat)))) :
    mSeq (mCall 2 fn_law_path [] (aCons (m2 (rd2 gIx) (mV 0) (mC (.int 0))) (aCons (mV 1) (aNil)))) st = .ok (.fz ((pth h.rows i).map fun j => Item.one (.int (j : Nat)))) st := by
  have e := e_law_path g hi
  have e2 := srcD (m := mCall 2 fn_law_path [] (aCons (m2 (rd2 gIx) (mV 0) (mC (.int 0))) (aCons (mV 1) (aNil)))) (st := st) (l := natsD (pth h.rows i)) (by
    simp only [Har.p] at h0
    simp [h0, h1, e, mkFn, stOf, finF, withRefs, refs, sSeq, thenS, sNx, sBad, sDrop, retW, sRet, sIf, mFz, endS, asgW, fs_d, fs_no, fs_o, sSet, sUnp, tgT, tgN, setNs, setN, sPar, putAt, sPut, sAugL, sAug, isL, sAppL, sAppend, sExtend, okApp, okExt, bnd, ret, rd, W.fzD, fz, mV, mC, m2, rd2, gI, gMod, gDiv, gPow, fAdd, fMul, mB, mNone, isN, okB, mCh, mIf, mNot, mNotV, argW, aNil, aCons, allD, mTup, mLst, rd1, rdL2, gLen, gInt, gAbs, gSum, gAll, gAny, fTupOf, fLstOf, mFld, fldD, putD, gIx, oNone, oSome, fSl, mSl, mRev, mNeg, gIsi, gIsiT, tysOf, tyN, tyM, knownC, mIdxT, mIdxL, idxEnd, Item, srcOf, mSeq, b62, mRng1, mRng2, mRng3, mZipT, mEnumT, mCall, callW, argsOf, slotsOf, tagOf, putBack, mMeth, mMake, makeW, putFld, sFldS, mCallL2, okW, backS, wipeS, Src.items, Src.ok, gEq, gNe, gIn, gNotIn, ixN, at_0, at_1, at_2, at_3, at_4])
  rw [e2]; unfold natsD; rw [List.map_map]; rfl
theorem last_find {α : Type} (l : List α) (p : α → Bool) : (l.reverse.filter p).getLast? = l.find? p := by
  rw [List.filter_reverse, List.getLast?_reverse, List.head?_filter]
theorem natsD_last' {l : List Nat} {m : Nat} (h : l.getLast? = some m) : L2.atI (natsD l) (-1) = some (.int (m : Nat)) := by
  rw [atI_last]; unfold natsD; rw [List.getLast?_map, h]; rfl
theorem toPs_nats {l : List Nat} : eqD (.lst (natsD l)) (.lst []) = some l.isEmpty := by
  have e : natsD l = (l.map fun m : Nat => (m : Int)).map D.int := by unfold natsD; rw [List.map_map]; rfl
  have d : PyData.depthAll ((l.map fun m : Nat => (m : Int)).map PyData.int) ≤ 63 := by
    have : ∀ xs : List Int, PyData.depthAll (xs.map PyData.int) = 0 := fun xs => by
      induction xs with
      | nil => simp [PyData.depthAll]
      | cons x xs ih => simp [PyData.depthAll, PyData.depth, ih]
    rw [this]; omega
  rw [e, eqD_nil toPs_ints lay_ints d]
  simp
end k15
end DP
end
section
set_option Elab.async false
set_option linter.all false
set_option maxRecDepth 100000
set_option maxHeartbeats 4000000
namespace DP
namespace k15
open PySem PySem.Spec PyProof.Rows L2
/-! ### alike -/
def alk : Nat → D → Prop
  | 0, _ => False
  | _ + 1, .non => True
  | _ + 1, .bl _ => True
  | _ + 1, .int _ => True
  | _ + 1, .str x => PyData.strOk x = true
  | n + 1, .tup ds => ds.length ≤ 1000 ∧ ∀ x ∈ ds, alk n x
  | n + 1, .lst ds => ds.length ≤ 1000 ∧ ∀ x ∈ ds, alk n x
  | _ + 1, _ => False
theorem alk_at {ds : List D} {k : Nat} {x : D} (h : ds[k]? = some x) : L2.atI ds (k : Int) = some x := by rw [atI_nat]; exact h
theorem aC2 {m1 m2 : M W} {st st1 st2 : St} {w1 w2 : W} (h1 : m1 st = .ok w1 st1) (h2 : m2 st1 = .ok w2 st2) : aCons m1 (aCons m2 aNil) st = .ok [argW w1, argW w2] st2 := by
  unfold aCons
  rw [bnd_ok h1]
  exact (bnd_ok (aC1 h2)).trans rfl
theorem call2 {F : Fn} {x y : D} {w : W} {st : St} (h : F [.d x, .d y] = .ok w []) : callW 2 F [] [.d x, .d y] st = .ok w st := by
  unfold callW
  simp [argsOf, slotsOf, h, putBack]
theorem mcall2 {F : Fn} {m1 m2 : M W} {x y : D} {w : W} {st st1 st2 : St} (h1 : m1 st = .ok (.d x) st1) (h2 : m2 st1 = .ok (.d y) st2) (h : F [.d x, .d y] = .ok w []) : mCall 2 F [] (aCons m1 (aCons m2 aNil)) st = .ok w st2 := (bnd_ok (aC2 h1 h2)).trans (call2 h)
theorem ixV {i j : Nat} {st : St} {X x : D} {ds : List D} {k : Int} (hX : X = .tup ds ∨ X = .lst ds) (hi : st[i]? = some (.d X)) (hj : st[j]? = some (.d (.int k))) (e : L2.atI ds k = some x) : m2 (rd2 gIx) (mV i) (mV j) st = .ok (.d x) st := by
  unfold m2
  rw [bnd_ok (show mV i st = .ok (.d X) st by unfold mV; rw [hi]), bnd_ok (show mV j st = .ok (.d (.int k)) st by unfold mV; rw [hj])]
  rcases hX with rfl | rfl
  · simp [rd2, rd, gIx, e]
  · simp [rd2, rd, gIx, e]
theorem notT {m : M W} {st : St} (h : m st = .ok (.d (.bl true)) st) : mNot (mB m) st = .ok false st := by
  unfold mNot mB
  rw [bnd_assoc, bnd_ok h]
  rfl
theorem lenV {i : Nat} {X : D} {ds : List D} {st : St} (hX : X = .tup ds ∨ X = .lst ds) (h : st[i]? = some (.d X)) : bnd (aCons (mV i) aNil) (rd1 gLen) st = .ok (.d (.int (ds.length : Nat))) st := by
  have h1 : mV i st = .ok (.d X) st := by unfold mV; rw [h]
  refine (bnd_ok (aC1 h1)).trans ?_
  rcases hX with rfl | rfl <;> rfl
theorem al_src {ds : List D} {X : D} {st : St} (h : st[1]? = some (.d X)) (hX : X = .tup ds ∨ X = .lst ds) (hl : ds.length ≤ 1000) : mRng1 (aCons (bnd (aCons (mV 1) (aNil)) (rd1 gLen)) (aNil)) st = .ok (.fz ((List.range ds.length).map fun k => Item.one (.int (0 + (k : Nat))))) st := by
  have hb : b62 ((ds.length : Nat) : Int) = true := by unfold b62; rw [decide_eq_true_iff]; omega
  unfold mRng1
  rw [bnd_ok (aC1 (lenV hX h))]
  simp only [argW]
  rw [if_pos hb]
  rfl
theorem al_lc {F : Fn} {ds : List D} {X : D} (hX : X = .tup ds ∨ X = .lst ds) (hl : ds.length ≤ 1000) (hF : ∀ x ∈ ds, F [.d x, .d x] = .ok (.d (.bl true)) []) : lc_law_alike_0 F [.d X, .d X, .no] = .ok (.o (.lst [])) [.d X, .d X, .no] := by
  have hl2 : (List.range ds.length).length ≤ 1000000 := by rw [List.length_range]; omega
  have q := mLc_ix (vs := [2]) (t := tgN 2) (test := mNot (mB (mCall 2 F [] (aCons (m2 (rd2 gIx) (mV 0) (mV 2)) (aCons (m2 (rd2 gIx) (mV 1) (mV 2)) (aNil)))))) (elt := mV 2) (ks := List.range ds.length) (st1 := [.d X, .d X, .no]) (st2 := [.d X, .d X, .no]) (fun k => .one (.int (0 + (k : Nat)))) (fun _ => false) (fun _ => D.non) (al_src rfl hX hl) (by rfl) (fun k hk => by
    rw [List.mem_range] at hk
    have hx : ds[k]? = some ds[k] := by simp [hk]
    have e1 : L2.atI ds (0 + ((k : Nat) : Int)) = some ds[k] := by rw [Int.zero_add]; exact alk_at hx
    have e2 := hF ds[k] (List.mem_of_getElem? hx)
    exact ⟨[.d X, .d X, .d (.int (0 + (k : Nat)))], by rfl, by rfl, notT (mcall2 (ixV hX rfl rfl e1) (ixV hX rfl rfl e1) e2), fun z => by cases z⟩) hl2 (by rfl)
  rw [List.filter_eq_nil_iff.mpr (by simp)] at q
  exact q
theorem isi_ty {x : D} {t n : String} (h : tyN x = some t) (hn : n ∈ knownC) : gIsi x (.ty n) = some (.bl (tyM t n)) := by
  simp [gIsi, hn, h]
theorem isi2 (i : Nat) {x : D} {b : Bool} {n : String} {st : St} (hi : st[i]? = some (.d x)) (h : gIsi x (.ty n) = some (.bl b)) : bnd (aCons (mV i) (aCons (mC (.ty n)) aNil)) (rdL2 gIsi) st = .ok (.d (.bl b)) st := by
  simp [bnd, aCons, aNil, ret, mV, mC, hi, argW, rdL2, rd, h]
theorem isiT2 (i : Nat) {x : D} {b : Bool} {st : St} (hi : st[i]? = some (.d x)) (h : gIsiT x (.tup [.ty "tuple", .ty "list"]) = some (.bl b)) : bnd (aCons (mV i) (aCons (mTup (aCons (mC (.ty "tuple")) (aCons (mC (.ty "list")) (aNil)))) (aNil))) (rdL2 gIsiT) st = .ok (.d (.bl b)) st := by
  have e : allD [W.d (.ty "tuple"), W.d (.ty "list")] = some [.ty "tuple", .ty "list"] := by rfl
  simp [bnd, aCons, aNil, ret, mV, mC, mTup, hi, argW, rdL2, rd, h, e]
def isiM (i : Nat) (n : String) : M W := bnd (aCons (mV i) (aCons (mC (.ty n)) aNil)) (rdL2 gIsi)
def isiTM (i : Nat) : M W := bnd (aCons (mV i) (aCons (mTup (aCons (mC (.ty "tuple")) (aCons (mC (.ty "list")) (aNil)))) (aNil))) (rdL2 gIsiT)
def alSh (T0 T1 L0 L1 S0 S1 N0 B0 B1 LC : M W) : M Fl := sSeq (sIf (mB T1) (sSeq (sIf (mOr (mNot (mB T0)) (mB (m2 fNe L0 L1))) (sRet (mC (.bl false))) (sNx)) (sSeq (sIf (mB (m2 fNe (bnd (aCons (mV 0) (aNil)) (rd1 gLen)) (bnd (aCons (mV 1) (aNil)) (rd1 gLen)))) (sRet (mC (.bl false))) (sNx)) (sRet (m2 fEq LC (mLst (aNil)))))) (sNx)) (sSeq (sIf (mOr (mB (mNone false (mV 1))) (mB S1)) (sRet (mAndV (m2 fEq (mV 0) (mV 1)) (m2 fEq S0 S1))) (sNx)) (sRet (mAndV N0 (mAndV (m2 fEq B0 B1) (m2 fEq (mV 0) (mV 1))))))
theorem al_sh (F : Fn) : m_law_alike F = alSh (isiTM 0) (isiTM 1) (isiM 0 "list") (isiM 1 "list") (isiM 0 "str") (isiM 1 "str") (isiM 0 "int") (isiM 0 "bool") (isiM 1 "bool") (lc_law_alike_0 F) := by rfl
theorem al_shape {x : D} {T0 T1 L0 L1 S0 S1 N0 B0 B1 LC : M W} {t l s n b : Bool} {st : St} (hst : st = [.d x, .d x, .no]) (hT0 : T0 st = .ok (.d (.bl t)) st) (hT1 : T1 st = .ok (.d (.bl t)) st) (hL0 : L0 st = .ok (.d (.bl l)) st) (hL1 : L1 st = .ok (.d (.bl l)) st) (hS0 : S0 st = .ok (.d (.bl s)) st) (hS1 : S1 st = .ok (.d (.bl s)) st)
    (hN0 : N0 st = .ok (.d (.bl n)) st) (hB0 : B0 st = .ok (.d (.bl b)) st) (hB1 : B1 st = .ok (.d (.bl b)) st) (hx : t = false → eqD x x = some true) (hn : t = false → x ≠ .non → s = false → n = true)
    (hl : t = true → LC st = .ok (.o (.lst [])) st ∧ ∃ m : Nat, gLen x = some (.int (m : Nat))) : ∃ s2, alSh T0 T1 L0 L1 S0 S1 N0 B0 B1 LC st = .ok (.ret (.d (.bl true))) s2 := by
  have el : eqD (.bl l) (.bl l) = some true := by rw [eqD_bl]; simp
  have es : eqD (.bl s) (.bl s) = some true := by rw [eqD_bl]; simp
  have eb : eqD (.bl b) (.bl b) = some true := by rw [eqD_bl]; simp
  have e0 : eqD (.lst []) (.lst []) = some true := by rfl
  subst hst
  refine ⟨[.d x, .d x, .no], ?_⟩
  cases t with
  | true =>
    obtain ⟨h1, m, h2⟩ := hl rfl
    have em : eqD (.int (m : Nat)) (.int (m : Nat)) = some true := by rw [eqD_int]; simp
    simp [alSh, hT0, hT1, hL0, hL1, h1, h2, el, em, e0, sSeq, thenS, sNx, sIf, sRet, retW, bnd, ret, mB, mNot, mIf, m2, rd2, rd, fz, gNe, gEq, mV, mC, aCons, aNil, argW, rd1, mLst, allD]
  | false =>
    have ex := hx rfl
    by_cases h1 : x = .non
    · subst h1
      simp [alSh, hT1, hS0, hS1, ex, es, sSeq, thenS, sNx, sIf, sRet, retW, bnd, ret, mB, mNot, mIf, m2, rd2, rd, fz, gNe, gEq, mV, mC, mNone, okB, isN]
    · have hi : isN (.d x) = false := by cases x <;> first | rfl | exact absurd rfl h1
      cases s with
      | true => simp [alSh, hT1, hS0, hS1, ex, es, hi, sSeq, thenS, sNx, sIf, sRet, retW, bnd, ret, mB, mNot, mIf, m2, rd2, rd, fz, gNe, gEq, mV, mC, mNone, okB]
      | false =>
        have := hn rfl h1 rfl
        subst this
        simp [alSh, hT1, hS0, hS1, hN0, hB0, hB1, ex, es, eb, hi, sSeq, thenS, sNx, sIf, sRet, retW, bnd, ret, mB, mNot, mIf, m2, rd2, rd, fz, gNe, gEq, mV, mC, mNone, okB]
theorem al_run {F : Fn} {x : D} {ty : String} (hty : tyN x = some ty) (hT : (ty = "tuple" ∨ ty = "list") → lc_law_alike_0 F [.d x, .d x, .no] = .ok (.o (.lst [])) [.d x, .d x, .no] ∧ ∃ m : Nat, gLen x = some (.int (m : Nat))) (hx : ty ≠ "tuple" → ty ≠ "list" → eqD x x = some true) (hk : ty = "tuple" ∨ ty = "list" ∨ ty = "NoneType" ∨ ty = "str" ∨ ty = "int" ∨ ty = "bool") (hnn : ty = "NoneType" → x = .non) : mkFn 3 (m_law_alike F) [.d x, .d x] = .ok (.d (.bl true)) [] := by
  have gi : ∀ n, n ∈ knownC → gIsi x (.ty n) = some (.bl (tyM ty n)) := fun n hn => isi_ty hty hn
  have gt : gIsiT x (.tup [.ty "tuple", .ty "list"]) = some (.bl (["tuple", "list"].any fun n => tyM ty n)) := by
    unfold gIsiT
    rw [hty]
    rfl
  rw [al_sh]
  have st0 : ([.d x, .d x, .no] : St)[0]? = some (.d x) := rfl
  have st1 : ([.d x, .d x, .no] : St)[1]? = some (.d x) := rfl
  obtain ⟨s2, q⟩ := al_shape (x := x) (st := [.d x, .d x, .no]) (LC := lc_law_alike_0 F) rfl (show isiTM 0 _ = _ from isiT2 0 st0 gt) (show isiTM 1 _ = _ from isiT2 1 st1 gt) (show isiM 0 "list" _ = _ from isi2 0 st0 (gi "list" (by decide))) (show isiM 1 "list" _ = _ from isi2 1 st1 (gi "list" (by decide)))
    (show isiM 0 "str" _ = _ from isi2 0 st0 (gi "str" (by decide))) (show isiM 1 "str" _ = _ from isi2 1 st1 (gi "str" (by decide))) (show isiM 0 "int" _ = _ from isi2 0 st0 (gi "int" (by decide))) (show isiM 0 "bool" _ = _ from isi2 0 st0 (gi "bool" (by decide))) (show isiM 1 "bool" _ = _ from isi2 1 st1 (gi "bool" (by decide)))
    (fun h => by rcases hk with rfl | rfl | rfl | rfl | rfl | rfl <;> first | (exfalso; revert h; decide) | exact hx (by decide) (by decide)) (fun h h1 h2 => by
      rcases hk with rfl | rfl | rfl | rfl | rfl | rfl
      · exfalso; revert h; decide
      · exfalso; revert h; decide
      · exact absurd (hnn rfl) h1
      · exfalso; revert h2; decide
      · decide
      · decide) (fun h => by
      rcases hk with rfl | rfl | rfl | rfl | rfl | rfl
      · exact hT (.inl rfl)
      · exact hT (.inr rfl)
      all_goals (exfalso; revert h; decide))
  generalize alSh (isiTM 0) (isiTM 1) (isiM 0 "list") (isiM 1 "list") (isiM 0 "str") (isiM 1 "str") (isiM 0 "int") (isiM 0 "bool") (isiM 1 "bool") (lc_law_alike_0 F) = X at q ⊢
  rw [fn_of_m (st := [.d x, .d x, .no]) rfl q]
  rfl
theorem e_alike : ∀ (n : Nat) (x : D), alk n x → fn_law_alike n [.d x, .d x] = .ok (.d (.bl true)) []
  | 0, _, h => h.elim
  | n + 1, x, h => by
    show mkFn 3 (m_law_alike (fn_law_alike n)) [.d x, .d x] = _
    cases x with
    | tup ds => exact al_run (ty := "tuple") rfl (fun _ => ⟨al_lc (.inl rfl) h.1 fun y hy => e_alike n y (h.2 y hy), ds.length, rfl⟩) (fun z => absurd rfl z) (.inl rfl) (fun z => absurd z (by decide))
    | lst ds => exact al_run (ty := "list") rfl (fun _ => ⟨al_lc (.inr rfl) h.1 fun y hy => e_alike n y (h.2 y hy), ds.length, rfl⟩) (fun _ z => absurd rfl z) (.inr (.inl rfl)) (fun z => absurd z (by decide))
    | non => exact al_run (ty := "NoneType") rfl (fun z => absurd z (by decide)) (fun _ _ => eqD_non) (.inr (.inr (.inl rfl))) (fun _ => rfl)
    | bl b => exact al_run (ty := "bool") rfl (fun z => absurd z (by decide)) (fun _ _ => by rw [eqD_bl]; simp) (.inr (.inr (.inr (.inr (.inr rfl))))) (fun z => absurd z (by decide))
    | int i => exact al_run (ty := "int") rfl (fun z => absurd z (by decide)) (fun _ _ => by rw [eqD_int]; simp) (.inr (.inr (.inr (.inr (.inl rfl))))) (fun z => absurd z (by decide))
    | str s => exact al_run (ty := "str") rfl (fun z => absurd z (by decide)) (fun _ _ => by rw [eqD_str h h]; simp) (.inr (.inr (.inr (.inl rfl)))) (fun z => absurd z (by decide))
    | _ => exact h.elim
end k15
end DP
end
section
set_option Elab.async false
set_option linter.all false
set_option maxRecDepth 100000
set_option maxHeartbeats 1000000
namespace DP
namespace k15
open PySem PySem.Spec PyProof.Rows L2
/-! ### the draws -/
def RowOk (o : OD) : Prop := ∃ (ns : List Int) (i x r : Int), o = .lst [.scr ns, .int i, .int x, .int r] ∧ 0 ≤ i
theorem taken_1 (ns : List Int) (i x r many : Int) (h0 : 0 < r) (hm : 0 < many) (hm2 : many < 1073741824) : fn_law_taken [.r (.lst [.scr ns, .int i, .int x, .int r]), .d (.int many)] =
    .ok (.d (.int (r % many))) [.lst [.scr ns, .int i, .int x, .int (r / many)]] := by
  simp [fn_law_taken, m_law_taken, h0, hm, hm2, mkFn, stOf, finF, withRefs, refs, sSeq, thenS, sNx, sBad, sDrop, retW, sRet, sIf, mFz, endS, asgW, fs_d, fs_no, fs_o, sSet, sUnp, tgT, tgN, setNs, setN, sPar, putAt, sPut, sAugL, sAug, isL, sAppL, sAppend, sExtend, okApp, okExt, bnd, ret, rd, W.fzD, fz, mV, mC, m2, rd2, gI, gMod, gDiv, gPow, fAdd, fMul, mB, mNone, isN, okB, mCh, mIf, mNot, mNotV, argW, aNil, aCons, allD, mTup, mLst, rd1, rdL2, gLen, gInt, gAbs, gSum, gAll, gAny, fTupOf, fLstOf, mFld, fldD, putD, gIx, oNone, oSome, fSl, mSl, mRev, mNeg, gIsi, gIsiT, tysOf, tyN, tyM, knownC, mIdxT, mIdxL, idxEnd, Item, srcOf, mSeq, b62, mRng1, mRng2, mRng3, mZipT, mEnumT, mCall, callW, argsOf, slotsOf, tagOf, putBack, mMeth, mMake, makeW, putFld, sFldS, mCallL2, okW, backS, wipeS, Src.items, Src.ok, gEq, gNe, gIn, gNotIn, ixN, at_0, at_1, at_2, at_3, at_4]
theorem taken_2 (ns : List Int) (i x r many : Int) (h0 : ¬ 0 < r) (h1 : ((ns.length : Nat) : Int) < i + 1) (hm : 0 < many) : fn_law_taken [.r (.lst [.scr ns, .int i, .int x, .int r]), .d (.int many)] =
    .ok (.d (.int ((x * 48271 + 11) % 2147483647 / 7 % many))) [.lst [.scr ns, .int (i + 1), .int ((x * 48271 + 11) % 2147483647), .int r]] := by
  simp [fn_law_taken, m_law_taken, h0, h1, hm, mkFn, stOf, finF, withRefs, refs, sSeq, thenS, sNx, sBad, sDrop, retW, sRet, sIf, mFz, endS, asgW, fs_d, fs_no, fs_o, sSet, sUnp, tgT, tgN, setNs, setN, sPar, putAt, sPut, sAugL, sAug, isL, sAppL, sAppend, sExtend, okApp, okExt, bnd, ret, rd, W.fzD, fz, mV, mC, m2, rd2, gI, gMod, gDiv, gPow, fAdd, fMul, mB, mNone, isN, okB, mCh, mIf, mNot, mNotV, argW, aNil, aCons, allD, mTup, mLst, rd1, rdL2, gLen, gInt, gAbs, gSum, gAll, gAny, fTupOf, fLstOf, mFld, fldD, putD, gIx, oNone, oSome, fSl, mSl, mRev, mNeg, gIsi, gIsiT, tysOf, tyN, tyM, knownC, mIdxT, mIdxL, idxEnd, Item, srcOf, mSeq, b62, mRng1, mRng2, mRng3, mZipT, mEnumT, mCall, callW, argsOf, slotsOf, tagOf, putBack, mMeth, mMake, makeW, putFld, sFldS, mCallL2, okW, backS, wipeS, Src.items, Src.ok, gEq, gNe, gIn, gNotIn, ixN, at_0, at_1, at_2, at_3, at_4]
theorem pow18 : (10 : Int) ^ (18 : Nat) = 1000000000000000000 := by decide
theorem taken_3 (ns : List Int) (i x r many c : Int) (h0 : ¬ 0 < r) (h1 : ¬ ((ns.length : Nat) : Int) < i + 1) (hc : L2.atI ns (i + 1 - 1) = some c) (hm : 0 < many) (hm2 : many < 1073741824) (hb : 1000000000000000000 ≤ c) : fn_law_taken [.r (.lst [.scr ns, .int i, .int x, .int r]), .d (.int many)] =
    .ok (.d (.int (c % many))) [.lst [.scr ns, .int (i + 1), .int ((x * 48271 + c + 11) % 2147483647), .int (c / many)]] := by
  rw [Int.add_sub_cancel] at hc
  simp [fn_law_taken, m_law_taken, h0, h1, hc, hm, hm2, hb, pow18, Int.add_sub_cancel, mkFn, stOf, finF, withRefs, refs, sSeq, thenS, sNx, sBad, sDrop, retW, sRet, sIf, mFz, endS, asgW, fs_d, fs_no, fs_o, sSet, sUnp, tgT, tgN, setNs, setN, sPar, putAt, sPut, sAugL, sAug, isL, sAppL, sAppend, sExtend, okApp, okExt, bnd, ret, rd, W.fzD, fz, mV, mC, m2, rd2, gI, gMod, gDiv, gPow, fAdd, fMul, mB, mNone, isN, okB, mCh, mIf, mNot, mNotV, argW, aNil, aCons, allD, mTup, mLst, rd1, rdL2, gLen, gInt, gAbs, gSum, gAll, gAny, fTupOf, fLstOf, mFld, fldD, putD, gIx, oNone, oSome, fSl, mSl, mRev, mNeg, gIsi, gIsiT, tysOf, tyN, tyM, knownC, mIdxT, mIdxL, idxEnd, Item, srcOf, mSeq, b62, mRng1, mRng2, mRng3, mZipT, mEnumT, mCall, callW, argsOf, slotsOf, tagOf, putBack, mMeth, mMake, makeW, putFld, sFldS, mCallL2, okW, backS, wipeS, Src.items, Src.ok, gEq, gNe, gIn, gNotIn, ixN, at_0, at_1, at_2, at_3, at_4]
theorem taken_4 (ns : List Int) (i x r many c : Int) (h0 : ¬ 0 < r) (h1 : ¬ ((ns.length : Nat) : Int) < i + 1) (hc : L2.atI ns (i + 1 - 1) = some c) (hm : 0 < many) (hb : ¬ 1000000000000000000 ≤ c) : fn_law_taken [.r (.lst [.scr ns, .int i, .int x, .int r]), .d (.int many)] =
    .ok (.d (.int ((c % 1000003 * 31 + (x * 48271 + c + 11) % 2147483647 / 11) % many))) [.lst [.scr ns, .int (i + 1), .int ((x * 48271 + c + 11) % 2147483647), .int r]] := by
  rw [Int.add_sub_cancel] at hc
  simp [fn_law_taken, m_law_taken, h0, h1, hc, hm, hb, pow18, Int.add_sub_cancel, mkFn, stOf, finF, withRefs, refs, sSeq, thenS, sNx, sBad, sDrop, retW, sRet, sIf, mFz, endS, asgW, fs_d, fs_no, fs_o, sSet, sUnp, tgT, tgN, setNs, setN, sPar, putAt, sPut, sAugL, sAug, isL, sAppL, sAppend, sExtend, okApp, okExt, bnd, ret, rd, W.fzD, fz, mV, mC, m2, rd2, gI, gMod, gDiv, gPow, fAdd, fMul, mB, mNone, isN, okB, mCh, mIf, mNot, mNotV, argW, aNil, aCons, allD, mTup, mLst, rd1, rdL2, gLen, gInt, gAbs, gSum, gAll, gAny, fTupOf, fLstOf, mFld, fldD, putD, gIx, oNone, oSome, fSl, mSl, mRev, mNeg, gIsi, gIsiT, tysOf, tyN, tyM, knownC, mIdxT, mIdxL, idxEnd, Item, srcOf, mSeq, b62, mRng1, mRng2, mRng3, mZipT, mEnumT, mCall, callW, argsOf, slotsOf, tagOf, putBack, mMeth, mMake, makeW, putFld, sFldS, mCallL2, okW, backS, wipeS, Src.items, Src.ok, gEq, gNe, gIn, gNotIn, ixN, at_0, at_1, at_2, at_3, at_4]
theorem taken_ok {o : OD} (h : RowOk o) {many : Int} (hm : 0 < many) (hm2 : many < 1073741824) : ∃ (v : Int) (o' : OD), fn_law_taken [.r o, .d (.int many)] = .ok (.d (.int v)) [o'] ∧ 0 ≤ v ∧ v < many ∧ RowOk o' := by
  obtain ⟨ns, i, x, r, rfl, hi⟩ := h
  have rg : ∀ z : Int, 0 ≤ z % many ∧ z % many < many := fun z => ⟨Int.emod_nonneg _ (by omega), Int.emod_lt_of_pos _ hm⟩
  by_cases h0 : 0 < r
  · exact ⟨_, _, taken_1 ns i x r many h0 hm hm2, (rg _).1, (rg _).2, ns, i, x, _, rfl, hi⟩
  · by_cases h1 : ((ns.length : Nat) : Int) < i + 1
    · exact ⟨_, _, taken_2 ns i x r many h0 h1 hm, (rg _).1, (rg _).2, ns, _, _, _, rfl, by omega⟩
    · obtain ⟨k, rfl⟩ := Int.eq_ofNat_of_zero_le hi
      have hk : k < ns.length := by omega
      have hc : L2.atI ns ((k : Int) + 1 - 1) = some ns[k] := by rw [Int.add_sub_cancel, atI_nat]; simp [hk]
      by_cases hb : 1000000000000000000 ≤ ns[k]
      · exact ⟨_, _, taken_3 ns k x r many _ h0 h1 hc hm hm2 hb, (rg _).1, (rg _).2, ns, _, _, _, rfl, by omega⟩
      · exact ⟨_, _, taken_4 ns k x r many _ h0 h1 hc hm hb, (rg _).1, (rg _).2, ns, _, _, _, rfl, by omega⟩
end k15
end DP
end
section
set_option Elab.async false
set_option linter.all false
set_option maxRecDepth 100000
set_option maxHeartbeats 1000000
namespace DP
namespace k15
open PySem PySem.Spec PyProof.Rows L2
theorem callR2 {F : Fn} {i : Nat} {t : Option Nat} {o o' : OD} {x : D} {w : W} {st : St} (hi : st[i]? = some (.o t o)) (h : F [.r o, .d x] = .ok w [o']) : callW 2 F [] [.b i, .d x] st = .ok w (st.set i (.o t o')) := by
  unfold callW
  simp [argsOf, hi, slotsOf, h, putBack, tagOf]
theorem mcallR2 {F : Fn} {i : Nat} {m : M W} {t : Option Nat} {o o0 o' : OD} {x : D} {w : W} {st st1 : St} (h0 : st[i]? = some (.o t o0)) (hm : m st = .ok (.d x) st1) (hi : st1[i]? = some (.o t o)) (h : F [.r o, .d x] = .ok w [o']) : mCall 2 F [] (aCons (mV i) (aCons m aNil)) st = .ok w (st1.set i (.o t o')) :=
  (bnd_ok (aC2 (show mV i st = .ok (.b i) st by unfold mV; rw [h0]) hm)).trans (callR2 hi h)
theorem pick_ok {o : OD} (h : RowOk o) {ds : List D} (hd : ds ≠ []) (hl : ds.length ≤ 1000) : ∃ (d : D) (o' : OD), fn_law_pick [.r o, .d (.lst ds)] = .ok (.d d) [o'] ∧ d ∈ ds ∧ RowOk o' := by
  have h1 : 0 < ds.length := List.length_pos_iff.mpr hd
  obtain ⟨v, o', e, v0, v1, ok⟩ := taken_ok h (many := (ds.length : Nat)) (by omega) (by omega)
  obtain ⟨k, rfl⟩ := Int.eq_ofNat_of_zero_le v0
  have hk : k < ds.length := by omega
  refine ⟨ds[k], o', ?_, List.getElem_mem hk, ok⟩
  have c : mCall 2 fn_law_taken [] (aCons (mV 0) (aCons (bnd (aCons (mV 1) aNil) (rd1 gLen)) aNil)) [.o (some 0) o, .d (.lst ds)] = .ok (.d (.int (k : Nat))) [.o (some 0) o', .d (.lst ds)] := mcallR2 rfl (lenV (.inr rfl) rfl) rfl e
  have e3 : L2.atI ds (k : Int) = some ds[k] := by rw [atI_nat]; simp [hk]
  have q : m_law_pick [.o (some 0) o, .d (.lst ds)] = .ok (.ret (.d ds[k])) [.o (some 0) o', .d (.lst ds)] := by
    unfold m_law_pick sRet m2
    generalize mCall 2 fn_law_taken [] (aCons (mV 0) (aCons (bnd (aCons (mV 1) aNil) (rd1 gLen)) aNil)) = C at c ⊢
    rw [bnd_assoc, bnd_ok (show mV 1 [.o (some 0) o, .d (.lst ds)] = .ok (.d (.lst ds)) [.o (some 0) o, .d (.lst ds)] from rfl), bnd_assoc, bnd_ok c]
    simp [bnd, rd2, rd, gIx, e3, retW]
  unfold fn_law_pick
  rw [fn_of_m (st := [.o (some 0) o, .d (.lst ds)]) rfl q]
  rfl
end k15
end DP
end
section
set_option Elab.async false
set_option linter.all false
set_option maxRecDepth 100000
set_option maxHeartbeats 1000000
namespace DP
namespace k15
open PySem PySem.Spec PyProof.Rows L2
/-! ### letters and names -/
def lt (v : Nat) : Str := ⟨#[97 + v]⟩
theorem alph_at : ∀ v : Fin 26, alphS.cps.toList[v.1]? = some (97 + v.1) := by decide
theorem let_at {v : Nat} (hv : v < 26) : gIx (.str alphS) (.int (v : Nat)) = some (.str (lt v)) := by
  have h := alph_at ⟨v, hv⟩
  have hs : alphS.length ≤ sizeLine := leSz (by decide)
  show (if alphS.length ≤ sizeLine then (L2.atI alphS.cps.toList (v : Int)).map fun c => D.str ⟨#[c]⟩ else none) = _
  rw [if_pos hs, atI_nat, h]
  rfl
theorem foldl_rep (a : Array Nat) : ∀ (n : Nat) (acc : Array Nat), ((List.replicate n a).foldl (· ++ ·) acc).toList = acc.toList ++ (List.replicate n a.toList).flatten
  | 0, acc => by simp
  | n + 1, acc => by rw [List.replicate_succ, List.foldl_cons, foldl_rep a n]; simp [List.replicate_succ]
theorem rep_list (v n : Nat) : (strRep (lt v) n).cps.toList = List.replicate n (97 + v) := by
  unfold strRep
  rw [foldl_rep]
  simp only [lt]
  induction n with
  | zero => rfl
  | succ n ih => rw [List.replicate_succ, List.flatten_cons, List.replicate_succ]; simp at ih ⊢
theorem app_list (x y : Str) : (x ++ y).cps.toList = x.cps.toList ++ y.cps.toList := by
  show (x.cps ++ y.cps).toList = _
  simp
theorem size_list (x : Str) : x.cps.size = x.cps.toList.length := by simp
/-- a name as it is drawn: p the sign's place -/
structure Nm (p s : Nat) (x : Str) : Prop where
  ok : NmOk x
  at_ : x.cps.toList[p]? = some (97 + s)
theorem nm_a {a h b t s : Nat} (ha : a < 26) (hb : b < 26) (hs : s < 26) (hh : h < 4) (ht : t < 4) : Nm h s (strRep (lt a) h ++ lt s ++ strRep (lt b) t) := by
  have e : (strRep (lt a) h ++ lt s ++ strRep (lt b) t).cps.toList = List.replicate h (97 + a) ++ [97 + s] ++ List.replicate t (97 + b) := by
    rw [app_list, app_list, rep_list, rep_list]; rfl
  refine ⟨⟨?_, ?_, fun c hc => ?_⟩, ?_⟩
  · rw [size_list, e]; simp; omega
  · rw [size_list, e]; simp; omega
  · rw [e] at hc
    simp only [List.mem_append, List.mem_replicate, List.mem_singleton] at hc
    omega
  · rw [e, List.append_assoc, List.getElem?_append_right (by simp)]
    simp
theorem nm_b {v m s : Nat} (hv : v < 26) (hs : s < 26) (hm : m < 8) : Nm 0 s (lt s ++ strRep (lt v) m) := by
  have e : (lt s ++ strRep (lt v) m).cps.toList = [97 + s] ++ List.replicate m (97 + v) := by rw [app_list, rep_list]; rfl
  refine ⟨⟨?_, ?_, fun c hc => ?_⟩, ?_⟩
  · rw [size_list, e, List.length_append, List.length_replicate, List.length_singleton]; omega
  · rw [size_list, e, List.length_append, List.length_replicate, List.length_singleton]; omega
  · rw [e] at hc
    simp only [List.mem_append, List.mem_replicate, List.mem_singleton] at hc
    omega
  · rw [e]; rfl
/-- unlike signs make unlike names -/
theorem nms_nodup {names : List Str} {p b : Nat} (hl : names.length ≤ 10) (h : ∀ k x, names[k]? = some x → Nm p ((b + 7 * k) % 26) x) : names.Nodup := by
  rw [List.Nodup, List.pairwise_iff_getElem]
  intro i j hi hj hij e
  have h1 := (h i _ (List.getElem?_eq_getElem hi)).at_
  have h2 := (h j _ (List.getElem?_eq_getElem hj)).at_
  rw [e, h2] at h1
  simp only [Option.some.injEq] at h1
  omega
end k15
end DP
end
section
set_option Elab.async false
set_option linter.all false
set_option maxRecDepth 100000
set_option maxHeartbeats 1000000
namespace DP
namespace k15
open PySem PySem.Spec PyProof.Rows L2
noncomputable abbrev Tk (n : Int) : M W := mCall 2 fn_law_taken [] (aCons (mV 0) (aCons (mC (.int n)) (aNil)))
theorem tk {st : St} {o : OD} (h0 : st[0]? = some (.o (some 0) o)) (ok : RowOk o) {n : Int} (h1 : 0 < n) (h2 : n < 1073741824) : ∃ (v : Nat) (o' : OD), Tk n st = .ok (.d (.int (v : Nat))) (st.set 0 (.o (some 0) o')) ∧ (v : Int) < n ∧ RowOk o' := by
  obtain ⟨v, o', e, v0, v1, ok'⟩ := taken_ok ok h1 h2
  obtain ⟨k, rfl⟩ := Int.eq_ofNat_of_zero_le v0
  exact ⟨k, o', mcallR2 h0 rfl h0 e, v1, ok'⟩
theorem get_set0 {st : St} {i : Nat} {s : Sl} (hi : i ≠ 0) : (st.set 0 s)[i]? = st[i]? := List.getElem?_set_ne (Ne.symm hi)
theorem set0_get {st : St} {a s : Sl} (h : st[0]? = some a) : (st.set 0 s)[0]? = some s := List.getElem?_set_self (List.getElem?_eq_some_iff.mp h).1
theorem tkL {st : St} {o : OD} (h0 : st[0]? = some (.o (some 0) o)) (h2 : st[2]? = some (.d (.str alphS))) (ok : RowOk o) : ∃ (v : Nat) (o' : OD), m2 (rd2 gIx) (mV 2) (Tk 26) st = .ok (.d (.str (lt v))) (st.set 0 (.o (some 0) o')) ∧ v < 26 ∧ RowOk o' := by
  obtain ⟨v, o', e, v1, ok'⟩ := tk h0 ok (n := 26) (by decide) (by decide)
  have hv : v < 26 := by omega
  refine ⟨v, o', ?_, hv, ok'⟩
  have g := let_at hv
  unfold m2
  rw [bnd_ok (show mV 2 st = .ok (.d (.str alphS)) st by unfold mV; rw [h2]), bnd_ok e]
  simp [rd2, rd, g]
theorem tkR {st : St} {o : OD} (h0 : st[0]? = some (.o (some 0) o)) (h2 : st[2]? = some (.d (.str alphS))) (ok : RowOk o) {n : Int} (n1 : 0 < n) (n2 : n ≤ 8) : ∃ (v h : Nat) (o' : OD), m2 fMul (m2 (rd2 gIx) (mV 2) (Tk 26)) (Tk n) st = .ok (.d (.str (strRep (lt v) h))) (st.set 0 (.o (some 0) o')) ∧ v < 26 ∧ (h : Int) < n ∧ RowOk o' := by
  obtain ⟨v, o1, e1, hv, ok1⟩ := tkL h0 h2 ok
  obtain ⟨h, o2, e2, hh, ok2⟩ := tk (set0_get (s := .o (some 0) o1) h0) ok1 n1 (by omega)
  refine ⟨v, h, o2, ?_, hv, hh, ok2⟩
  rw [List.set_set] at e2
  have l1 : (lt v).length ≤ 1000 := by show 1 ≤ 1000; decide
  have l2 : (h : Int) ≤ 1000 := by omega
  unfold m2 at e1 ⊢
  rw [bnd_ok e1, bnd_ok e2]
  simp [fMul, rd, l1, l2]
/-! ### the names -/
def nmS (o : OD) (many kind begin : Int) (hd tl : Str) (tv sv : Sl) (names : List Str) : St := [.o (some 0) o, .d (.int many), .d (.str alphS), .d (.str hd), .d (.str tl), .d (.int kind), tv, .d (.int begin), .o none (.lst (names.map .str)), sv]
theorem idx26 {st : St} {b k : Int} (h7 : st[7]? = some (.d (.int b))) (h6 : st[6]? = some (.d (.int k))) (hk : k.natAbs < 1152921504606846976) : m2 fMod (bnd (aCons (m2 fAdd (mV 7) (m2 fMul (mC (.int 7)) (mV 6))) (aNil)) (rd1 gInt)) (mC (.int 26)) st = .ok (.d (.int ((b + 7 * k) % 26))) st := by
  have e1 : m2 fMul (mC (.int 7)) (mV 6) st = .ok (.d (.int (7 * k))) st := by
    unfold m2
    rw [bnd_ok (show mC (.int 7) st = .ok (.d (.int 7)) st from rfl), bnd_ok (show mV 6 st = .ok (.d (.int k)) st by unfold mV; rw [h6])]
    simp [fMul, rd, hk]
  have e2 : m2 fAdd (mV 7) (m2 fMul (mC (.int 7)) (mV 6)) st = .ok (.d (.int (b + 7 * k))) st := by
    show bnd (mV 7) (fun x => bnd (m2 fMul (mC (.int 7)) (mV 6)) fun y => fAdd x y) st = _
    rw [bnd_ok (show mV 7 st = .ok (.d (.int b)) st by unfold mV; rw [h7]), bnd_ok e1]
    rfl
  have e3 := aC1 e2
  have e4 : bnd (aCons (m2 fAdd (mV 7) (m2 fMul (mC (.int 7)) (mV 6))) (aNil)) (rd1 gInt) st = .ok (.d (.int (b + 7 * k))) st := (bnd_ok e3).trans rfl
  show bnd (bnd (aCons (m2 fAdd (mV 7) (m2 fMul (mC (.int 7)) (mV 6))) (aNil)) (rd1 gInt)) (fun x => bnd (mC (.int 26)) fun y => fMod x y) st = _
  rw [bnd_ok e4, bnd_ok (show mC (.int 26) st = .ok (.d (.int 26)) st from rfl)]
  simp [rd2, rd, gMod]
theorem nm_sign {o : OD} {many kind : Int} {b k : Nat} {hd tl : Str} {sv : Sl} {names : List Str} (fs : freeS sv = true) (hk : k < 100) : sSet 9 (m2 (rd2 gIx) (mV 2) (m2 fMod (bnd (aCons (m2 fAdd (mV 7) (m2 fMul (mC (.int 7)) (mV 6))) (aNil)) (rd1 gInt)) (mC (.int 26)))) (nmS o many kind (b : Nat) hd tl (.d (.int (k : Nat))) sv names) = .ok .nx (nmS o many kind (b : Nat) hd tl (.d (.int (k : Nat))) (.d (.str (lt ((b + 7 * k) % 26)))) names) := by
  have g := let_at (v := (b + 7 * k) % 26) (Nat.mod_lt _ (by decide))
  have e : ((b : Int) + 7 * (k : Int)) % 26 = (((b + 7 * k) % 26 : Nat) : Int) := by omega
  have i := idx26 (st := nmS o many kind (b : Nat) hd tl (.d (.int (k : Nat))) sv names) (b := (b : Nat)) (k := (k : Nat)) rfl rfl (by omega)
  rw [e] at i
  have q : m2 (rd2 gIx) (mV 2) (m2 fMod (bnd (aCons (m2 fAdd (mV 7) (m2 fMul (mC (.int 7)) (mV 6))) (aNil)) (rd1 gInt)) (mC (.int 26))) (nmS o many kind (b : Nat) hd tl (.d (.int (k : Nat))) sv names) = .ok (.d (.str (lt ((b + 7 * k) % 26)))) (nmS o many kind (b : Nat) hd tl (.d (.int (k : Nat))) sv names) := by
    generalize (m2 fMod (bnd (aCons (m2 fAdd (mV 7) (m2 fMul (mC (.int 7)) (mV 6))) (aNil)) (rd1 gInt)) (mC (.int 26))) = I at i ⊢
    unfold m2
    rw [bnd_ok (show mV 2 (nmS o many kind (b : Nat) hd tl (.d (.int (k : Nat))) sv names) = .ok (.d (.str alphS)) (nmS o many kind (b : Nat) hd tl (.d (.int (k : Nat))) sv names) from rfl), bnd_ok i]
    unfold rd2 rd
    simp only [g]
  refine (bnd_ok q).trans ?_
  simp only [asgW, nmS, List.getElem?_cons_succ, List.getElem?_cons_zero, fs, if_true]
  rfl
end k15
end DP
end
section
set_option Elab.async false
set_option linter.all false
set_option maxRecDepth 100000
set_option maxHeartbeats 1000000
namespace DP
namespace k15
open PySem PySem.Spec PyProof.Rows L2
theorem appV {i : Nat} {st st1 : St} {X : M W} {d : D} {t : Option Nat} {ds ds1 : List D} (h : st[i]? = some (.o t (.lst ds))) (hX : X st = .ok (.d d) st1) (h1 : st1[i]? = some (.o t (.lst ds1))) (hl : ds1.length < 1000000) : sAppend (mV i) (aCons X aNil) st = .ok .nx (st1.set i (.o t (.lst (ds1 ++ [d])))) := by
  unfold sAppend sAppL
  rw [bnd_ok (show mV i st = .ok (.b i) st by unfold mV; rw [h]), if_pos (show isL (.b i) st = true by simp [isL, h]), bnd_ok (aC1 hX)]
  simp [argW, h1, okApp, hl]
theorem nm_new {st : St} {o : OD} {kind : Int} {hd tl sg : Str} (h0 : st[0]? = some (.o (some 0) o)) (h2 : st[2]? = some (.d (.str alphS))) (h3 : st[3]? = some (.d (.str hd))) (h4 : st[4]? = some (.d (.str tl))) (h5 : st[5]? = some (.d (.int kind))) (h9 : st[9]? = some (.d (.str sg))) (ok : RowOk o)
    (l1 : hd.length ≤ 100) (l2 : tl.length ≤ 100) (l3 : sg.length ≤ 100) : ∃ (x : Str) (o' : OD), (mIf (mB (m2 fEq (mV 5) (mC (.int 0)))) (m2 fAdd (m2 fAdd (mV 3) (mV 9)) (mV 4)) (m2 fAdd (mV 9) (m2 fMul (m2 (rd2 gIx) (mV 2) (Tk 26)) (Tk 8)))) st = .ok (.d (.str x)) (st.set 0 (.o (some 0) o')) ∧ RowOk o' ∧ ((kind = 0 ∧ x = hd ++ sg ++ tl) ∨ (kind ≠ 0 ∧ ∃ v m : Nat, v < 26 ∧ m < 8 ∧ x = sg ++ strRep (lt v) m)) := by
  have c : mB (m2 fEq (mV 5) (mC (.int 0))) st = .ok (kind == 0) st := by
    simp [mB, m2, bnd, mV, mC, h5, rd2, rd, gEq, eqD_int]
  by_cases hk : kind = 0
  · refine ⟨hd ++ sg ++ tl, o, ?_, ok, .inl ⟨hk, rfl⟩⟩
    have z1 : hd.length + sg.length ≤ sizeLine := leSz (by omega)
    have z2 : (hd ++ sg).length + tl.length ≤ sizeLine := leSz (by
      have : (hd ++ sg).length = hd.length + sg.length := by unfold Str.length; rw [size_list, app_list, List.length_append, ← size_list, ← size_list]
      omega)
    have e : st.set 0 (.o (some 0) o) = st := by
      refine List.ext_getElem? fun j => ?_
      by_cases hj : j = 0
      · subst hj; rw [set0_get h0, h0]
      · rw [get_set0 hj]
    rw [e]
    unfold mIf
    rw [bnd_ok c, hk]
    simp [m2, bnd, mV, h3, h4, h9, fAdd, rd, z1, z2]
  · obtain ⟨v, m, o', q, hv, hm, ok'⟩ := tkR h0 h2 ok (n := 8) (by decide) (by decide)
    refine ⟨sg ++ strRep (lt v) m, o', ?_, ok', .inr ⟨hk, v, m, hv, by omega, rfl⟩⟩
    have z : sg.length + (strRep (lt v) m).length ≤ sizeLine := leSz (by
      have : (strRep (lt v) m).length = m := by unfold Str.length; rw [size_list, rep_list, List.length_replicate]
      omega)
    have hkb : (kind == 0) = false := by simp [hk]
    unfold mIf
    rw [bnd_ok c, hkb]
    generalize m2 fMul (m2 (rd2 gIx) (mV 2) (Tk 26)) (Tk 8) = R at q
    simp [m2, bnd, mV, h9, q, fAdd, rd, z]
end k15
end DP
end
section
set_option Elab.async false
set_option linter.all false
set_option maxRecDepth 100000
set_option maxHeartbeats 1000000
namespace DP
namespace k15
open PySem PySem.Spec PyProof.Rows L2
theorem rep_len (v n : Nat) : (strRep (lt v) n).length = n := by unfold Str.length; rw [size_list, rep_list, List.length_replicate]
def NmP (p b : Nat) (names : List Str) : Prop := ∀ k x, names[k]? = some x → Nm p ((b + 7 * k) % 26) x
theorem nm_body {o : OD} {many kind : Int} {a h c t b k : Nat} {sv : Sl} {names : List Str} (ok : RowOk o) (ha : a < 26) (hc : c < 26) (hh : h < 4) (ht : t < 4) (hk : k < 10) (hl : names.length = k) (hp : NmP (if kind = 0 then h else 0) b names) (fs : freeS sv = true) :
    ∃ (o' : OD) (sv' : Sl) (names' : List Str), bo_law_names_0 (nmS o many kind (b : Nat) (strRep (lt a) h) (strRep (lt c) t) (.d (.int (k : Nat))) sv names) = .ok .nx (nmS o' many kind (b : Nat) (strRep (lt a) h) (strRep (lt c) t) (.d (.int (k : Nat))) sv' names') ∧ freeS sv' = true ∧ RowOk o' ∧ names'.length = k + 1 ∧ NmP (if kind = 0 then h else 0) b names' := by
  have s1 := nm_sign (o := o) (many := many) (kind := kind) (b := b) (k := k) (hd := strRep (lt a) h) (tl := strRep (lt c) t) (names := names) fs (by omega)
  have hs : (b + 7 * k) % 26 < 26 := Nat.mod_lt _ (by decide)
  generalize hS : (b + 7 * k) % 26 = s at s1 hs
  obtain ⟨x, o', e, ok', hx⟩ := nm_new (st := nmS o many kind (b : Nat) (strRep (lt a) h) (strRep (lt c) t) (.d (.int (k : Nat))) (.d (.str (lt s))) names) (o := o) (kind := kind) (hd := strRep (lt a) h) (tl := strRep (lt c) t) (sg := lt s) rfl rfl rfl rfl rfl rfl ok (by rw [rep_len]; omega) (by rw [rep_len]; omega) (by show 1 ≤ 100; decide)
  refine ⟨o', .d (.str (lt s)), names ++ [x], ?_, rfl, ok', by simp [hl], fun j y hj => ?_⟩
  · have ap := appV (i := 8) (t := none) (ds := names.map .str) (ds1 := names.map .str) rfl e rfl (by rw [List.length_map, hl]; omega)
    have e2 : nmS o' many kind (b : Nat) (strRep (lt a) h) (strRep (lt c) t) (.d (.int (k : Nat))) (.d (.str (lt s))) (names ++ [x]) = ((nmS o many kind (b : Nat) (strRep (lt a) h) (strRep (lt c) t) (.d (.int (k : Nat))) (.d (.str (lt s))) names).set 0 (.o (some 0) o')).set 8 (.o none (.lst (names.map .str ++ [.str x]))) := by
      unfold nmS; rw [List.map_append]; rfl
    rw [e2]
    exact (bnd_ok s1).trans ap
  · by_cases hj2 : j < names.length
    · rw [List.getElem?_append_left hj2] at hj; exact hp j y hj
    · rw [List.getElem?_append_right (by omega)] at hj
      have hj3 : j = k := by
        have := (List.getElem?_eq_some_iff.mp hj).1
        simp at this; omega
      subst hj3
      rw [hl, Nat.sub_self] at hj
      obtain rfl : x = y := by simpa using hj
      rw [hS]
      rcases hx with ⟨hk0, rfl⟩ | ⟨hk0, v, m, hv, hm, rfl⟩
      · rw [if_pos hk0]; exact nm_a ha hc hs hh ht
      · rw [if_neg hk0]; exact nm_b hv hs hm
theorem nm_loop {o : OD} {kind : Int} {n a h c t b : Nat} (ok : RowOk o) (ha : a < 26) (hc : c < 26) (hh : h < 4) (ht : t < 4) (hn : n ≤ 10) :
    ∃ (o' : OD) (tv sv : Sl) (names : List Str), fo_law_names_1 (nmS o (n : Nat) kind (b : Nat) (strRep (lt a) h) (strRep (lt c) t) .no .no []) = .ok .nx (nmS o' (n : Nat) kind (b : Nat) (strRep (lt a) h) (strRep (lt c) t) tv sv names) ∧ RowOk o' ∧ names.length = n ∧ NmP (if kind = 0 then h else 0) b names := by
  have key := forL_all (t := tgN 6) (b := bo_law_names_0) (fun j s => ∃ (o' : OD) (tv sv : Sl) (names : List Str), s = nmS o' (n : Nat) kind (b : Nat) (strRep (lt a) h) (strRep (lt c) t) tv sv names ∧ freeS tv = true ∧ freeS sv = true ∧ RowOk o' ∧ names.length = j ∧ NmP (if kind = 0 then h else 0) b names) (its := (List.range n).map fun k => Item.one (.int (0 + (k : Nat)))) (i := 0) (st := nmS o (n : Nat) kind (b : Nat) (strRep (lt a) h) (strRep (lt c) t) .no .no []) ⟨o, .no, .no, [], rfl, rfl, rfl, ok, rfl, fun k x z => by simp at z⟩ ?_
  · obtain ⟨s', q1, o', tv, sv, names, rfl, _, _, ok', hl, hp⟩ := key
    refine ⟨o', tv, sv, names, ?_, ok', by simpa using hl, hp⟩
    have hb : b62 ((n : Nat) : Int) = true := by unfold b62; rw [decide_eq_true_iff]; omega
    have hm : mRng1 (aCons (mV 1) aNil) (nmS o (n : Nat) kind (b : Nat) (strRep (lt a) h) (strRep (lt c) t) .no .no []) = .ok (.fz ((List.range n).map fun k => Item.one (.int (0 + (k : Nat))))) (nmS o (n : Nat) kind (b : Nat) (strRep (lt a) h) (strRep (lt c) t) .no .no []) := by
      unfold mRng1
      rw [bnd_ok (aC1 (show mV 1 (nmS o (n : Nat) kind (b : Nat) (strRep (lt a) h) (strRep (lt c) t) .no .no []) = .ok (.d (.int (n : Nat))) _ from rfl))]
      simp only [argW]
      rw [if_pos hb]
      rfl
    unfold fo_law_names_1 sFor
    rw [bnd_ok hm]
    exact q1
  · rintro j it s hj ⟨o', tv, sv, names, rfl, ft, fs, ok', hl, hp⟩
    rw [List.getElem?_map] at hj
    simp only [Option.map_eq_some_iff] at hj
    obtain ⟨j', hj, rfl⟩ := hj
    have hlt : j < n := by have := (List.getElem?_eq_some_iff.mp hj).1; simpa using this
    rw [List.getElem?_range hlt] at hj
    obtain rfl : j = j' := Option.some.inj hj
    rw [Nat.zero_add] at hl
    obtain ⟨o2, sv2, names2, e, fs2, ok2, hl2, hp2⟩ := nm_body (many := (n : Nat)) ok' ha hc hh ht (by omega) hl hp fs
    rw [Int.zero_add, Nat.zero_add]
    refine ⟨_, _, ?_, .inl e, o2, _, sv2, names2, rfl, rfl, fs2, ok2, hl2, hp2⟩
    simp only [tgN, setN, nmS, List.getElem?_cons_succ, List.getElem?_cons_zero, ft, if_true]
    rfl
end k15
end DP
end
section
set_option Elab.async false
set_option linter.all false
set_option maxRecDepth 100000
set_option maxHeartbeats 1000000
namespace DP
namespace k15
open PySem PySem.Spec PyProof.Rows L2
theorem fzd {m : M W} {x : D} {st st1 : St} (h : m st = .ok (.d x) st1) : mFz m st = .ok (.d x) st1 := (bnd_ok h).trans rfl
theorem setD {i : Nat} {m : M W} {x : D} {s : Sl} {st st1 : St} (h : m st = .ok (.d x) st1) (hi : st1[i]? = some s) (hf : freeS s = true) : sSet i m st = .ok .nx (st1.set i (.d x)) := (bnd_ok h).trans (by simp [asgW, hi, hf, endS])
theorem seq_nx {m1 m2 : M Fl} {st st1 : St} {r : Res Fl} (h1 : m1 st = .ok .nx st1) (h2 : m2 st1 = r) : sSeq m1 m2 st = r := (bnd_ok h1).trans h2
theorem names_ok {o : OD} (ok : RowOk o) {n : Nat} (hn : n ≤ 10) : ∃ (names : List Str) (o' : OD), fn_law_names [.r o, .d (.int (n : Nat))] = .ok (.o (.lst (names.map .str))) [o'] ∧ RowOk o' ∧ names.length = n ∧ names.Nodup ∧ ∀ x ∈ names, NmOk x := by
  have h1 : sSet 2 (mC (.str alphS)) [.o (some 0) o, .d (.int (n : Nat)), .no, .no, .no, .no, .no, .no, .no, .no] = .ok .nx [.o (some 0) o, .d (.int (n : Nat)), .d (.str alphS), .no, .no, .no, .no, .no, .no, .no] := setD (s := .no) rfl rfl rfl
  obtain ⟨b, o1, e1, b1, ok1⟩ := tk (st := [.o (some 0) o, .d (.int (n : Nat)), .d (.str alphS), .no, .no, .no, .no, .no, .no, .no]) rfl ok (n := 26) (by decide) (by decide)
  have h2 : sPar 7 8 (mFz (Tk 26)) (mLst aNil) [.o (some 0) o, .d (.int (n : Nat)), .d (.str alphS), .no, .no, .no, .no, .no, .no, .no] = .ok .nx [.o (some 0) o1, .d (.int (n : Nat)), .d (.str alphS), .no, .no, .no, .no, .d (.int (b : Nat)), .o none (.lst []), .no] := by
    have e1' := fzd e1
    unfold sPar
    rw [bnd_ok e1']
    rfl
  obtain ⟨a, hh, o2, e2, ha, hh2, ok2⟩ := tkR (st := [.o (some 0) o1, .d (.int (n : Nat)), .d (.str alphS), .no, .no, .no, .no, .d (.int (b : Nat)), .o none (.lst []), .no]) rfl rfl ok1 (n := 4) (by decide) (by decide)
  have h3 := setD (i := 3) (s := .no) (fzd e2) rfl rfl
  obtain ⟨c, t, o3, e3, hc, ht2, ok3⟩ := tkR (st := [.o (some 0) o2, .d (.int (n : Nat)), .d (.str alphS), .d (.str (strRep (lt a) hh)), .no, .no, .no, .d (.int (b : Nat)), .o none (.lst []), .no]) rfl rfl ok2 (n := 4) (by decide) (by decide)
  have h4 := setD (i := 4) (s := .no) (fzd e3) rfl rfl
  obtain ⟨kd, o4, e4, k4, ok4⟩ := tk (st := [.o (some 0) o3, .d (.int (n : Nat)), .d (.str alphS), .d (.str (strRep (lt a) hh)), .d (.str (strRep (lt c) t)), .no, .no, .d (.int (b : Nat)), .o none (.lst []), .no]) rfl ok3 (n := 2) (by decide) (by decide)
  have h5 := setD (i := 5) (s := .no) (fzd e4) rfl rfl
  obtain ⟨o5, tv, sv, names, q, ok5, hl, hp⟩ := nm_loop (kind := (kd : Nat)) (n := n) (b := b) (h := hh) (t := t) (a := a) (c := c) ok4 ha hc (by omega) (by omega) hn
  refine ⟨names, o5, ?_, ok5, hl, nms_nodup (by omega) hp, fun x hx => ?_⟩
  · have h6 : sSeq fo_law_names_1 (sRet (mV 8)) (nmS o4 (n : Nat) (kd : Nat) (b : Nat) (strRep (lt a) hh) (strRep (lt c) t) .no .no []) = .ok (.ret (.o (.lst (names.map .str)))) [.o (some 0) o5, .d (.int (n : Nat)), .d (.str alphS), .d (.str (strRep (lt a) hh)), .d (.str (strRep (lt c) t)), .d (.int (kd : Nat)), tv, .d (.int (b : Nat)), .no, sv] := by
      refine seq_nx q ?_
      unfold nmS
      generalize names.map D.str = NN
      generalize strRep (lt a) hh = A
      generalize strRep (lt c) t = C
      generalize alphS = L
      rfl
    have h7 : m_law_names [.o (some 0) o, .d (.int (n : Nat)), .no, .no, .no, .no, .no, .no, .no, .no] = .ok (.ret (.o (.lst (names.map .str)))) [.o (some 0) o5, .d (.int (n : Nat)), .d (.str alphS), .d (.str (strRep (lt a) hh)), .d (.str (strRep (lt c) t)), .d (.int (kd : Nat)), tv, .d (.int (b : Nat)), .no, sv] := seq_nx h1 (seq_nx h2 (seq_nx h3 (seq_nx h4 (seq_nx h5 h6))))
    unfold fn_law_names
    rw [fn_of_m (st := [.o (some 0) o, .d (.int (n : Nat)), .no, .no, .no, .no, .no, .no, .no, .no]) rfl h7]
    rfl
  · obtain ⟨k, hk⟩ := List.getElem?_of_mem hx
    exact (hp k x hk).ok
end k15
end DP
end
section
set_option Elab.async false
set_option linter.all false
set_option maxRecDepth 100000
set_option maxHeartbeats 1000000
namespace DP
namespace k15
open PySem PySem.Spec PyProof.Rows L2
theorem mcallR2w {F : Fn} {i : Nat} {m : M W} {t : Option Nat} {o o0 o' : OD} {x : D} {w w1 : W} {st st1 : St} (h0 : st[i]? = some (.o t o0)) (hm : m st = .ok w1 st1) (hw : argW w1 = .d x) (hi : st1[i]? = some (.o t o)) (h : F [.r o, .d x] = .ok w [o']) : mCall 2 F [] (aCons (mV i) (aCons m aNil)) st = .ok w (st1.set i (.o t o')) := by
  have e := aC2 (show mV i st = .ok (.b i) st by unfold mV; rw [h0]) hm
  rw [hw] at e
  exact (bnd_ok e).trans (callR2 hi h)
/-- one of two numbers -/
noncomputable abbrev Pk2 (a b : Int) : M W := mCall 2 fn_law_pick [] (aCons (mV 0) (aCons (mLst (aCons (mC (.int a)) (aCons (mC (.int b)) (aNil)))) (aNil)))
theorem lst2 {a b : Int} {st : St} : mLst (aCons (mC (.int a)) (aCons (mC (.int b)) (aNil))) st = .ok (.o (.lst [.int a, .int b])) st := by rfl
theorem pk2 {st : St} {o : OD} (h0 : st[0]? = some (.o (some 0) o)) (ok : RowOk o) (a b : Int) : ∃ (v : Int) (o' : OD), Pk2 a b st = .ok (.d (.int v)) (st.set 0 (.o (some 0) o')) ∧ (v = a ∨ v = b) ∧ RowOk o' := by
  obtain ⟨d, o', e, hd, ok'⟩ := pick_ok ok (ds := [.int a, .int b]) (by simp) (by simp)
  have q := mcallR2w h0 (lst2 (a := a) (b := b)) rfl h0 e
  simp only [List.mem_cons, List.not_mem_nil, or_false] at hd
  rcases hd with rfl | rfl
  · exact ⟨a, o', q, .inl rfl, ok'⟩
  · exact ⟨b, o', q, .inr rfl, ok'⟩
/-- a draw below a number that is itself drawn -/
theorem tkPk {st : St} {o : OD} (h0 : st[0]? = some (.o (some 0) o)) (ok : RowOk o) {a b : Int} (ha : 0 < a) (hab : a ≤ b) (hb : b < 1073741824) : ∃ (v : Nat) (o' : OD), mCall 2 fn_law_taken [] (aCons (mV 0) (aCons (Pk2 a b) (aNil))) st = .ok (.d (.int (v : Nat))) (st.set 0 (.o (some 0) o')) ∧ (v : Int) < b ∧ RowOk o' := by
  obtain ⟨n, o1, e1, hn, ok1⟩ := pk2 h0 ok a b
  obtain ⟨v, o2, e2, v0, v1, ok2⟩ := taken_ok ok1 (many := n) (by omega) (by omega)
  obtain ⟨k, rfl⟩ := Int.eq_ofNat_of_zero_le v0
  have q := mcallR2 h0 e1 (set0_get h0) e2
  rw [List.set_set] at q
  exact ⟨k, o2, q, by omega, ok2⟩
theorem addOne {m : M W} {st st1 : St} {k : Int} (h : m st = .ok (.d (.int k)) st1) : m2 fAdd (mC (.int 1)) m st = .ok (.d (.int (1 + k))) st1 := by
  unfold m2
  rw [bnd_ok (show mC (.int 1) st = .ok (.d (.int 1)) st from rfl), bnd_ok h]
  rfl
end k15
end DP
end
section
set_option Elab.async false
set_option linter.all false
set_option maxRecDepth 100000
set_option maxHeartbeats 1000000
namespace DP
namespace k15
open PySem PySem.Spec PyProof.Rows L2
def hS (o : OD) (wide : Int) (nv : Sl) (names : List Str) (rs : List Row) (a l : Sl) : St := [.o (some 0) o, .d (.int wide), nv, .d (.lst (names.map .str)), .o none (.lst (rs.map rowD)), a, l, .no]
theorem h_lc {o : OD} {wide : Int} {nv a l : Sl} {names : List Str} {rs : List Row} (hl : rs.length ≤ 1000) : lc_law_harness_0 (hS o wide nv names rs a l) = .ok (.o (.lst ((nms_ rs).map .str))) (hS o wide nv names rs a l) := by
  refine mLc_pure (src := .live 4 (rs.map rowD)) (st1 := hS o wide nv names rs a l) (b := fun _ => true) (d := fun it => match it with | .one (.tup (x :: _)) => x | _ => .non) (by rfl) (by rfl) ⟨none, rfl⟩ (fun it hi => ?_) (by simpa [Src.items] using Nat.le_trans hl (by decide)) (by simp [Src.items, rowD, nms_, Function.comp_def, filterT]) (by rfl)
  simp only [Src.items, List.map_map, List.mem_map, Function.comp] at hi
  obtain ⟨r, hr, rfl⟩ := hi
  exact ⟨[.o (some 0) o, .d (.int wide), nv, .d (.lst (names.map .str)), .o none (.lst (rs.map rowD)), a, l, .d (rowD r)], rfl, rfl, rfl, fun _ => ⟨.d (.str r.nm), by rfl, rfl⟩⟩
/-- where a wire may hang -/
def aheadL (rs : List Row) : List Str := srcS :: (nms_ rs ++ nms_ rs)
theorem h_ahead {o : OD} {wide : Int} {nv a l : Sl} {names : List Str} {rs : List Row} (hl : rs.length ≤ 100) (fa : freeS a = true) : sSet 5 (mFz (m2 fAdd (mLst (aCons (mC (.str "source")) (aNil))) (m2 fMul (lc_law_harness_0) (mC (.int 2))))) (hS o wide nv names rs a l) = .ok .nx (hS o wide nv names rs (.d (.lst ((aheadL rs).map .str))) l) := by
  have e1 := h_lc (o := o) (wide := wide) (nv := nv) (a := a) (l := l) (names := names) (rs := rs) (by omega)
  have hn : ((nms_ rs).map D.str).length ≤ 100 := by unfold nms_; simpa using hl
  have e2 : m2 fMul (lc_law_harness_0) (mC (.int 2)) (hS o wide nv names rs a l) = .ok (.o (.lst ((nms_ rs).map D.str ++ (nms_ rs).map D.str))) (hS o wide nv names rs a l) := by
    generalize lc_law_harness_0 = L at e1 ⊢
    unfold m2
    rw [bnd_ok e1, bnd_ok (show mC (.int 2) (hS o wide nv names rs a l) = .ok (.d (.int 2)) (hS o wide nv names rs a l) from rfl)]
    generalize (nms_ rs).map D.str = N at hn ⊢
    have z : N.length * 2 ≤ sizeLine := leSz (by omega)
    simp [fMul, rd, fz, z, List.replicate]
  have e3 : m2 fAdd (mLst (aCons (mC (.str "source")) (aNil))) (m2 fMul (lc_law_harness_0) (mC (.int 2))) (hS o wide nv names rs a l) = .ok (.o (.lst ((aheadL rs).map .str))) (hS o wide nv names rs a l) := by
    have ea : (aheadL rs).map D.str = [.str srcS] ++ ((nms_ rs).map D.str ++ (nms_ rs).map D.str) := by unfold aheadL; simp
    rw [ea]
    generalize m2 fMul (lc_law_harness_0) (mC (.int 2)) = M2 at e2 ⊢
    unfold m2
    rw [bnd_ok (show mLst (aCons (mC (.str "source")) (aNil)) (hS o wide nv names rs a l) = .ok (.o (.lst [.str srcS])) (hS o wide nv names rs a l) from rfl), bnd_ok e2]
    generalize (nms_ rs).map D.str = N at hn ⊢
    have z : N.length + N.length + 1 ≤ sizeLine := leSz (by omega)
    simp [fAdd, rd, fz]
    omega
  have e4 : mFz (m2 fAdd (mLst (aCons (mC (.str "source")) (aNil))) (m2 fMul (lc_law_harness_0) (mC (.int 2)))) (hS o wide nv names rs a l) = .ok (.d (.lst ((aheadL rs).map .str))) (hS o wide nv names rs a l) := by
    generalize m2 fAdd (mLst (aCons (mC (.str "source")) (aNil))) (m2 fMul (lc_law_harness_0) (mC (.int 2))) = M3 at e3 ⊢
    exact (bnd_ok e3).trans rfl
  exact setD (i := 5) (s := a) e4 rfl fa
end k15
end DP
end
section
set_option Elab.async false
set_option linter.all false
set_option maxRecDepth 100000
set_option maxHeartbeats 1000000
namespace DP
namespace k15
open PySem PySem.Spec PyProof.Rows L2
theorem aCok {m : M W} {ms : M (List W)} {st st1 st2 : St} {w : W} {ws : List W} (h1 : m st = .ok w st1) (h2 : ms st1 = .ok ws st2) : aCons m ms st = .ok (argW w :: ws) st2 := by
  unfold aCons
  rw [bnd_ok h1]
  exact (bnd_ok h2).trans rfl
theorem mVd {i : Nat} {x : D} {st : St} (h : st[i]? = some (.d x)) : mV i st = .ok (.d x) st := by unfold mV; rw [h]
theorem tk_m {m : M W} {st : St} {o : OD} {n : Int} (h0 : st[0]? = some (.o (some 0) o)) (hm : m st = .ok (.d (.int n)) st) (ok : RowOk o) (h1 : 0 < n) (h2 : n < 1073741824) : ∃ (v : Nat) (o' : OD), mCall 2 fn_law_taken [] (aCons (mV 0) (aCons m (aNil))) st = .ok (.d (.int (v : Nat))) (st.set 0 (.o (some 0) o')) ∧ (v : Int) < n ∧ RowOk o' := by
  obtain ⟨v, o', e, v0, v1, ok'⟩ := taken_ok ok h1 h2
  obtain ⟨k, rfl⟩ := Int.eq_ofNat_of_zero_le v0
  exact ⟨k, o', mcallR2 h0 hm h0 e, v1, ok'⟩
noncomputable abbrev Fuse : M W := mCall 2 fn_law_pick [] (aCons (mV 0) (aCons (mLst (aCons (mC (.int 0)) (aCons (mC (.int 5)) (aCons (mC (.int 20)) (aCons (mC (.int 90)) (aCons (Tk 1000) (aNil))))))) (aNil)))
theorem fuse_ok {st : St} {o : OD} (h0 : st[0]? = some (.o (some 0) o)) (ok : RowOk o) : ∃ (v : Int) (o' : OD), Fuse st = .ok (.d (.int v)) (st.set 0 (.o (some 0) o')) ∧ 0 ≤ v ∧ v ≤ 999 ∧ RowOk o' := by
  obtain ⟨k, o1, e1, hk, ok1⟩ := tk h0 ok (n := 1000) (by decide) (by decide)
  have l : mLst (aCons (mC (.int 0)) (aCons (mC (.int 5)) (aCons (mC (.int 20)) (aCons (mC (.int 90)) (aCons (Tk 1000) (aNil)))))) st = .ok (.o (.lst [.int 0, .int 5, .int 20, .int 90, .int (k : Nat)])) (st.set 0 (.o (some 0) o1)) := by
    have q := aCok (m := mC (.int 0)) (st := st) rfl (aCok (m := mC (.int 5)) rfl (aCok (m := mC (.int 20)) rfl (aCok (m := mC (.int 90)) rfl (aC1 e1))))
    unfold mLst
    rw [bnd_ok q]
    rfl
  obtain ⟨d, o2, e2, hd, ok2⟩ := pick_ok ok1 (ds := [.int 0, .int 5, .int 20, .int 90, .int (k : Nat)]) (by simp) (by simp)
  have q := mcallR2w h0 l rfl (set0_get h0) e2
  rw [List.set_set] at q
  simp only [List.mem_cons, List.not_mem_nil, or_false] at hd
  rcases hd with rfl | rfl | rfl | rfl | rfl
  · exact ⟨_, o2, q, by omega, by omega, ok2⟩
  · exact ⟨_, o2, q, by omega, by omega, ok2⟩
  · exact ⟨_, o2, q, by omega, by omega, ok2⟩
  · exact ⟨_, o2, q, by omega, by omega, ok2⟩
  · exact ⟨_, o2, q, by omega, by omega, ok2⟩
end k15
end DP
end
section
set_option Elab.async false
set_option linter.all false
set_option maxRecDepth 100000
set_option maxHeartbeats 1000000
namespace DP
namespace k15
open PySem PySem.Spec PyProof.Rows L2
noncomputable abbrev RowM : M W := mTup (aCons (mV 2) (aCons (mCall 2 fn_law_pick [] (aCons (mV 0) (aCons (mV 5) (aNil)))) (aCons (m2 fAdd (mC (.int 1)) (mCall 2 fn_law_taken [] (aCons (mV 0) (aCons (bnd (aCons (mC (.int 99)) (aCons (mV 1) (aNil))) (rdL2 gMin2)) (aNil))))) (aCons (mV 6) (aCons Fuse (aNil))))))
theorem min99 {st : St} {wide : Int} (h1 : st[1]? = some (.d (.int wide))) (hw : wide = 5 ∨ wide = 100) : ∃ n : Int, bnd (aCons (mC (.int 99)) (aCons (mV 1) (aNil))) (rdL2 gMin2) st = .ok (.d (.int n)) st ∧ 0 < n ∧ n ≤ 99 := by
  have q := aCok (m := mC (.int 99)) (st := st) rfl (aC1 (mVd h1))
  rcases hw with rfl | rfl
  · exact ⟨5, (bnd_ok q).trans rfl, by decide, by decide⟩
  · exact ⟨99, (bnd_ok q).trans rfl, by decide, by decide⟩
theorem h_row {o : OD} {wide load : Int} {x : Str} {names : List Str} {rs : List Row} (ok : RowOk o) (hw : wide = 5 ∨ wide = 100) (hl : rs.length ≤ 100) : ∃ (y : Str) (ohm fuse : Int) (o' : OD), RowM (hS o wide (.d (.str x)) names rs (.d (.lst ((aheadL rs).map .str))) (.d (.int load))) = .ok (.d (rowD ⟨x, y, ohm, load, fuse⟩)) (hS o' wide (.d (.str x)) names rs (.d (.lst ((aheadL rs).map .str))) (.d (.int load))) ∧ y ∈ aheadL rs ∧ (1 ≤ ohm ∧ ohm ≤ 99) ∧ (0 ≤ fuse ∧ fuse ≤ 999) ∧ RowOk o' := by
  obtain ⟨d, o1, e1, hd, ok1⟩ := pick_ok ok (ds := (aheadL rs).map .str) (by unfold aheadL; simp) (by unfold aheadL nms_; simp; omega)
  obtain ⟨y, hy, rfl⟩ := List.mem_map.mp hd
  have p2 := mcallR2 (F := fn_law_pick) (i := 0) (m := mV 5) (t := some 0) (o0 := o) (o := o) (st := hS o wide (.d (.str x)) names rs (.d (.lst ((aheadL rs).map .str))) (.d (.int load))) rfl (mVd rfl) rfl e1
  obtain ⟨n, en, n1, n2⟩ := min99 (st := hS o1 wide (.d (.str x)) names rs (.d (.lst ((aheadL rs).map .str))) (.d (.int load))) rfl hw
  obtain ⟨v, o2, e2, hv, ok2⟩ := tk_m (st := hS o1 wide (.d (.str x)) names rs (.d (.lst ((aheadL rs).map .str))) (.d (.int load))) rfl en ok1 n1 (by omega)
  have p3 := addOne e2
  obtain ⟨fuse, o3, e3, f1, f2, ok3⟩ := fuse_ok (st := hS o2 wide (.d (.str x)) names rs (.d (.lst ((aheadL rs).map .str))) (.d (.int load))) rfl ok2
  refine ⟨y, 1 + (v : Nat), fuse, o3, ?_, hy, ⟨by omega, by omega⟩, ⟨f1, f2⟩, ok3⟩
  have q := aCok (m := mV 2) (st := hS o wide (.d (.str x)) names rs (.d (.lst ((aheadL rs).map .str))) (.d (.int load))) (mVd rfl) (aCok p2 (aCok p3 (aCok (m := mV 6) (mVd rfl) (aC1 e3))))
  unfold RowM mTup
  rw [bnd_ok q]
  rfl
end k15
end DP
end
section
set_option Elab.async false
set_option linter.all false
set_option maxRecDepth 100000
set_option maxHeartbeats 1000000
namespace DP
namespace k15
open PySem PySem.Spec PyProof.Rows L2
theorem h_test {o : OD} {wide : Int} {x : Str} {a l : Sl} {names : List Str} {rs : List Row} (hx : NmOk x) : mB (m2 fNe (mV 2) (mC (.str "source"))) (hS o wide (.d (.str x)) names rs a l) = .ok (!(x == srcS)) (hS o wide (.d (.str x)) names rs a l) := by
  have e : eqD (.str x) (.str srcS) = some (x == srcS) := eqD_str hx.ok src_ok.ok
  have q : m2 fNe (mV 2) (mC (.str "source")) (hS o wide (.d (.str x)) names rs a l) = .ok (.d (.bl (!(x == srcS)))) (hS o wide (.d (.str x)) names rs a l) := by
    unfold m2
    rw [bnd_ok (mVd (i := 2) (x := .str x) rfl), bnd_ok (show mC (.str "source") (hS o wide (.d (.str x)) names rs a l) = .ok (.d (.str srcS)) (hS o wide (.d (.str x)) names rs a l) from rfl)]
    simp [rd2, rd, gNe, e]
  unfold mB
  rw [bnd_ok q]
  rfl
theorem h_body {o : OD} {wide : Int} {x : Str} {a l : Sl} {names : List Str} {rs : List Row} (ok : RowOk o) (hw : wide = 5 ∨ wide = 100) (hl : rs.length ≤ 100) (hx : NmOk x) (fa : freeS a = true) (fl : freeS l = true) :
    ∃ (o' : OD) (a' l' : Sl) (rs' : List Row), bo_law_harness_1 (hS o wide (.d (.str x)) names rs a l) = .ok .nx (hS o' wide (.d (.str x)) names rs' a' l') ∧ freeS a' = true ∧ freeS l' = true ∧ RowOk o' ∧
      ((x = srcS ∧ rs' = rs) ∨ (x ≠ srcS ∧ ∃ r : Row, rs' = rs ++ [r] ∧ r.nm = x ∧ r.fr ∈ aheadL rs ∧ (1 ≤ r.ohm ∧ r.ohm ≤ 99) ∧ (0 ≤ r.load ∧ r.load ≤ 99) ∧ (0 ≤ r.fuse ∧ r.fuse ≤ 999))) := by
  have ht := h_test (o := o) (wide := wide) (a := a) (l := l) (names := names) (rs := rs) hx
  by_cases hs : x = srcS
  · refine ⟨o, a, l, rs, ?_, fa, fl, ok, .inl ⟨hs, rfl⟩⟩
    have hb : (!(x == srcS)) = false := by simp [hs]
    rw [hb] at ht
    unfold bo_law_harness_1 sIf
    rw [bnd_ok ht]
    rfl
  · have hb : (!(x == srcS)) = true := by simp [hs]
    rw [hb] at ht
    have s5 := h_ahead (o := o) (wide := wide) (nv := .d (.str x)) (a := a) (l := l) (names := names) (rs := rs) hl fa
    obtain ⟨v, o1, e1, hv, ok1⟩ := tkPk (st := hS o wide (.d (.str x)) names rs (.d (.lst ((aheadL rs).map .str))) l) rfl ok (a := 1) (b := 12) (by decide) (by decide) (by decide)
    have s6 := setD (i := 6) (s := l) (fzd e1) rfl fl
    obtain ⟨y, ohm, fuse, o2, e2, hy, h1, h2, ok2⟩ := h_row (o := o1) (wide := wide) (load := (v : Nat)) (x := x) (names := names) (rs := rs) ok1 hw hl
    have s7 := appV (i := 4) (t := none) (ds := rs.map rowD) (ds1 := rs.map rowD) rfl e2 rfl (by rw [List.length_map]; omega)
    refine ⟨o2, .d (.lst ((aheadL rs).map .str)), .d (.int (v : Nat)), rs ++ [⟨x, y, ohm, (v : Nat), fuse⟩], ?_, rfl, rfl, ok2, .inr ⟨hs, _, rfl, rfl, hy, h1, ⟨show (0 : Int) ≤ (v : Nat) by omega, show ((v : Nat) : Int) ≤ 99 by omega⟩, h2⟩⟩
    have e3 : hS o2 wide (.d (.str x)) names (rs ++ [⟨x, y, ohm, (v : Nat), fuse⟩]) (.d (.lst ((aheadL rs).map .str))) (.d (.int (v : Nat))) = (hS o2 wide (.d (.str x)) names rs (.d (.lst ((aheadL rs).map .str))) (.d (.int (v : Nat)))).set 4 (.o none (.lst (rs.map rowD ++ [rowD ⟨x, y, ohm, (v : Nat), fuse⟩]))) := by
      unfold hS; rw [List.map_append]; rfl
    rw [e3]
    unfold bo_law_harness_1 sIf
    rw [bnd_ok ht]
    simp only [if_true]
    exact seq_nx s5 (seq_nx s6 s7)
end k15
end DP
end
section
set_option Elab.async false
set_option linter.all false
set_option maxRecDepth 100000
set_option maxHeartbeats 1000000
namespace DP
namespace k15
open PySem PySem.Spec PyProof.Rows L2
/-- the rows drawn so far, the names walked so far -/
structure Pre (rs : List Row) (pre : List Str) : Prop where
  len : rs.length ≤ pre.length
  sub : ∀ x ∈ nms_ rs, x ∈ pre
  nd : (nms_ rs).Nodup
  nm : ∀ r ∈ rs, NmOk r.nm ∧ r.nm ≠ srcS
  up : ∀ (i : Nat) (r : Row), rs[i]? = some r → r.fr = srcS ∨ ∃ j, j < i ∧ ∃ q, rs[j]? = some q ∧ r.fr = q.nm
  rg : ∀ r ∈ rs, (1 ≤ r.ohm ∧ r.ohm ≤ 99) ∧ (0 ≤ r.load ∧ r.load ≤ 99) ∧ (0 ≤ r.fuse ∧ r.fuse ≤ 999)
theorem Pre.skip {rs : List Row} {pre : List Str} {x : Str} (p : Pre rs pre) : Pre rs (pre ++ [x]) := ⟨by rw [List.length_append]; have := p.len; omega, fun y hy => List.mem_append_left _ (p.sub y hy), p.nd, p.nm, p.up, p.rg⟩
theorem Pre.add {rs : List Row} {pre : List Str} {r : Row} (p : Pre rs pre) (hx : NmOk r.nm) (hs : r.nm ≠ srcS) (hn : r.nm ∉ pre) (hf : r.fr ∈ aheadL rs) (h1 : 1 ≤ r.ohm ∧ r.ohm ≤ 99) (h2 : 0 ≤ r.load ∧ r.load ≤ 99) (h3 : 0 ≤ r.fuse ∧ r.fuse ≤ 999) : Pre (rs ++ [r]) (pre ++ [r.nm]) := by
  have en : nms_ (rs ++ [r]) = nms_ rs ++ [r.nm] := by unfold nms_; simp
  refine ⟨?_, fun y hy => ?_, ?_, fun q hq => ?_, fun i q hi => ?_, fun q hq => ?_⟩
  · rw [List.length_append, List.length_append]; have := p.len; simp; omega
  · rw [en] at hy
    rcases List.mem_append.mp hy with z | z
    · exact List.mem_append_left _ (p.sub y z)
    · exact List.mem_append_right _ z
  · rw [en, nodup_app]
    refine ⟨p.nd, by simp, fun y hy z => ?_⟩
    obtain rfl : y = r.nm := by simpa using z
    exact hn (p.sub _ hy)
  · rcases List.mem_append.mp hq with z | z
    · exact p.nm q z
    · obtain rfl : q = r := by simpa using z
      exact ⟨hx, hs⟩
  · by_cases hil : i < rs.length
    · rw [List.getElem?_append_left hil] at hi
      rcases p.up i q hi with z | ⟨j, hj, w, e1, e2⟩
      · exact .inl z
      · exact .inr ⟨j, hj, w, by rw [List.getElem?_append_left (by omega)]; exact e1, e2⟩
    · rw [List.getElem?_append_right (by omega)] at hi
      have hi0 : i = rs.length := by
        have := (List.getElem?_eq_some_iff.mp hi).1
        simp at this; omega
      subst hi0
      rw [Nat.sub_self] at hi
      obtain rfl : r = q := by simpa using hi
      unfold aheadL at hf
      rcases List.mem_cons.mp hf with z | z
      · exact .inl z
      · have hm : r.fr ∈ nms_ rs := (List.mem_append.mp z).elim id id
        obtain ⟨w, hw, e⟩ := List.mem_map.mp hm
        obtain ⟨j, hj⟩ := List.getElem?_of_mem hw
        have hjl := (List.getElem?_eq_some_iff.mp hj).1
        exact .inr ⟨j, hjl, w, by rw [List.getElem?_append_left hjl]; exact hj, e.symm⟩
  · rcases List.mem_append.mp hq with z | z
    · exact p.rg q z
    · obtain rfl : q = r := by simpa using z
      exact ⟨h1, h2, h3⟩
theorem h_loop {wide : Int} {names : List Str} (hw : wide = 5 ∨ wide = 100) : ∀ (rest pre : List Str) (o : OD) (rs : List Row) (nv a l : Sl), (∀ x ∈ rest, NmOk x) → (pre ++ rest).Nodup → (pre ++ rest).length ≤ 10 → Pre rs pre → RowOk o → freeS nv = true → freeS a = true → freeS l = true →
    ∃ (o' : OD) (rs' : List Row) (nv' a' l' : Sl), forL (tgN 2) bo_law_harness_1 ((rest.map D.str).map .one) (hS o wide nv names rs a l) = .ok .nx (hS o' wide nv' names rs' a' l') ∧ Pre rs' (pre ++ rest) ∧ RowOk o'
  | [], pre, o, rs, nv, a, l, _, _, _, p, ok, _, _, _ => ⟨o, rs, nv, a, l, rfl, by rw [List.append_nil]; exact p, ok⟩
  | x :: rest, pre, o, rs, nv, a, l, hx, nd, hl, p, ok, fn, fa, fl => by
    have et : tgN 2 (.one (.str x)) (hS o wide nv names rs a l) = .ok () (hS o wide (.d (.str x)) names rs a l) := by simp [tgN, setN, hS, fn]
    have hlr : rs.length ≤ 100 := by have := p.len; simp at hl; omega
    obtain ⟨o1, a1, l1, rs1, e, fa1, fl1, ok1, h⟩ := h_body ok hw hlr (hx x List.mem_cons_self) fa fl (names := names)
    have hxp : x ∉ pre := fun z => (nodup_app.mp nd).2.2 x z List.mem_cons_self
    have ea : pre ++ x :: rest = (pre ++ [x]) ++ rest := by simp
    have p1 : Pre rs1 (pre ++ [x]) := by
      rcases h with ⟨_, rfl⟩ | ⟨hs, r, rfl, rfl, h1, h2, h3, h4⟩
      · exact p.skip
      · exact p.add (hx _ List.mem_cons_self) hs hxp h1 h2 h3 h4
    rw [ea] at nd hl ⊢
    obtain ⟨o2, rs2, nv2, a2, l2, q, p2, ok2⟩ := h_loop hw rest (pre ++ [x]) o1 rs1 (.d (.str x)) a1 l1 (fun y hy => hx y (List.mem_cons_of_mem _ hy)) nd hl p1 ok1 rfl fa1 fl1
    refine ⟨o2, rs2, nv2, a2, l2, ?_, p2, ok2⟩
    show forL (tgN 2) bo_law_harness_1 (.one (.str x) :: (rest.map D.str).map .one) _ = _
    unfold forL
    simp only [et]
    rw [bnd_ok e]
    exact q
end k15
end DP
end
section
set_option Elab.async false
set_option linter.all false
set_option maxRecDepth 100000
set_option maxHeartbeats 1000000
namespace DP
namespace k15
open PySem PySem.Spec PyProof.Rows L2
theorem fzo {m : M W} {l : List D} {st st1 : St} (h : m st = .ok (.o (.lst l)) st1) : mFz m st = .ok (.d (.lst l)) st1 := (bnd_ok h).trans rfl
/-- the two first assignments -/
theorem h_names {o : OD} (ok : RowOk o) : ∃ (names : List Str) (o' : OD), sPar 3 4 (mFz (mCall 2 fn_law_names [] (aCons (mV 0) (aCons (m2 fAdd (mC (.int 1)) (mCall 2 fn_law_taken [] (aCons (mV 0) (aCons (Pk2 3 10) (aNil))))) (aNil))))) (mLst (aNil)) [.o (some 0) o, .no, .no, .no, .no, .no, .no, .no] = .ok .nx [.o (some 0) o', .no, .no, .d (.lst (names.map .str)), .o none (.lst []), .no, .no, .no] ∧ RowOk o' ∧ 1 ≤ names.length ∧ names.length ≤ 10 ∧ names.Nodup ∧ ∀ x ∈ names, NmOk x := by
  obtain ⟨v, o1, e1, hv, ok1⟩ := tkPk (st := [.o (some 0) o, .no, .no, .no, .no, .no, .no, .no]) rfl ok (a := 3) (b := 10) (by decide) (by decide) (by decide)
  obtain ⟨names, o2, e2, ok2, hn, nd, hx⟩ := names_ok ok1 (n := 1 + v) (by omega)
  refine ⟨names, o2, ?_, ok2, by omega, by omega, nd, hx⟩
  have e3 := fzo (mcallR2 (i := 0) rfl (addOne e1) (set0_get rfl) (by simpa using e2))
  unfold sPar
  rw [bnd_ok e3]
  rfl
theorem h_wide {o : OD} (ok : RowOk o) (names : List Str) : ∃ (wide : Int) (o' : OD), sSet 1 (Pk2 5 100) [.o (some 0) o, .no, .no, .d (.lst (names.map .str)), .o none (.lst []), .no, .no, .no] = .ok .nx (hS o' wide .no names [] .no .no) ∧ RowOk o' ∧ (wide = 5 ∨ wide = 100) := by
  obtain ⟨v, o1, e1, hv, ok1⟩ := pk2 (st := [.o (some 0) o, .no, .no, .d (.lst (names.map .str)), .o none (.lst []), .no, .no, .no]) rfl ok 5 100
  exact ⟨v, o1, setD (s := .no) e1 rfl rfl, ok1, hv⟩
theorem h_for {o : OD} {wide : Int} {names : List Str} (ok : RowOk o) (hw : wide = 5 ∨ wide = 100) (hx : ∀ x ∈ names, NmOk x) (nd : names.Nodup) (hl : names.length ≤ 10) : ∃ (o' : OD) (rs' : List Row) (nv' a' l' : Sl), fo_law_harness_2 (hS o wide .no names [] .no .no) = .ok .nx (hS o' wide nv' names rs' a' l') ∧ Pre rs' names ∧ RowOk o' := by
  obtain ⟨o2, rs2, nv2, a2, l2, q, p2, ok2⟩ := h_loop hw names [] o [] .no .no .no hx nd hl ⟨by simp, by simp [nms_], by simp [nms_], by simp, by simp, by simp⟩ ok rfl rfl rfl
  refine ⟨o2, rs2, nv2, a2, l2, ?_, p2, ok2⟩
  unfold fo_law_harness_2 sFor
  rw [bnd_ok (show mSeq (mV 3) (hS o wide .no names [] .no .no) = .ok (.fz ((names.map D.str).map .one)) (hS o wide .no names [] .no .no) from srcD rfl)]
  exact q
end k15
end DP
end
section
set_option Elab.async false
set_option linter.all false
set_option maxRecDepth 100000
set_option maxHeartbeats 1000000
namespace DP
namespace k15
open PySem PySem.Spec PyProof.Rows L2
def rowP (r : Row) : PyData := .tuple [.str r.nm, .str r.fr, .int r.ohm, .int r.load, .int r.fuse]
theorem toPs_rows {rs : List Row} : toPs (rs.map rowD) = some (rs.map rowP) := by
  induction rs with
  | nil => simp [toPs]
  | cons x xs ih => simp [toPs, toP, ih, rowD, rowP]
theorem lay_rows {rs : List Row} (h : ∀ r ∈ rs, PyData.strOk r.nm = true ∧ PyData.strOk r.fr = true) : PyData.canLayAll0 (rs.map rowP) = true := by
  induction rs with
  | nil => simp [PyData.canLayAll0]
  | cons x xs ih => simp [PyData.canLayAll0, PyData.canLay0, rowP, h x (by simp), ih fun y hy => h y (by simp [hy])]
theorem depth_rows {rs : List Row} : PyData.depthAll (rs.map rowP) ≤ 63 := by
  induction rs with
  | nil => simp [PyData.depthAll]
  | cons x xs ih => simp [PyData.depthAll, PyData.depth, rowP]; omega
theorem Pre.fr {rs : List Row} {pre : List Str} (p : Pre rs pre) : ∀ r ∈ rs, PyData.strOk r.nm = true ∧ PyData.strOk r.fr = true := by
  intro r hr
  refine ⟨(p.nm r hr).1.ok, ?_⟩
  obtain ⟨i, hi⟩ := List.mem_iff_getElem?.mp hr
  rcases p.up i r hi with h | ⟨j, hj, q, hq, e⟩
  · rw [h]; decide +kernel
  · rw [e]; exact (p.nm q (List.mem_of_getElem? hq)).1.ok
theorem Pre.good {rs : List Row} {pre : List Str} (p : Pre rs pre) (hl : pre.length ≤ 10) (h1 : rs ≠ []) : Good rs := ⟨List.length_pos_iff.mpr h1, Nat.le_trans p.len hl, p.nd, p.nm, p.up, p.rg⟩
def mainR : Row := ⟨"main", "source", 3, 2, 10⟩
theorem good_main : Good [mainR] := by
  refine ⟨by decide, by decide, by simp [nms_], ?_, ?_, ?_⟩
  · intro r hr; simp only [List.mem_singleton] at hr; subst hr
    exact ⟨⟨by decide, by decide, by decide⟩, by decide⟩
  · intro i r hi
    cases i with
    | zero => simp at hi; subst hi; exact .inl rfl
    | succ i => simp at hi
  · intro r hr; simp only [List.mem_singleton] at hr; subst hr; decide
theorem h_if {o : OD} {wide : Int} {nv a l : Sl} {names : List Str} {rs : List Row} (p : Pre rs names) (hl : names.length ≤ 10) : ∃ rs' : List Row, sIf (mB (m2 fEq (mV 4) (mLst (aNil)))) (sSet 4 (mLst (aCons (mTup (aCons (mC (.str "main")) (aCons (mC (.str "source")) (aCons (mC (.int 3)) (aCons (mC (.int 2)) (aCons (mC (.int 10)) (aNil))))))) (aNil)))) (sNx) (hS o wide nv names rs a l) = .ok .nx (hS o wide nv names rs' a l) ∧ Good rs' := by
  have e := eqD_nil (toPs_rows (rs := rs)) (lay_rows p.fr) depth_rows
  have eb : mB (m2 fEq (mV 4) (mLst aNil)) (hS o wide nv names rs a l) = .ok rs.isEmpty (hS o wide nv names rs a l) := by
    have e' : gEq (.lst (rs.map rowD)) (.lst []) = some (.bl rs.isEmpty) := by unfold gEq; rw [e]; simp
    generalize hb : rs.isEmpty = b at e'
    clear e hb
    unfold hS
    generalize rs.map rowD = ds at *
    simp [mB, m2, mV, mLst, aNil, bnd, ret, rd, fEq, rd2, e', allD, fz]
  unfold sIf
  rw [bnd_ok eb]
  by_cases h : rs = []
  · subst h
    exact ⟨[mainR], rfl, good_main⟩
  · have : rs.isEmpty = false := by simpa using h
    rw [this]
    exact ⟨rs, rfl, p.good hl h⟩
end k15
end DP
end
section
set_option Elab.async false
set_option linter.all false
set_option maxRecDepth 100000
set_option maxHeartbeats 1000000
namespace DP
namespace k15
open PySem PySem.Spec PyProof.Rows L2
theorem tup3 {ms : M (List W)} {x y z : D} {st st1 : St} (h : ms st = .ok [.d x, .d y, .d z] st1) : mTup ms st = .ok (.d (.tup [x, y, z])) st1 := by
  unfold mTup; rw [bnd_ok h]; rfl
theorem tupV {i : Nat} {ds : List D} {t : Option Nat} {st : St} (h : st[i]? = some (.o t (.lst ds))) : bnd (aCons (mV i) aNil) fTupOf st = .ok (.d (.tup ds)) st := by
  have e := aC1 (show mV i st = .ok (.b i) st by unfold mV; rw [h])
  rw [bnd_ok e]
  simp [argW, fTupOf, rd, h, fz]
theorem h_ret {o : OD} {wide : Int} {nv a l : Sl} {names : List Str} {rs : List Row} (ok : RowOk o) : ∃ (v : Int) (m : Int) (o' : OD), sRet (mTup (aCons (bnd (aCons (mV 4) (aNil)) fTupOf) (aCons (m2 fAdd (mC (.int 1)) (mCall 2 fn_law_taken [] (aCons (mV 0) (aCons (Pk2 200 20000) (aNil))))) (aCons (mCall 2 fn_law_taken [] (aCons (mV 0) (aCons (Pk2 60 2000) (aNil)))) (aNil))))) (hS o wide nv names rs a l) = .ok (.ret (.d (Har.p ⟨rs, v, m⟩))) (hS o' wide nv names rs a l) ∧ RowOk o' ∧ (1 ≤ v ∧ v ≤ 99999) ∧ (0 ≤ m ∧ m ≤ 99999) := by
  have e1 : bnd (aCons (mV 4) aNil) fTupOf (hS o wide nv names rs a l) = .ok (.d (rowsD rs)) (hS o wide nv names rs a l) := tupV (t := none) rfl
  obtain ⟨v, o1, e2, hv, ok1⟩ := tkPk (st := hS o wide nv names rs a l) rfl ok (a := 200) (b := 20000) (by decide) (by decide) (by decide)
  obtain ⟨m, o2, e3, hm, ok2⟩ := tkPk (st := hS o1 wide nv names rs a l) rfl ok1 (a := 60) (b := 2000) (by decide) (by decide) (by decide)
  refine ⟨1 + (v : Int), m, o2, ?_, ok2, by omega, by omega⟩
  have e4 := tup3 (aCok e1 (aCok (addOne e2) (aC1 e3)))
  exact (bnd_ok e4).trans rfl
theorem harness_ok {o : OD} (ok : RowOk o) : ∃ (h : Har) (o' : OD), fn_law_harness [.r o] = .ok (.d h.p) [o'] ∧ HOk h ∧ RowOk o' := by
  obtain ⟨names, o1, e1, ok1, _, hl, nd, hx⟩ := h_names ok
  obtain ⟨wide, o2, e2, ok2, hw⟩ := h_wide ok1 names
  obtain ⟨o3, rs, nv, a, l, e3, p, ok3⟩ := h_for ok2 hw hx nd hl
  obtain ⟨rs2, e4, g⟩ := h_if (o := o3) (wide := wide) (nv := nv) (a := a) (l := l) p hl
  obtain ⟨v, m, o4, e5, ok4, hv, hm⟩ := h_ret (wide := wide) (nv := nv) (a := a) (l := l) (names := names) (rs := rs2) ok3
  refine ⟨⟨rs2, v, m⟩, o4, ?_, ⟨g, hv, hm⟩, ok4⟩
  have e : m_law_harness [.o (some 0) o, .no, .no, .no, .no, .no, .no, .no] = _ := seq_nx e1 (seq_nx e2 (seq_nx e3 (seq_nx e4 e5)))
  exact (fn_of_m rfl e).trans rfl
end k15
end DP
end
section
set_option Elab.async false
set_option linter.all false
set_option maxRecDepth 100000
set_option maxHeartbeats 1000000
namespace DP
namespace k15
open PySem PySem.Spec PyProof.Rows L2
theorem ixC {m : M W} {st st1 : St} {X x : D} {ds : List D} {k : Int} (hX : X = .tup ds ∨ X = .lst ds) (hm : m st = .ok (.d X) st1) (e : L2.atI ds k = some x) : m2 (rd2 gIx) m (mC (.int k)) st = .ok (.d x) st1 := by
  unfold m2
  rw [bnd_ok hm, bnd_ok (show mC (.int k) st1 = .ok (.d (.int k)) st1 from rfl)]
  rcases hX with rfl | rfl <;> simp [rd2, rd, gIx, e]
theorem at_map {n : Nat} {f : Nat → D} {j : Nat} (hj : j < n) : L2.atI (((List.range n).map f)) ((j : Nat) : Int) = some (f j) := by
  rw [atI_nat]; simp [hj]
theorem gtB {a b : M W} {st st1 st2 : St} {x y : Int} (ha : a st = .ok (.d (.int x)) st1) (hb : b st1 = .ok (.d (.int y)) st2) : mB (m2 fGt a b) st = .ok (decide (y < x)) st2 := by
  have e : m2 fGt a b st = .ok (.d (.bl (decide (y < x)))) st2 := by
    unfold m2
    rw [bnd_ok ha, bnd_ok hb]
    simp [rd2, rd, gI]
  unfold mB
  rw [bnd_ok e]
  rfl
theorem andB {a b : M Bool} {st : St} {x y : Bool} (ha : a st = .ok x st) (hb : b st = .ok y st) : mAnd a b st = .ok (x && y) st := by
  unfold mAnd mIf
  rw [bnd_ok ha]
  cases x
  · rfl
  · simpa using hb
theorem rowF {rs : List Row} {st : St} {i : Nat} {j : Nat} (hj : j < rs.length) {k : Int} {x : D} (h4 : st[4]? = some (.d (rowsD rs))) (hi : st[i]? = some (.d (.int (j : Nat)))) (e : L2.atI [.str (rowAt rs j).nm, .str (rowAt rs j).fr, .int (rowAt rs j).ohm, .int (rowAt rs j).load, .int (rowAt rs j).fuse] k = some x) :
    m2 (rd2 gIx) (m2 (rd2 gIx) (mV 4) (mV i)) (mC (.int k)) st = .ok (.d x) st :=
  ixC (.inl rfl) (ixV (.inl rfl) h4 hi (rows_at (rowAt_of hj))) e
theorem chB {a b c : M W} {st : St} {x y z : Int} (ha : a st = .ok (.d (.int x)) st) (hb : b st = .ok (.d (.int y)) st) (hc : c st = .ok (.d (.int z)) st) : mB (mCh fLt fLt a b c) st = .ok (decide (x < y) && decide (y < z)) st := by
  have e : mCh fLt fLt a b c st = .ok (.d (.bl (decide (x < y) && decide (y < z)))) st := by
    unfold mCh
    rw [bnd_ok ha, bnd_ok hb]
    rw [bnd_ok (show fLt (.d (.int x)) (.d (.int y)) st = .ok (.d (.bl (decide (x < y)))) st by simp [rd2, rd, gI])]
    cases decide (x < y)
    · rfl
    · simp only [rd]
      rw [bnd_ok hc]
      simp [rd2, rd, gI]
  unfold mB
  rw [bnd_ok e]
  rfl
theorem neB {a b : M W} {st : St} {x y : Nat} (ha : a st = .ok (.d (.int (x : Nat))) st) (hb : b st = .ok (.d (.int (y : Nat))) st) : mB (m2 fNe a b) st = .ok (!(x == y)) st := by
  have e : m2 fNe a b st = .ok (.d (.bl (!(x == y)))) st := by
    unfold m2
    rw [bnd_ok ha, bnd_ok hb]
    have ee : eqD (.int (x : Nat)) (.int (y : Nat)) = some (x == y) := by
      rw [eqD_int]
      congr 1
      rw [Bool.eq_iff_iff]
      simp only [beq_iff_eq]
      omega
    simp [rd2, rd, fz, gNe, ee]
  unfold mB
  rw [bnd_ok e]
  rfl
def fre (st : St) (i : Nat) : Prop := ∃ s, st[i]? = some s ∧ (s = .no ∨ ∃ x, s = .d x)
theorem fre.free {st : St} {i : Nat} (h : fre st i) : ∃ s, st[i]? = some s ∧ freeS s = true := by
  obtain ⟨s, h1, h2⟩ := h
  refine ⟨s, h1, ?_⟩
  rcases h2 with rfl | ⟨x, rfl⟩ <;> rfl
theorem fre.set {st : St} {i j : Nat} {x : D} (h : fre st i) : fre (st.set j (.d x)) i := by
  obtain ⟨s, h1, h2⟩ := h
  by_cases e : j = i
  · subst e
    exact ⟨.d x, List.getElem?_set_self (List.getElem?_eq_some_iff.mp h1).1, .inr ⟨x, rfl⟩⟩
  · exact ⟨s, by rw [List.getElem?_set_ne e, h1], h2⟩
theorem parD {i j : Nat} {a b : M W} {x y : D} {st : St} (ha : a st = .ok (.d x) st) (hb : b st = .ok (.d y) st) (fi : fre st i) (fj : fre st j) : sPar i j a b st = .ok .nx ((st.set i (.d x)).set j (.d y)) := by
  obtain ⟨s, h1, h2⟩ := fi.free
  obtain ⟨t, h3, h4⟩ := (fj.set (j := i) (x := x)).free
  unfold sPar
  rw [bnd_ok ha, bnd_ok hb]
  simp [asgW, h1, h2, h3, h4, endS]
theorem neN {a b : M W} {st : St} {x y : D} {c : Bool} (ha : a st = .ok (.d x) st) (hb : b st = .ok (.d y) st) (e : eqD x y = some c) : mB (m2 fNe a b) st = .ok (!c) st := by
  have e : m2 fNe a b st = .ok (.d (.bl (!c))) st := by
    unfold m2
    rw [bnd_ok ha, bnd_ok hb]
    simp [rd2, rd, gNe, e]
  unfold mB
  rw [bnd_ok e]
  rfl
theorem tup6 {m1 m2 m3 m4 m5 m6 : M W} {a b c d e f : D} {st : St} (h1 : m1 st = .ok (.d a) st) (h2 : m2 st = .ok (.d b) st) (h3 : m3 st = .ok (.d c) st) (h4 : m4 st = .ok (.d d) st) (h5 : m5 st = .ok (.d e) st) (h6 : m6 st = .ok (.d f) st) :
    mTup (aCons m1 (aCons m2 (aCons m3 (aCons m4 (aCons m5 (aCons m6 (aNil))))))) st = .ok (.d (.tup [a, b, c, d, e, f])) st := by
  have q : aCons m1 (aCons m2 (aCons m3 (aCons m4 (aCons m5 (aCons m6 (aNil)))))) st = .ok [.d a, .d b, .d c, .d d, .d e, .d f] st := by
    simp [aCons, aNil, bnd, ret, h1, h2, h3, h4, h5, h6, argW]
  unfold mTup
  rw [bnd_ok q]
  simp [allD]
theorem tupO {m : M W} {l : List D} {st : St} (h : m st = .ok (.o (.lst l)) st) : bnd (aCons m (aNil)) fTupOf st = .ok (.d (.tup l)) st := by
  rw [bnd_ok (aC1 h)]
  rfl
theorem tupI {i : Nat} {l : List D} {st : St} (h : st[i]? = some (.d (.lst l))) : bnd (aCons (mV i) (aNil)) fTupOf st = .ok (.d (.tup l)) st := by
  rw [bnd_ok (aC1 (mVd h))]
  rfl
theorem addL {m : M W} {i : Nat} {x : D} {l : List D} {st : St} (hi : st[i]? = some (.d x)) (h : m st = .ok (.o (.lst l)) st) (hl : l.length ≤ 100) : m2 fAdd (mLst (aCons (mV i) (aNil))) m st = .ok (.o (.lst (x :: l))) st := by
  have e : mLst (aCons (mV i) aNil) st = .ok (.o (.lst [x])) st := by
    unfold mLst
    rw [bnd_ok (aC1 (mVd hi))]
    rfl
  unfold m2
  rw [bnd_ok e, bnd_ok h]
  have z : 1 + l.length ≤ sizeLine := leSz (by omega)
  have z2 : l.length + 1 ≤ sizeLine := leSz (by omega)
  simp [fAdd, rd, fz, z, z2]
theorem alikeB {a b : M W} {x : D} {st : St} (ha : a st = .ok (.d x) st) (hb : b st = .ok (.d x) st) (hx : alk 5 x) :
    sIf (mNot (mB (mCall 2 (fn_law_alike 5) [] (aCons a (aCons b (aNil)))))) (sRet (mC (.bl false))) (sNx) st = .ok .nx st := by
  have e := mcall2 ha hb (e_alike 5 x hx)
  have e2 := notT e
  unfold sIf
  rw [bnd_ok e2]
  rfl
theorem mcallR1 {F : Fn} {i : Nat} {t : Option Nat} {o o' : OD} {w : W} {st : St} (hi : st[i]? = some (.o t o)) (h : F [.r o] = .ok w [o']) : mCall 1 F [] (aCons (mV i) (aNil)) st = .ok w (st.set i (.o t o')) := by
  have e : mV i st = .ok (.b i) st := by unfold mV; rw [hi]
  have q : aCons (mV i) aNil st = .ok [.b i] st := by rw [aC1 e]; rfl
  unfold mCall
  rw [bnd_ok q]
  unfold callW
  simp [argsOf, hi, slotsOf, h, putBack, tagOf]
theorem setF {m : M W} {i : Nat} {x : D} {st st1 : St} {s : Sl} (h : m st = .ok (.d x) st1) (h1 : st1[i]? = some s) (h2 : freeS s = true) : sSet i m st = .ok .nx (st1.set i (.d x)) := (bnd_ok h).trans (by simp [asgW, h1, h2, endS])
theorem tup2 {m1 m2 : M W} {a b : D} {st : St} (h1 : m1 st = .ok (.d a) st) (h2 : m2 st = .ok (.d b) st) : mTup (aCons m1 (aCons m2 (aNil))) st = .ok (.d (.tup [a, b])) st := by
  have q : aCons m1 (aCons m2 (aNil)) st = .ok [.d a, .d b] st := by
    simp [aCons, aNil, bnd, ret, h1, h2, argW]
  unfold mTup
  rw [bnd_ok q]
  simp [allD]
theorem tup3v {m1 m2 m3 : M W} {a b c : D} {st : St} (h1 : m1 st = .ok (.d a) st) (h2 : m2 st = .ok (.d b) st) (h3 : m3 st = .ok (.d c) st) : mTup (aCons m1 (aCons m2 (aCons m3 (aNil)))) st = .ok (.d (.tup [a, b, c])) st := by
  have q : aCons m1 (aCons m2 (aCons m3 (aNil))) st = .ok [.d a, .d b, .d c] st := by
    simp [aCons, aNil, bnd, ret, h1, h2, h3, argW]
  unfold mTup
  rw [bnd_ok q]
  simp [allD]
theorem alk_vec {n m : Nat} {f : Nat → Int} (hn : n ≤ 1000) : alk (m + 2) (.tup (vec n f)) := by
  refine ⟨by unfold vec; simpa using hn, fun x hx => ?_⟩
  unfold vec at hx
  obtain ⟨k, _, rfl⟩ := List.mem_map.mp hx
  trivial
theorem setO {m : M W} {i : Nat} {x : OD} {st : St} {s : Sl} (h : m st = .ok (.o x) st) (h1 : st[i]? = some s) (h2 : freeS s = true) : sSet i m st = .ok .nx (st.set i (.o none x)) := (bnd_ok h).trans (by simp [asgW, h1, h2, endS])
theorem tupB {i : Nat} {t : Option Nat} {l : List D} {st : St} (h : st[i]? = some (.o t (.lst l))) : bnd (aCons (mV i) (aNil)) fTupOf st = .ok (.d (.tup l)) st := by
  rw [bnd_ok (aC1 (show mV i st = .ok (.b i) st by unfold mV; rw [h]))]
  simp [argW, fTupOf, rd, h, fz]
theorem filt_len {n : Nat} {p : Nat → Bool} : ((List.range n).filter p).length ≤ n := by
  have := List.length_filter_le p (List.range n)
  rwa [List.length_range] at this
theorem wayS {rs : List Row} {l : List Nat} : wayL rs l = (l.map (nmAt rs)).map D.str := by unfold wayL; rw [List.map_map]; rfl
theorem way_nil {rs : List Row} (g : Good rs) {l : List Nat} : eqD (.lst (wayL rs l)) (.lst []) = some l.isEmpty := by
  rw [wayS, eqD_nil toPs_strs (lay_strs fun x hx => by obtain ⟨k, _, rfl⟩ := List.mem_map.mp hx; exact (nmAt_ok g k).ok) (by rw [depth_strs]; omega)]
  cases l <;> rfl
/-- a comprehension of one name, in any state -/
theorem lcS {ι : Type} {i : Nat} {ks : List ι} {f : ι → D} {st : St} {ms : M Src} {test : M Bool} {el : M W} {pr : ι → Bool} {dd : ι → D} {sl : Sl} (hs : ms st = .ok (.fz (ks.map fun k => .one (f k))) st) (hi : st[i]? = some sl) (hsl : sl = .no ∨ ∃ x, sl = .d x)
    (hp : ∀ k ∈ ks, test (st.set i (.d (f k))) = .ok (pr k) (st.set i (.d (f k)))) (he : ∀ k ∈ ks, pr k = true → ∃ w, el (st.set i (.d (f k))) = .ok w (st.set i (.d (f k))) ∧ w.fzD = some (dd k)) (hl : ks.length ≤ 1000000) :
    mLc [i] ms (tgN i) test el st = .ok (.o (.lst ((ks.filter pr).map dd))) st := by
  have hlt : i < st.length := (List.getElem?_eq_some_iff.mp hi).1
  have hset : st.set i sl = st := by
    have := (List.getElem?_eq_some_iff.mp hi).2
    rw [← this]; exact List.set_getElem_self hlt
  refine mLc_ix (st1 := st) (fun k => .one (f k)) pr dd hs ?_ (fun k hk => ?_) hl ?_
  · rcases hsl with rfl | ⟨x, rfl⟩ <;> simp [okW, hi]
  · refine ⟨st.set i (.d (f k)), ?_, ?_, hp k hk, he k hk⟩
    · show tgN i (.one (f k)) (st.set i .no) = _
      simp [tgN, setN, List.getElem?_set_self hlt, freeS, List.set_set]
    · show (st.set i (.d (f k))).set i .no = st.set i .no
      rw [List.set_set]
  · show backS st [i] (st.set i .no) = st
    rcases hsl with rfl | ⟨x, rfl⟩ <;> simp [backS, hi, List.set_set, hset]
theorem lcT {ι : Type} {i : Nat} {ks : List ι} {f : ι → D} {st : St} {ms : M Src} {el : M W} {dd : ι → D} {sl : Sl} (hs : ms st = .ok (.fz (ks.map fun k => .one (f k))) st) (hi : st[i]? = some sl) (hsl : sl = .no ∨ ∃ x, sl = .d x)
    (he : ∀ k ∈ ks, ∃ w, el (st.set i (.d (f k))) = .ok w (st.set i (.d (f k))) ∧ w.fzD = some (dd k)) (hl : ks.length ≤ 1000000) :
    mLc [i] ms (tgN i) (ret true) el st = .ok (.o (.lst (ks.map dd))) st := by
  have q := lcS (test := ret true) (pr := fun _ => true) hs hi hsl (fun _ _ => rfl) (fun k hk _ => he k hk) hl
  rw [filterT] at q
  exact q
theorem srcT {m : M W} {st st' : St} {l : List D} (h : m st = .ok (.d (.tup l)) st') : mSeq m st = .ok (.fz (l.map .one)) st' := by
  unfold mSeq
  rw [bnd_ok h]
  rfl
theorem rngN {m : M W} {st : St} {n : Nat} (h : m st = .ok (.d (.int (n : Nat))) st) (hn : n < 1000000) : mRng1 (aCons m (aNil)) st = .ok (.fz ((List.range n).map fun k => .one (.int ((k : Nat) : Int)))) st := by
  have hb : b62 ((n : Nat) : Int) = true := by unfold b62; simp; omega
  unfold mRng1
  rw [bnd_ok (aC1 h)]
  simp [argW, hb]
theorem lenT {m : M W} {st : St} {ds : List D} (h : m st = .ok (.d (.tup ds)) st) : bnd (aCons m aNil) (rd1 gLen) st = .ok (.d (.int (ds.length : Nat))) st := by
  refine (bnd_ok (aC1 h)).trans ?_
  rfl
end k15
end DP
end
section
set_option Elab.async false
set_option linter.all false
set_option maxRecDepth 100000
set_option maxHeartbeats 1000000
namespace DP
namespace k15
open PySem PySem.Spec PyProof.Rows L2
theorem eqN {a b : M W} {st : St} {x y : D} {c : Bool} (ha : a st = .ok (.d x) st) (hb : b st = .ok (.d y) st) (e : eqD x y = some c) : mB (m2 fEq a b) st = .ok c st := by
  have e : m2 fEq a b st = .ok (.d (.bl c)) st := by
    unfold m2
    rw [bnd_ok ha, bnd_ok hb]
    simp [rd2, rd, gEq, e]
  unfold mB
  rw [bnd_ok e]
  rfl
/-! ### gauges; the wires that hang on one -/
def optD : Option Int → D
  | none => .non
  | some v => .int v
structure GOk (gs : List (Int × Int)) : Prop where
  l1 : 1 ≤ gs.length
  l5 : gs.length ≤ 5
  rg : ∀ g ∈ gs, (0 ≤ g.1 ∧ g.1 ≤ 99) ∧ (0 ≤ g.2 ∧ g.2 ≤ 99)
  dec : ∀ (i : Nat) (a b : Int × Int), gs[i]? = some a → gs[i + 1]? = some b → b.1 < a.1
def gD (g : Int × Int) : D := .tup [.int g.1, .int g.2]
def gsD (gs : List (Int × Int)) : D := .tup (gs.map gD)
def kidsL (rs : List Row) (k : Option Nat) : List Nat := (List.range rs.length).filter fun j => upI rs j == k
def nmO (rs : List Row) : Option Nat → Str
  | none => srcS
  | some k => nmAt rs k
def idxD : Option Nat → D
  | none => .non
  | some k => .int (k : Nat)
def inO (rs : List Row) : Option Nat → Prop
  | none => True
  | some k => k < rs.length
theorem nmO_ok {rs : List Row} (g : Good rs) (k : Option Nat) : PyData.strOk (nmO rs k) = true := by
  cases k with
  | none => exact src_ok.ok
  | some k => exact (nmAt_ok g k).ok
theorem kid_eq {rs : List Row} (g : Good rs) {j : Nat} {k : Option Nat} (hj : j < rs.length) (hk : inO rs k) : eqD (.str (rowAt rs j).fr) (.str (nmO rs k)) = some (upI rs j == k) := by
  rw [eqD_str (g.frOk (rowAt_of hj)).ok (nmO_ok g k)]
  congr 1
  rw [Bool.eq_iff_iff, beq_iff_eq, beq_iff_eq]
  rcases up_cases g (rowAt_of hj) with ⟨e1, e2⟩ | ⟨i, hi, e2, e3, _, q, e4, e5⟩
  · rw [e1, e2]
    cases k with
    | none => simp [nmO]
    | some k =>
      simp only [nmO]
      refine ⟨fun z => ?_, fun z => by cases z⟩
      exfalso
      have := g.src_no (rowAt_of hk)
      rw [← nmAt_row hk] at this
      exact this z.symm
  · rw [e2, ← e5]
    have hi' : i < rs.length := (List.getElem?_eq_some_iff.mp e4).1
    have e6 : q.nm = nmAt rs i := (nmAt_of e4).symm
    cases k with
    | none =>
      simp only [nmO]
      refine ⟨fun z => ?_, fun z => by cases z⟩
      exact absurd z (g.src_no e4)
    | some k =>
      simp only [nmO, Option.some.injEq]
      rw [e6]
      exact ⟨fun z => nmAt_inj g hi' hk z, fun z => by rw [z]⟩
theorem enum_rows {rs : List Row} : ((rs.map rowD).zipIdx.map fun p => Item.many [.int (p.2 : Nat), p.1]) = (List.range rs.length).map fun k => Item.many [.int (k : Nat), rowD (rowAt rs k)] := by
  refine List.ext_getElem? fun i => ?_
  by_cases hi : i < rs.length
  · simp [List.getElem?_zipIdx, hi, rowAt]
  · rw [List.getElem?_eq_none (by simp; omega), List.getElem?_eq_none (by simp; omega)]
theorem kids_lt {rs : List Row} {k : Option Nat} : ∀ j ∈ kidsL rs k, j < rs.length := fun j hj => by
  unfold kidsL at hj
  exact List.mem_range.mp (List.mem_filter.mp hj).1
theorem kids_len {rs : List Row} (g : Good rs) {k : Option Nat} : (kidsL rs k).length ≤ 10 := Nat.le_trans filt_len g.l10
theorem kids_mem {rs : List Row} {k : Option Nat} {j : Nat} : j ∈ kidsL rs k ↔ j < rs.length ∧ upI rs j = k := by
  unfold kidsL
  rw [List.mem_filter, List.mem_range, beq_iff_eq]
theorem e_children {h : Har} (g : Good h.rows) {k : Option Nat} (hk : inO h.rows k) : fn_children [.d h.d, .d (idxD k)] = .ok (.o (.lst (natsD (kidsL h.rows k)))) [] := by
  have q : lc_children_0 [.d h.d, .d (idxD k), .d (.str (nmO h.rows k)), .no, .no] = .ok (.o (.lst (((List.range h.rows.length).filter fun j => upI h.rows j == k).map fun j => .int (j : Nat)))) [.d h.d, .d (idxD k), .d (.str (nmO h.rows k)), .no, .no] := by
    have hl := g.l10
    refine mLc_ix (st1 := [.d h.d, .d (idxD k), .d (.str (nmO h.rows k)), .no, .no]) (fun j => .many [.int (j : Nat), rowD (rowAt h.rows j)]) (fun j => upI h.rows j == k) _ ?_ (by rfl) (fun j hj => ?_) (by simp; omega) (by rfl)
    · have e1 : mFld ["Harness"] "rows" (mV 0) [.d h.d, .d (idxD k), .d (.str (nmO h.rows k)), .no, .no] = .ok (.d (rowsD h.rows)) [.d h.d, .d (idxD k), .d (.str (nmO h.rows k)), .no, .no] := by
        simp [mFld, bnd, mV, rd, Har.d, hf_rows]
      unfold mEnumT
      rw [bnd_ok (aC1 e1)]
      simp only [argW, rowsD]
      rw [enum_rows]
    · rw [List.mem_range] at hj
      have e2 := kid_eq g hj hk
      refine ⟨[.d h.d, .d (idxD k), .d (.str (nmO h.rows k)), .d (.int (j : Nat)), .d (rowD (rowAt h.rows j))], by rfl, by rfl, ?_, fun _ => ⟨.d (.int (j : Nat)), by rfl, rfl⟩⟩
      have e3 : m2 (rd2 gIx) (mV 4) (mC (.int 1)) [.d h.d, .d (idxD k), .d (.str (nmO h.rows k)), .d (.int (j : Nat)), .d (rowD (rowAt h.rows j))] = .ok (.d (.str (rowAt h.rows j).fr)) [.d h.d, .d (idxD k), .d (.str (nmO h.rows k)), .d (.int (j : Nat)), .d (rowD (rowAt h.rows j))] := ixC (.inl rfl) (mVd rfl) at_1
      exact eqN e3 (mVd (x := .str (nmO h.rows k)) rfl) e2
  have h2 : sSet 2 (mIf (mB (mNone false (mV 1))) (mC (.str "source")) (m2 (rd2 gIx) (mFld ["Harness"] "names" (mV 0)) (mV 1))) [.d h.d, .d (idxD k), .no, .no, .no] = .ok .nx [.d h.d, .d (idxD k), .d (.str (nmO h.rows k)), .no, .no] := by
    cases k with
    | none => rfl
    | some k =>
      have e := names_at (rs := h.rows) hk
      simp [sSet, bnd, mIf, mB, mNone, mV, idxD, okB, isN, rd, m2, mFld, Har.d, hf_names, namesD, rd2, gIx, e, asgW, freeS, endS, nmO]
  refine (fn_of_m (st := [.d h.d, .d (idxD k), .no, .no, .no]) rfl (seq_nx h2 ((bnd_ok q).trans rfl))).trans ?_
  rfl
end k15
end DP
end
section
set_option Elab.async false
set_option linter.all false
set_option maxRecDepth 100000
set_option maxHeartbeats 1000000
namespace DP
namespace k15
open PySem PySem.Spec PyProof.Rows L2
theorem mIfB {α : Type} {t : M Bool} {a b : M α} {st st1 : St} {c : Bool} (h : t st = .ok c st1) : mIf t a b st = if c then a st1 else b st1 := by
  unfold mIf; rw [bnd_ok h]; cases c <;> rfl
theorem sIfB {t : M Bool} {a b : M Fl} {st st1 : St} {c : Bool} (h : t st = .ok c st1) : sIf t a b st = if c then a st1 else b st1 := by
  unfold sIf; rw [bnd_ok h]; cases c <;> rfl
theorem mBd {m : M W} {st st1 : St} {c : Bool} (h : m st = .ok (.d (.bl c)) st1) : mB m st = .ok c st1 := by
  unfold mB; rw [bnd_ok h]; rfl
theorem rowG {rs : List Row} {st : St} {a i j : Nat} (hj : j < rs.length) {k : Int} {x : D} (h4 : st[a]? = some (.d (rowsD rs))) (hi : st[i]? = some (.d (.int (j : Nat)))) (e : L2.atI [.str (rowAt rs j).nm, .str (rowAt rs j).fr, .int (rowAt rs j).ohm, .int (rowAt rs j).load, .int (rowAt rs j).fuse] k = some x) :
    m2 (rd2 gIx) (m2 (rd2 gIx) (mV a) (mV i)) (mC (.int k)) st = .ok (.d x) st :=
  ixC (.inl rfl) (ixV (.inl rfl) h4 hi (rows_at (rowAt_of hj))) e
theorem e_law_kids {rs : List Row} (g : Good rs) {k : Option Nat} (hk : inO rs k) : fn_law_kids [.d (rowsD rs), .d (.int (match k with | none => -1 | some k => (k : Nat)))] = .ok (.o (.lst (natsD (kidsL rs k)))) [] := by
  obtain ⟨v, hv⟩ : ∃ v : Int, v = (match k with | none => -1 | some k => ((k : Nat) : Int)) := ⟨_, rfl⟩
  rw [← hv]
  have hl := g.l10
  have q : lc_law_kids_0 [.d (rowsD rs), .d (.int v), .d (.str (nmO rs k)), .no] = .ok (.o (.lst (((List.range rs.length).filter fun j => upI rs j == k).map fun j => .int (j : Nat)))) [.d (rowsD rs), .d (.int v), .d (.str (nmO rs k)), .no] := by
    refine lcS (f := fun j => .int (j : Nat)) (rngN (n := rs.length) ?_ (by omega)) rfl (.inl rfl) (fun j hj => ?_) (fun j hj _ => ⟨.d (.int (j : Nat)), rfl, rfl⟩) (by simp; omega)
    · have := lenT (m := mV 0) (st := [.d (rowsD rs), .d (.int v), .d (.str (nmO rs k)), .no]) (ds := rs.map rowD) rfl
      rw [List.length_map] at this
      exact this
    · rw [List.mem_range] at hj
      exact eqN (rowG hj rfl rfl at_1) (mVd (x := .str (nmO rs k)) rfl) (kid_eq g hj hk)
  have h2 : sSet 2 (mIf (mB (m2 fLt (mV 1) (mC (.int 0)))) (mC (.str "source")) (m2 (rd2 gIx) (m2 (rd2 gIx) (mV 0) (mV 1)) (mC (.int 0)))) [.d (rowsD rs), .d (.int v), .no, .no] = .ok .nx [.d (rowsD rs), .d (.int v), .d (.str (nmO rs k)), .no] := by
    cases k with
    | none => subst hv; rfl
    | some k =>
      subst hv
      have e := rows_at (rowAt_of hk)
      have e2 := nmAt_row hk
      have e3 : ¬ ((k : Nat) : Int) < 0 := by omega
      simp [sSet, bnd, mIf, mB, mV, mC, rd, m2, rd2, gI, gIx, e, asgW, freeS, endS, nmO, rowsD, rowD, e2, e3, ret, at_0]
  refine (fn_of_m (st := [.d (rowsD rs), .d (.int v), .no, .no]) rfl (seq_nx h2 ((bnd_ok q).trans rfl))).trans ?_
  rfl
/-! ### sums of costs that may be none -/
def sumO (os : List (Option Int)) : Option Int := if os.any Option.isNone then none else some (os.map fun o => o.getD 0).sum
theorem optD_isN (o : Option Int) {st : St} {i : Nat} (h : st[i]? = some (.d (optD o))) : mNone false (mV i) st = .ok (.d (.bl o.isNone)) st := by
  unfold mNone
  rw [bnd_ok (mVd h)]
  cases o <;> rfl
theorem asInts_opt {os : List (Option Int)} (h : os.any Option.isNone = false) : asInts (os.map optD) = some (os.map fun o => o.getD 0) := by
  induction os with
  | nil => rfl
  | cons o os ih =>
    rw [List.any_cons, Bool.or_eq_false_iff] at h
    cases o with
    | none => cases h.1
    | some v => simp [optD, asInts, ih h.2]
theorem e_sum_told {os : List (Option Int)} (hl : os.length ≤ 1000) : fn_sum_told [.d (.lst (os.map optD))] = .ok (.d (optD (sumO os))) [] := by
  have q : lc_sum_told_0 [.d (.lst (os.map optD)), .no] = .ok (.o (.lst ((os.map Option.isNone).map .bl))) [.d (.lst (os.map optD)), .no] := by
    have := lcT (ks := os) (f := optD) (i := 1) (st := [.d (.lst (os.map optD)), .no]) (ms := mSeq (mV 0)) (el := mNone false (mV 1)) (dd := fun o => .bl o.isNone) (sl := .no) (by rw [srcD (mVd rfl), List.map_map]; rfl) rfl (.inl rfl) (fun o _ => ⟨_, optD_isN o rfl, rfl⟩) (by omega)
    rw [List.map_map]
    exact this
  have h2 : bnd (aCons lc_sum_told_0 aNil) (rd1 gAny) [.d (.lst (os.map optD)), .no] = .ok (.d (.bl (os.any Option.isNone))) [.d (.lst (os.map optD)), .no] := by
    rw [bnd_ok (aC1 q)]
    show rd1 gAny [.d (.lst ((os.map Option.isNone).map .bl))] _ = _
    unfold rd1
    simp only [rd, gAny]
    rw [asBls_map]
    simp [List.any_map, Function.comp_def]
  refine (fn_of_m (st := [.d (.lst (os.map optD)), .no]) (r := .ok (.ret (.d (optD (sumO os)))) [.d (.lst (os.map optD)), .no]) rfl ?_).trans rfl
  unfold m_sum_told sRet
  refine (bnd_ok (a := W.d (optD (sumO os))) (s := [Sl.d (.lst (os.map optD)), Sl.no]) ?_).trans rfl
  rw [mIfB (mBd h2)]
  cases e : os.any Option.isNone with
  | true =>
    have : sumO os = none := by unfold sumO; rw [e]; rfl
    rw [this]; rfl
  | false =>
    have : sumO os = some (os.map fun o => o.getD 0).sum := by unfold sumO; rw [e]; rfl
    rw [this, if_neg Bool.false_ne_true, bnd_ok (aC1 (mVd rfl))]
    simp [argW, rd1, rd, gSum, asInts_opt e, optD]
end k15
end DP
end
section
set_option Elab.async false
set_option linter.all false
set_option maxRecDepth 100000
set_option maxHeartbeats 1000000
namespace DP
namespace k15
open PySem PySem.Spec PyProof.Rows L2
theorem mcall1w {F : Fn} {m : M W} {x : D} {w w1 : W} {st st1 : St} (hm : m st = .ok w1 st1) (hw : argW w1 = .d x) (h : F [.d x] = .ok w []) : mCall 1 F [] (aCons m aNil) st = .ok w st1 := by
  have q : aCons m aNil st = .ok [.d x] st1 := by rw [aC1 hm, hw]
  exact (bnd_ok q).trans (call1 h)
/-! ### what a wire and all behind it may cost -/
def candG (rs : List Row) (E : Nat → Int → Option Int) (k : Nat) (left : Int) (p : (Int × Int) × Nat) : Option (Int × Nat) :=
  if 0 ≤ left - p.1.1 * flow rs k then (sumO ((kidsL rs (some k)).map fun j => E j (left - p.1.1 * flow rs k))).map fun s => (p.1.2 + s, p.2) else none
def cands (rs : List Row) (gs : List (Int × Int)) (E : Nat → Int → Option Int) (k : Nat) (left : Int) : List (Int × Nat) := gs.zipIdx.filterMap (candG rs E k left)
def candD (c : Int × Nat) : D := .tup [.int c.1, .int (c.2 : Nat)]
/-- the rows that are read hold the entries -/
def TabOk (rs : List Row) (E : Nat → Int → Option Int) (k : Nat) (left : Int) (ds : List D) : Prop := ∀ j ∈ kidsL rs (some k), ∀ rest : Int, 0 ≤ rest → rest ≤ left → ∃ es : List D, ds[j]? = some (.tup es) ∧ L2.atI es rest = some (optD (E j rest))
def RowsSl (sl : Sl) (ds : List D) : Prop := sl = .d (.tup ds) ∨ sl = .o (some 4) (.lst ds)
theorem ixS {a j : Nat} {st : St} {sl : Sl} {ds : List D} {x : D} {k : Int} (h4 : st[a]? = some sl) (hs : RowsSl sl ds) (hj : st[j]? = some (.d (.int k))) (e : L2.atI ds k = some x) : m2 (rd2 gIx) (mV a) (mV j) st = .ok (.d x) st := by
  rcases hs with rfl | rfl
  · exact ixV (.inl rfl) h4 hj e
  · have e1 : mV a st = .ok (.b a) st := by unfold mV; rw [h4]
    unfold m2
    rw [bnd_ok e1, bnd_ok (mVd hj)]
    simp [rd2, rd, h4, fz, gIx, e]
theorem ixM {m : M W} {j : Nat} {st : St} {X x : D} {ds : List D} {k : Int} (hX : X = .tup ds ∨ X = .lst ds) (hm : m st = .ok (.d X) st) (hj : st[j]? = some (.d (.int k))) (e : L2.atI ds k = some x) : m2 (rd2 gIx) m (mV j) st = .ok (.d x) st := by
  unfold m2
  rw [bnd_ok hm, bnd_ok (mVd hj)]
  rcases hX with rfl | rfl
  · simp [rd2, rd, gIx, e]
  · simp [rd2, rd, gIx, e]
theorem ch_parts {h : Har} (g : Good h.rows) {E : Nat → Int → Option Int} {k : Nat} {left rest : Int} {sl s12 : Sl} {ds : List D} {st : St} (hk : k < h.rows.length) (hs : RowsSl sl ds) (ht : TabOk h.rows E k left ds) (h0 : 0 ≤ rest) (h1 : rest ≤ left)
    (q0 : st[0]? = some (.d h.d)) (q2 : st[2]? = some (.d (.int (k : Nat)))) (q4 : st[4]? = some sl) (q8 : st[8]? = some (.d (.int rest))) (q12 : st[12]? = some s12) (f12 : s12 = .no ∨ ∃ x, s12 = .d x) :
    lc_choices_0 st = .ok (.o (.lst (((kidsL h.rows (some k)).map fun j => E j rest).map optD))) st := by
  have e := e_children g (k := some k) hk
  have hlt : 12 < st.length := (List.getElem?_eq_some_iff.mp q12).1
  have src : mSeq (mCall 2 fn_children [] (aCons (mV 0) (aCons (mV 2) (aNil)))) st = .ok (.fz ((kidsL h.rows (some k)).map fun j => .one (.int (j : Nat)))) st := by
    have := srcO (mcall2 (mVd q0) (mVd q2) e)
    rw [this]
    unfold natsD
    rw [List.map_map]
    rfl
  rw [List.map_map]
  refine lcT (f := fun j => .int (j : Nat)) src q12 f12 (fun j hj => ?_) (by have := kids_len g (k := some k); omega)
  obtain ⟨es, e1, e2⟩ := ht j hj rest h0 h1
  exact ⟨.d (optD (E j rest)), ixM (.inl rfl) (ixS (by rw [List.getElem?_set_ne (by decide), q4]) hs (List.getElem?_set_self hlt) (by rw [atI_nat]; exact e1)) (by rw [List.getElem?_set_ne (by decide), q8]) e2, rfl⟩
def chS (h : Har) (gs : List (Int × Int)) (k : Nat) (left : Int) (sl : Sl) (acc : List D) (a7 a8 a9 a10 a11 : Sl) : St := [.d h.d, .d (gsD gs), .d (.int (k : Nat)), .d (.int left), sl, .d (.int (flow h.rows k)), .o none (.lst acc), a7, a8, a9, a10, a11, .no]
/-- a slot of a plain value, or none -/
def pln (s : Sl) : Prop := s = .no ∨ ∃ x, s = .d x
theorem pln.free {s : Sl} (h : pln s) : freeS s = true := by
  rcases h with rfl | ⟨x, rfl⟩ <;> rfl
theorem pln_d (x : D) : pln (.d x) := .inr ⟨x, rfl⟩
theorem ch_turn {h : Har} (g : Good h.rows) {gs : List (Int × Int)} {E : Nat → Int → Option Int} {k : Nat} {left : Int} {sl : Sl} {ds acc : List D} (hk : k < h.rows.length) (hs : RowsSl sl ds) (ht : TabOk h.rows E k left ds) (hf : 0 ≤ flow h.rows k) (ha : acc.length ≤ 100) {o c : Int} {i : Nat} (ho : 0 ≤ o ∧ o ≤ 99) {a8 a11 : Sl} (f8 : pln a8) (f11 : pln a11) :
    ∃ b8 b11, bo_choices_1 (chS h gs k left sl acc (.d (.int (i : Nat))) a8 (.d (.int o)) (.d (.int c)) a11) = .ok .nx (chS h gs k left sl (acc ++ ((candG h.rows E k left ((o, c), i)).toList.map candD)) (.d (.int (i : Nat))) b8 (.d (.int o)) (.d (.int c)) b11) ∧ pln b8 ∧ pln b11 := by
  obtain ⟨rest, hr⟩ : ∃ rest, rest = left - o * flow h.rows k := ⟨_, rfl⟩
  have s1 : sSet 8 (m2 fSub (mV 3) (m2 fMul (mV 9) (mV 5))) (chS h gs k left sl acc (.d (.int (i : Nat))) a8 (.d (.int o)) (.d (.int c)) a11) = .ok .nx (chS h gs k left sl acc (.d (.int (i : Nat))) (.d (.int rest)) (.d (.int o)) (.d (.int c)) a11) := by
    have hm : o.natAbs < 1152921504606846976 ∨ (flow h.rows k).natAbs < 1152921504606846976 := .inl (by omega)
    have e : m2 fSub (mV 3) (m2 fMul (mV 9) (mV 5)) (chS h gs k left sl acc (.d (.int (i : Nat))) a8 (.d (.int o)) (.d (.int c)) a11) = .ok (.d (.int rest)) (chS h gs k left sl acc (.d (.int (i : Nat))) a8 (.d (.int o)) (.d (.int c)) a11) := by
      rw [hr]
      simp [m2, bnd, chS, mV, fMul, rd2, rd, gI, hm]
    exact setD e (show _ = some a8 from rfl) f8.free
  unfold bo_choices_1
  by_cases h0 : 0 ≤ rest
  · have hle : rest ≤ left := by
      have : 0 ≤ o * flow h.rows k := Int.mul_nonneg ho.1 hf
      omega
    have p := ch_parts g (st := chS h gs k left sl acc (.d (.int (i : Nat))) (.d (.int rest)) (.d (.int o)) (.d (.int c)) a11) hk hs ht h0 hle rfl rfl rfl rfl rfl (.inl rfl)
    obtain ⟨os, hos⟩ : ∃ os, os = (kidsL h.rows (some k)).map fun j => E j rest := ⟨_, rfl⟩
    rw [← hos] at p
    have lo : os.length ≤ 1000 := by have := kids_len g (k := some k); rw [hos, List.length_map]; omega
    have s2 := setD (i := 11) (mcall1w p rfl (e_sum_told lo)) (show _ = some a11 from rfl) f11.free
    have s2 : sSet 11 (mCall 1 fn_sum_told [] (aCons (lc_choices_0) (aNil))) (chS h gs k left sl acc (.d (.int (i : Nat))) (.d (.int rest)) (.d (.int o)) (.d (.int c)) a11) = .ok .nx (chS h gs k left sl acc (.d (.int (i : Nat))) (.d (.int rest)) (.d (.int o)) (.d (.int c)) (.d (optD (sumO os)))) := s2
    have t1 : mB (m2 fGe (mV 8) (mC (.int 0))) (chS h gs k left sl acc (.d (.int (i : Nat))) (.d (.int rest)) (.d (.int o)) (.d (.int c)) a11) = .ok true (chS h gs k left sl acc (.d (.int (i : Nat))) (.d (.int rest)) (.d (.int o)) (.d (.int c)) a11) := by
      simp [mB, m2, bnd, chS, mV, mC, ret, rd2, rd, gI, h0]
    have ec : candG h.rows E k left ((o, c), i) = (sumO os).map fun s => (c + s, i) := by
      unfold candG
      simp only [← hr]
      rw [if_pos h0, hos]
    refine ⟨.d (.int rest), .d (optD (sumO os)), ?_, pln_d _, pln_d _⟩
    refine seq_nx s1 ?_
    rw [sIfB t1, if_pos rfl]
    refine seq_nx s2 ?_
    rw [ec]
    cases sumO os with
    | none =>
      simp [sIf, mB, mNone, bnd, chS, mV, optD, okB, isN, rd, sNx, ret]
    | some v =>
      have hacc : acc.length < 1000000 := by omega
      simp [sIf, mB, mNone, bnd, chS, mV, optD, okB, isN, rd, sNx, ret, sAppend, sAppL, isL, aCons, aNil, mTup, m2, fAdd, argW, allD, okApp, hacc, candD]
  · have t1 : mB (m2 fGe (mV 8) (mC (.int 0))) (chS h gs k left sl acc (.d (.int (i : Nat))) (.d (.int rest)) (.d (.int o)) (.d (.int c)) a11) = .ok false (chS h gs k left sl acc (.d (.int (i : Nat))) (.d (.int rest)) (.d (.int o)) (.d (.int c)) a11) := by
      simp [mB, m2, bnd, chS, mV, mC, ret, rd2, rd, gI]
      omega
    have ec : candG h.rows E k left ((o, c), i) = none := by
      unfold candG
      simp only [← hr]
      rw [if_neg h0]
    refine ⟨.d (.int rest), a11, ?_, pln_d _, f11⟩
    refine seq_nx s1 ?_
    rw [sIfB t1, if_neg Bool.false_ne_true, ec]
    simp [sNx, ret]
end k15
end DP
end
section
set_option Elab.async false
set_option linter.all false
set_option maxRecDepth 100000
set_option maxHeartbeats 1000000
namespace DP
namespace k15
open PySem PySem.Spec PyProof.Rows L2
theorem parDO {i j : Nat} {a b : M W} {x : D} {y : OD} {s t : Sl} {st : St} (ha : a st = .ok (.d x) st) (hb : b st = .ok (.o y) st) (fi : st[i]? = some s) (hs : freeS s = true) (fj : (st.set i (.d x))[j]? = some t) (ht : freeS t = true) : sPar i j a b st = .ok .nx ((st.set i (.d x)).set j (.o none y)) := by
  unfold sPar
  rw [bnd_ok ha, bnd_ok hb]
  simp [asgW, fi, hs, fj, ht, endS]
def gItem (p : (Int × Int) × Nat) : Item := .many [.int (p.2 : Nat), gD p.1]
theorem enum_gs {gs : List (Int × Int)} : ((gs.map gD).zipIdx.map fun p => Item.many [.int (p.2 : Nat), p.1]) = gs.zipIdx.map gItem := by
  rw [List.zipIdx_map, List.map_map]
  rfl
theorem zip_mem {gs : List (Int × Int)} {p : (Int × Int) × Nat} (h : p ∈ gs.zipIdx) : gs[p.2]? = some p.1 := by
  obtain ⟨x, i⟩ := p
  rw [List.mem_zipIdx_iff_getElem?] at h
  exact h
theorem ch_loop {h : Har} (g : Good h.rows) {gs : List (Int × Int)} {E : Nat → Int → Option Int} {k : Nat} {left : Int} {sl : Sl} {ds : List D} (hk : k < h.rows.length) (hs : RowsSl sl ds) (ht : TabOk h.rows E k left ds) (hf : 0 ≤ flow h.rows k) :
    ∀ (ps : List ((Int × Int) × Nat)) (acc : List D) (a7 a8 a9 a10 a11 : Sl), (∀ p ∈ ps, 0 ≤ p.1.1 ∧ p.1.1 ≤ 99) → acc.length + ps.length ≤ 100 → pln a7 → pln a8 → pln a9 → pln a10 → pln a11 →
    ∃ b7 b8 b9 b10 b11, forL (tgNest 7 [9, 10]) bo_choices_1 (ps.map gItem) (chS h gs k left sl acc a7 a8 a9 a10 a11) = .ok .nx (chS h gs k left sl (acc ++ (ps.filterMap (candG h.rows E k left)).map candD) b7 b8 b9 b10 b11)
  | [], acc, a7, a8, a9, a10, a11, _, _, _, _, _, _, _ => ⟨a7, a8, a9, a10, a11, by simp [forL, ret]⟩
  | ((o, c), i) :: ps, acc, a7, a8, a9, a10, a11, hp, hl, p7, p8, p9, p10, p11 => by
    simp only [List.length_cons] at hl
    obtain ⟨b8, b11, e, q8, q11⟩ := ch_turn g (gs := gs) (c := c) (i := i) hk hs ht hf (acc := acc) (by omega) (hp ((o, c), i) List.mem_cons_self) p8 p11
    have et : tgNest 7 [9, 10] (gItem ((o, c), i)) (chS h gs k left sl acc a7 a8 a9 a10 a11) = .ok () (chS h gs k left sl acc (.d (.int (i : Nat))) a8 (.d (.int o)) (.d (.int c)) a11) := by
      simp [tgNest, gItem, gD, bnd, setN, setNs, chS, p7.free, p9.free, p10.free, ret]
    have hl2 : ((candG h.rows E k left ((o, c), i)).toList.map candD).length ≤ 1 := by
      cases candG h.rows E k left ((o, c), i) <;> simp
    obtain ⟨b7', b8', b9', b10', b11', e2⟩ := ch_loop g hk hs ht hf ps (acc ++ ((candG h.rows E k left ((o, c), i)).toList.map candD)) (.d (.int (i : Nat))) b8 (.d (.int o)) (.d (.int c)) b11 (fun p m => hp p (List.mem_cons_of_mem _ m)) (by rw [List.length_append]; omega) (pln_d _) q8 (pln_d _) (pln_d _) q11
    refine ⟨b7', b8', b9', b10', b11', ?_⟩
    rw [List.map_cons]
    unfold forL
    rw [et]
    dsimp only
    rw [bnd_ok e]
    dsimp only
    rw [e2, List.append_assoc]
    congr 3
    cases hc : candG h.rows E k left ((o, c), i) with
    | none => simp [List.filterMap_cons, hc]
    | some v => simp [List.filterMap_cons, hc]
theorem S_nn {n : Nat} {f : Nat → Int} (h : ∀ k, k < n → 0 ≤ f k) : 0 ≤ S n f := by
  induction n with
  | zero => exact Int.le_refl 0
  | succ n ih =>
    have h1 := ih fun k hk => h k (by omega)
    have h2 := h n (by omega)
    simp only [S]; omega
theorem flow_nn {rs : List Row} (g : Good rs) (k : Nat) : 0 ≤ flow rs k := by
  unfold flow
  refine S_nn fun j hj => ?_
  split
  · exact (g.rg _ (List.mem_of_getElem? (rowAt_of hj))).2.1.1
  · omega
theorem vecA {n : Nat} {f : Nat → Int} {k : Nat} (hk : k < n) : L2.atI (vec n f) ((k : Nat) : Int) = some (.int (f k)) := at_map (f := fun k => .int (f k)) hk
/-- choices, told by the entries of rows -/
theorem ch_run {h : Har} (g : Good h.rows) {gs : List (Int × Int)} (gg : GOk gs) {E : Nat → Int → Option Int} {k : Nat} {left : Int} {sl : Sl} {ds : List D} (hk : k < h.rows.length) (hs : RowsSl sl ds) (ht : TabOk h.rows E k left ds) :
    ∃ b7 b8 b9 b10 b11, m_choices [.d h.d, .d (gsD gs), .d (.int (k : Nat)), .d (.int left), sl, .no, .no, .no, .no, .no, .no, .no, .no] = .ok (.ret (.o (.lst ((cands h.rows gs E k left).map candD)))) [.d h.d, .d (gsD gs), .d (.int (k : Nat)), .d (.int left), sl, .d (.int (flow h.rows k)), .no, b7, b8, b9, b10, b11, .no] := by
  obtain ⟨b7, b8, b9, b10, b11, e⟩ := ch_loop g (gs := gs) hk hs ht (flow_nn g k) gs.zipIdx [] .no .no .no .no .no (fun p hp => (gg.rg _ (List.mem_of_getElem? (zip_mem hp))).1) (by have := gg.l5; simp; omega) (.inl rfl) (.inl rfl) (.inl rfl) (.inl rfl) (.inl rfl)
  refine ⟨b7, b8, b9, b10, b11, ?_⟩
  have s1 : sPar 5 6 (m2 (rd2 gIx) (mCall 1 fn_currents [] (aCons (mV 0) (aNil))) (mV 2)) (mLst (aNil)) [.d h.d, .d (gsD gs), .d (.int (k : Nat)), .d (.int left), sl, .no, .no, .no, .no, .no, .no, .no, .no] = .ok .nx (chS h gs k left sl [] .no .no .no .no .no) :=
    parDO (ixM (.inl rfl) (mcall1 (mVd rfl) (e_currents g)) rfl (vecA hk)) (show mLst aNil _ = .ok (.o (.lst [])) _ from rfl) rfl rfl rfl rfl
  refine seq_nx s1 ?_
  have s2 : fo_choices_2 (chS h gs k left sl [] .no .no .no .no .no) = .ok .nx (chS h gs k left sl ((cands h.rows gs E k left).map candD) b7 b8 b9 b10 b11) := by
    unfold fo_choices_2 sFor
    have e1 : mEnumT (aCons (mV 1) (aNil)) (chS h gs k left sl [] .no .no .no .no .no) = .ok (.fz (gs.zipIdx.map gItem)) (chS h gs k left sl [] .no .no .no .no .no) := by
      unfold mEnumT
      rw [bnd_ok (aC1 (mVd (x := gsD gs) rfl))]
      simp only [argW, gsD]
      rw [enum_gs]
    rw [bnd_ok e1]
    exact e
  refine seq_nx s2 ?_
  rfl
theorem e_choices {h : Har} (g : Good h.rows) {gs : List (Int × Int)} (gg : GOk gs) {E : Nat → Int → Option Int} {k : Nat} {left : Int} {ds : List D} (hk : k < h.rows.length) (ht : TabOk h.rows E k left ds) :
    fn_choices [.d h.d, .d (gsD gs), .d (.int (k : Nat)), .d (.int left), .d (.tup ds)] = .ok (.o (.lst ((cands h.rows gs E k left).map candD))) [] := by
  obtain ⟨b7, b8, b9, b10, b11, e⟩ := ch_run g gg hk (.inl rfl) ht
  exact (fn_of_m rfl e).trans rfl
theorem e_choicesR {h : Har} (g : Good h.rows) {gs : List (Int × Int)} (gg : GOk gs) {E : Nat → Int → Option Int} {k : Nat} {left : Int} {ds : List D} (hk : k < h.rows.length) (ht : TabOk h.rows E k left ds) :
    fn_choices [.d h.d, .d (gsD gs), .d (.int (k : Nat)), .d (.int left), .r (.lst ds)] = .ok (.o (.lst ((cands h.rows gs E k left).map candD))) [.lst ds] := by
  obtain ⟨b7, b8, b9, b10, b11, e⟩ := ch_run g gg hk (.inr rfl) ht
  exact (fn_of_m rfl e).trans rfl
end k15
end DP
end
section
set_option Elab.async false
set_option linter.all false
set_option maxRecDepth 100000
set_option maxHeartbeats 1000000
namespace DP
namespace k15
open PySem PySem.Spec PyProof.Rows L2 PySem.W
/-! ### the least of pairs, of numbers -/
def ltC (a b : Int × Nat) : Bool := decide (a.1 < b.1 ∨ (a.1 = b.1 ∧ (a.2 : Int) < (b.2 : Int)))
def foldC (c : Int × Nat) (cs : List (Int × Nat)) : Int × Nat := cs.foldl (fun a y => if ltC y a then y else a) c
def minC : List (Int × Nat) → Option (Int × Nat)
  | [] => none
  | c :: cs => some (foldC c cs)
def foldI (c : Int) (cs : List Int) : Int := cs.foldl (fun a y => if decide (y < a) then y else a) c
def minI : List Int → Option Int
  | [] => none
  | c :: cs => some (foldI c cs)
theorem foldC_ok : ∀ (cs : List (Int × Nat)) (c : Int × Nat), (foldC c cs = c ∨ foldC c cs ∈ cs) ∧ (foldC c cs).1 ≤ c.1 ∧ ∀ y ∈ cs, (foldC c cs).1 ≤ y.1
  | [], c => ⟨.inl rfl, Int.le_refl _, fun y hy => by cases hy⟩
  | y :: cs, c => by
    show (foldC (if ltC y c then y else c) cs = c ∨ foldC (if ltC y c then y else c) cs ∈ y :: cs) ∧ _
    cases h : ltC y c with
    | true =>
      obtain ⟨h1, h2, h3⟩ := foldC_ok cs y
      have h4 : y.1 ≤ c.1 := by
        unfold ltC at h
        rw [decide_eq_true_iff] at h
        omega
      simp only [if_true]
      refine ⟨.inr (h1.elim (fun e => by rw [e]; exact List.mem_cons_self) fun e => List.mem_cons_of_mem _ e), ?_, fun z hz => ?_⟩
      · show (foldC (if ltC y c then y else c) cs).1 ≤ c.1
        rw [h]; exact Int.le_trans h2 h4
      · show (foldC (if ltC y c then y else c) cs).1 ≤ z.1
        rw [h]
        rcases List.mem_cons.mp hz with rfl | hz
        · exact h2
        · exact h3 z hz
    | false =>
      obtain ⟨h1, h2, h3⟩ := foldC_ok cs c
      have h4 : c.1 ≤ y.1 := by
        unfold ltC at h
        rw [decide_eq_false_iff_not] at h
        omega
      simp only [Bool.false_eq_true, if_false]
      refine ⟨h1.elim .inl fun e => .inr (List.mem_cons_of_mem _ e), ?_, fun z hz => ?_⟩
      · show (foldC (if ltC y c then y else c) cs).1 ≤ c.1
        rw [h]; exact h2
      · show (foldC (if ltC y c then y else c) cs).1 ≤ z.1
        rw [h]
        rcases List.mem_cons.mp hz with rfl | hz
        · exact Int.le_trans h2 h4
        · exact h3 z hz
theorem foldI_ok : ∀ (cs : List Int) (c : Int), (foldI c cs = c ∨ foldI c cs ∈ cs) ∧ foldI c cs ≤ c ∧ ∀ y ∈ cs, foldI c cs ≤ y
  | [], c => ⟨.inl rfl, Int.le_refl _, fun y hy => by cases hy⟩
  | y :: cs, c => by
    have e : foldI c (y :: cs) = foldI (if y < c then y else c) cs := by
      unfold foldI
      rw [List.foldl_cons]
      congr 1
      by_cases h : y < c <;> simp [h]
    rw [e]
    by_cases h : y < c
    · obtain ⟨h1, h2, h3⟩ := foldI_ok cs y
      rw [if_pos h]
      refine ⟨.inr (h1.elim (fun e => by rw [e]; exact List.mem_cons_self) fun e => List.mem_cons_of_mem _ e), by omega, fun z hz => ?_⟩
      rcases List.mem_cons.mp hz with rfl | hz
      · exact h2
      · exact h3 z hz
    · obtain ⟨h1, h2, h3⟩ := foldI_ok cs c
      rw [if_neg h]
      refine ⟨h1.elim .inl fun e => .inr (List.mem_cons_of_mem _ e), h2, fun z hz => ?_⟩
      rcases List.mem_cons.mp hz with rfl | hz
      · omega
      · exact h3 z hz
theorem minC_mem {cs : List (Int × Nat)} {m : Int × Nat} (h : minC cs = some m) : m ∈ cs ∧ ∀ y ∈ cs, m.1 ≤ y.1 := by
  cases cs with
  | nil => cases h
  | cons c cs =>
    obtain rfl : foldC c cs = m := Option.some.inj h
    obtain ⟨h1, h2, h3⟩ := foldC_ok cs c
    refine ⟨h1.elim (fun e => by rw [e]; exact List.mem_cons_self) fun e => List.mem_cons_of_mem _ e, fun y hy => ?_⟩
    rcases List.mem_cons.mp hy with rfl | hy
    · exact h2
    · exact h3 y hy
theorem minC_some {cs : List (Int × Nat)} (h : cs ≠ []) : ∃ m, minC cs = some m := by
  cases cs with
  | nil => exact absurd rfl h
  | cons c cs => exact ⟨_, rfl⟩
theorem minI_mem {cs : List Int} {m : Int} (h : minI cs = some m) : m ∈ cs ∧ ∀ y ∈ cs, m ≤ y := by
  cases cs with
  | nil => cases h
  | cons c cs =>
    obtain rfl : foldI c cs = m := Option.some.inj h
    obtain ⟨h1, h2, h3⟩ := foldI_ok cs c
    refine ⟨h1.elim (fun e => by rw [e]; exact List.mem_cons_self) fun e => List.mem_cons_of_mem _ e, fun y hy => ?_⟩
    rcases List.mem_cons.mp hy with rfl | hy
    · exact h2
    · exact h3 y hy
theorem minI_of {cs : List Int} {m : Int} (h1 : m ∈ cs) (h2 : ∀ y ∈ cs, m ≤ y) : minI cs = some m := by
  cases e : minI cs with
  | none => cases cs with
    | nil => cases h1
    | cons c cs => cases e
  | some k =>
    obtain ⟨h3, h4⟩ := minI_mem e
    have a := h2 k h3
    have b := h4 m h1
    rw [show k = m by omega]
theorem minI_C (cs : List (Int × Nat)) : minI (cs.map (·.1)) = (minC cs).map (·.1) := by
  cases e : minC cs with
  | none => cases cs with
    | nil => rfl
    | cons c cs => cases e
  | some m =>
    obtain ⟨h1, h2⟩ := minC_mem e
    exact minI_of (List.mem_map.mpr ⟨m, h1, rfl⟩) fun y hy => by
      obtain ⟨c, hc, rfl⟩ := List.mem_map.mp hy
      exact h2 c hc
def candP (c : Int × Nat) : PyData := .tuple [.int c.1, .int (c.2 : Nat)]
theorem candD_P (c : Int × Nat) : toP (candD c) = some (candP c) := by simp [candD, candP, toP, toPs]
theorem cands_P : ∀ cs : List (Int × Nat), toPs (cs.map candD) = some (cs.map candP)
  | [] => rfl
  | c :: cs => by simp [toPs, candD_P, cands_P cs]
theorem candP_lt (a b : Int × Nat) : dataLt (candP a) (candP b) = ltC a b := by
  unfold candP ltC
  rw [dataLt_ii]
theorem min2_C : ∀ (cs : List (Int × Nat)) (c : Int × Nat), (minD2 (candD c, candP c) ((cs.map candD).zip (cs.map candP))).1 = candD (foldC c cs)
  | [], c => rfl
  | y :: cs, c => by
    simp only [List.map_cons, List.zip_cons_cons, minD2, List.foldl_cons, candP_lt, foldC]
    cases h : ltC y c with
    | true => simp only [if_true]; exact min2_C cs y
    | false => simp only [Bool.false_eq_true, if_false]; exact min2_C cs c
theorem depth_cands : ∀ cs : List (Int × Nat), PyData.depthAll (cs.map candP) ≤ 1
  | [] => by simp [PyData.depthAll]
  | c :: cs => by
    have := depth_cands cs
    simp [PyData.depthAll, candP, PyData.depth]
    omega
theorem gMin_C {cs : List (Int × Nat)} {m : Int × Nat} (h : minC cs = some m) : gMinL (.lst (cs.map candD)) = some (candD m) := by
  cases cs with
  | nil => cases h
  | cons c cs =>
    obtain rfl : foldC c cs = m := Option.some.inj h
    have ha : DP.alikeB (candP c :: cs.map candP) = true := by
      unfold DP.alikeB
      rw [Bool.and_eq_true, List.all_eq_true, List.all_eq_true]
      have hm : ∀ x ∈ candP c :: cs.map candP, ∃ y, x = candP y := fun x hx => by
        rcases List.mem_cons.mp hx with rfl | hx
        · exact ⟨c, rfl⟩
        · obtain ⟨y, _, rfl⟩ := List.mem_map.mp hx
          exact ⟨y, rfl⟩
      refine ⟨fun x hx => List.all_eq_true.mpr fun y hy => ?_, fun x hx => ?_⟩
      · obtain ⟨a, rfl⟩ := hm x hx
        obtain ⟨b, rfl⟩ := hm y hy
        simp [candP, alike, alikeAll]
      · obtain ⟨a, rfl⟩ := hm x hx
        rfl
    have hd : PyData.depthAll (candP c :: cs.map candP) ≤ 60 := Nat.le_trans (depth_cands (c :: cs)) (by decide)
    show gMinL (.lst (candD c :: cs.map candD)) = _
    simp only [gMinL, candD_P, cands_P]
    rw [if_pos (by rw [ha, Bool.true_and]; exact decide_eq_true hd), min2_C]
theorem ints_P : ∀ cs : List Int, toPs (cs.map D.int) = some (cs.map PyData.int)
  | [] => rfl
  | c :: cs => by simp [toPs, toP, ints_P cs]
theorem min2_I : ∀ (cs : List Int) (c : Int), (minD2 (.int c, .int c) ((cs.map D.int).zip (cs.map PyData.int))).1 = .int (foldI c cs)
  | [], c => rfl
  | y :: cs, c => by
    simp only [List.map_cons, List.zip_cons_cons, minD2, List.foldl_cons, dataLt_int, foldI]
    cases h : decide (y < c) with
    | true => simp only [if_true]; exact min2_I cs y
    | false => simp only [Bool.false_eq_true, if_false]; exact min2_I cs c
theorem gMin_I {cs : List Int} {m : Int} (h : minI cs = some m) : gMinL (.lst (cs.map .int)) = some (.int m) := by
  cases cs with
  | nil => cases h
  | cons c cs =>
    obtain rfl : foldI c cs = m := Option.some.inj h
    have ha : DP.alikeB (.int c :: cs.map PyData.int) = true := by
      unfold DP.alikeB
      rw [Bool.and_eq_true, List.all_eq_true, List.all_eq_true]
      have hm : ∀ x ∈ PyData.int c :: cs.map PyData.int, ∃ y, x = PyData.int y := fun x hx => by
        rcases List.mem_cons.mp hx with rfl | hx
        · exact ⟨c, rfl⟩
        · obtain ⟨y, _, rfl⟩ := List.mem_map.mp hx
          exact ⟨y, rfl⟩
      refine ⟨fun x hx => List.all_eq_true.mpr fun y hy => ?_, fun x hx => ?_⟩
      · obtain ⟨a, rfl⟩ := hm x hx
        obtain ⟨b, rfl⟩ := hm y hy
        rfl
      · obtain ⟨a, rfl⟩ := hm x hx
        rfl
    have hd : PyData.depthAll (.int c :: cs.map PyData.int) ≤ 60 := by
      have : ∀ xs : List Int, PyData.depthAll (xs.map PyData.int) = 0 := fun xs => by
        induction xs with
        | nil => simp [PyData.depthAll]
        | cons x xs ih => simp [PyData.depthAll, PyData.depth, ih]
      exact Nat.le_trans (Nat.le_of_eq (this (c :: cs))) (by decide)
    show gMinL (.lst (.int c :: cs.map .int)) = _
    simp only [gMinL, toP, ints_P]
    rw [if_pos (by rw [ha, Bool.true_and]; exact decide_eq_true hd), min2_I]
end k15
end DP
end
section
set_option Elab.async false
set_option linter.all false
set_option maxRecDepth 100000
set_option maxHeartbeats 1000000
namespace DP
namespace k15
open PySem PySem.Spec PyProof.Rows L2
theorem e_row2 (a b : D) : fn_is_row [.d (.tup [a, b]), .d (.int 2)] = .ok (.d (.bl true)) [] := by rfl
theorem last_take {gs : List (Int × Int)} {i : Nat} {a : Int × Int} (h : gs[i]? = some a) : L2.atI ((gs.take (i + 1)).map gD) (-1) = some (gD a) := by
  rw [atI_last, List.getLast?_map]
  have : (gs.take (i + 1)).getLast? = some a := by
    have hi := (List.getElem?_eq_some_iff.mp h).1
    rw [List.getLast?_eq_getElem?, List.length_take, List.getElem?_take]
    rw [if_pos (by omega)]
    rw [show min (i + 1) gs.length - 1 = i by omega, h]
  rw [this]; rfl
theorem e_is_gauge {gs : List (Int × Int)} (gg : GOk gs) {i : Nat} {a : Int × Int} (h : gs[i]? = some a) : fn_is_gauge [.d (gD a), .d (.tup ((gs.take i).map gD))] = .ok (.d (.bl true)) [] := by
  have hi := (List.getElem?_eq_some_iff.mp h).1
  have r := gg.rg a (List.mem_of_getElem? h)
  have l5 := gg.l5
  have w1 := e_is_within a.1 0 99
  have w2 := e_is_within a.2 0 99
  have hl : ((gs.take i).map gD).length = i := by rw [List.length_map, List.length_take]; omega
  have e2 := e_row2 (.int a.1) (.int a.2)
  cases i with
  | zero =>
    have z : eqD (.int 0) (.int 0) = some true := by rw [eqD_int]; rfl
    simp [fn_is_gauge, m_is_gauge, gD, e2, w1, w2, r.1.1, r.1.2, r.2.1, r.2.2, z, mkFn, stOf, finF, withRefs, refs, sSeq, thenS, sNx, sBad, sDrop, retW, sRet, sIf, mFz, endS, asgW, fs_d, fs_no, fs_o, sSet, sUnp, tgT, tgN, setNs, setN, sPar, putAt, sPut, sAugL, sAug, isL, sAppL, sAppend, sExtend, okApp, okExt, bnd, ret, rd, W.fzD, fz, mV, mC, m2, rd2, gI, gMod, gDiv, gPow, fAdd, fMul, mB, mNone, isN, okB, mCh, mIf, mNot, mNotV, argW, aNil, aCons, allD, mTup, mLst, rd1, rdL2, gLen, gInt, gAbs, gSum, gAll, gAny, fTupOf, fLstOf, mFld, fldD, putD, gIx, oNone, oSome, fSl, mSl, mRev, mNeg, gIsi, gIsiT, tysOf, tyN, tyM, knownC, mIdxT, mIdxL, idxEnd, Item, srcOf, mSeq, b62, mRng1, mRng2, mRng3, mZipT, mEnumT, mCall, callW, argsOf, slotsOf, tagOf, putBack, mMeth, mMake, makeW, putFld, sFldS, mCallL2, okW, backS, wipeS, Src.items, Src.ok, gEq, gNe, gIn, gNotIn, ixN, at_0, at_1, at_2, at_3, at_4]
  | succ i =>
    obtain ⟨b, hb⟩ : ∃ b, gs[i]? = some b := ⟨gs[i], by simp [show i < gs.length by omega]⟩
    have z := last_take hb
    have d := gg.dec i b a hb h
    have ne : eqD (.int ((i + 1 : Nat) : Int)) (.int 0) = some false := by
      rw [eqD_int]; congr 1
    generalize (gs.take (i + 1)).map gD = A at hl z ⊢
    simp only [gD] at z
    have hl2 : (A.length : Int) = ((i + 1 : Nat) : Int) := by rw [hl]
    have ne2 : eqD (.int ((i : Nat) + 1 : Int)) (.int 0) = some false := by simpa using ne
    simp [fn_is_gauge, m_is_gauge, gD, e2, w1, w2, r.1.1, r.1.2, r.2.1, r.2.2, hl, ne2, z, d, mkFn, stOf, finF, withRefs, refs, sSeq, thenS, sNx, sBad, sDrop, retW, sRet, sIf, mFz, endS, asgW, fs_d, fs_no, fs_o, sSet, sUnp, tgT, tgN, setNs, setN, sPar, putAt, sPut, sAugL, sAug, isL, sAppL, sAppend, sExtend, okApp, okExt, bnd, ret, rd, W.fzD, fz, mV, mC, m2, rd2, gI, gMod, gDiv, gPow, fAdd, fMul, mB, mNone, isN, okB, mCh, mIf, mNot, mNotV, argW, aNil, aCons, allD, mTup, mLst, rd1, rdL2, gLen, gInt, gAbs, gSum, gAll, gAny, fTupOf, fLstOf, mFld, fldD, putD, gIx, oNone, oSome, fSl, mSl, mRev, mNeg, gIsi, gIsiT, tysOf, tyN, tyM, knownC, mIdxT, mIdxL, idxEnd, Item, srcOf, mSeq, b62, mRng1, mRng2, mRng3, mZipT, mEnumT, mCall, callW, argsOf, slotsOf, tagOf, putBack, mMeth, mMake, makeW, putFld, sFldS, mCallL2, okW, backS, wipeS, Src.items, Src.ok, gEq, gNe, gIn, gNotIn, ixN, at_0, at_1, at_2, at_3, at_4]
theorem e_first_gauge {gs : List (Int × Int)} (gg : GOk gs) : fn_first_wrong [.d (gsD gs), .d (.int 1), .d (.int 5), .d (.fn "is_gauge")] = .ok (.d .non) [] := by
  have h : ∃ s', fo_first_wrong_1 [.d (gsD gs), .d (.int 1), .d (.int 5), .d (.fn "is_gauge"), .no, .no] = .ok .nx s' ∧ ∃ a b, s' = [.d (gsD gs), .d (.int 1), .d (.int 5), .d (.fn "is_gauge"), a, b] ∧ freeS a = true ∧ freeS b = true := by
    refine forL_all (t := tgT [4, 5]) (b := bo_first_wrong_0) (fun _ s => ∃ a b, s = [.d (gsD gs), .d (.int 1), .d (.int 5), .d (.fn "is_gauge"), a, b] ∧ freeS a = true ∧ freeS b = true) (its := (gs.map gD).zipIdx.map fun p => .many [.int (p.2 : Nat), p.1]) (i := 0) (st := [.d (gsD gs), .d (.int 1), .d (.int 5), .d (.fn "is_gauge"), .no, .no]) ⟨.no, .no, rfl, rfl, rfl⟩ ?_
    rintro j it s hj ⟨a, b, rfl, fa, fb⟩
    rw [List.getElem?_map] at hj
    simp only [Option.map_eq_some_iff] at hj
    obtain ⟨⟨x, k⟩, hj, rfl⟩ := hj
    rw [List.getElem?_zipIdx] at hj
    simp only [Option.map_eq_some_iff, Nat.zero_add, Prod.mk.injEq, List.getElem?_map] at hj
    obtain ⟨_, ⟨r, hr, rfl⟩, rfl, rfl⟩ := hj
    have hjl : j ≤ (gs.map gD).length := by rw [List.length_map]; exact Nat.le_of_lt (List.getElem?_eq_some_iff.mp hr).1
    refine ⟨[.d (gsD gs), .d (.int 1), .d (.int 5), .d (.fn "is_gauge"), .d (.int (j : Nat)), .d (gD r)], [.d (gsD gs), .d (.int 1), .d (.int 5), .d (.fn "is_gauge"), .d (.int (j : Nat)), .d (gD r)], by simp [tgT, setNs, setN, bnd, ret, fa, fb], .inl ?_, _, _, rfl, rfl, rfl⟩
    have e := e_is_gauge gg hr
    have ec : cutG (gs.map gD) none (some (j : Int)) = (gs.map gD).take j := cut_take hjl
    have e' : fn_is_gauge [.d (gD r), .d (.tup ((gs.map gD).take j))] = .ok (.d (.bl true)) [] := by rw [← List.map_take]; exact e
    simp [bo_first_wrong_0, gsD, ec, e', mkFn, stOf, finF, withRefs, refs, sSeq, thenS, sNx, sBad, sDrop, retW, sRet, sIf, mFz, endS, asgW, fs_d, fs_no, fs_o, sSet, sUnp, tgT, tgN, setNs, setN, sPar, putAt, sPut, sAugL, sAug, isL, sAppL, sAppend, sExtend, okApp, okExt, bnd, ret, rd, W.fzD, fz, mV, mC, m2, rd2, gI, gMod, gDiv, gPow, fAdd, fMul, mB, mNone, isN, okB, mCh, mIf, mNot, mNotV, argW, aNil, aCons, allD, mTup, mLst, rd1, rdL2, gLen, gInt, gAbs, gSum, gAll, gAny, fTupOf, fLstOf, mFld, fldD, putD, gIx, oNone, oSome, fSl, mSl, mRev, mNeg, gIsi, gIsiT, tysOf, tyN, tyM, knownC, mIdxT, mIdxL, idxEnd, Item, srcOf, mSeq, b62, mRng1, mRng2, mRng3, mZipT, mEnumT, mCall, callW, argsOf, slotsOf, tagOf, putBack, mMeth, mMake, makeW, putFld, sFldS, mCallL2, okW, backS, wipeS, Src.items, Src.ok, gEq, gNe, gIn, gNotIn, ixN, at_0, at_1, at_2, at_3, at_4]
  obtain ⟨s', h1, a, b, rfl, _, _⟩ := h
  have hl := gg.l5
  have hl1 := gg.l1
  have g1 : (1 : Int) ≤ (gs.length : Nat) := by omega
  have g2 : ((gs.length : Nat) : Int) ≤ 5 := by omega
  unfold gsD at h1 ⊢
  simp [fn_first_wrong, m_first_wrong, h1, g1, g2, mkFn, stOf, finF, withRefs, refs, sSeq, thenS, sNx, sBad, sDrop, retW, sRet, sIf, mFz, endS, asgW, fs_d, fs_no, fs_o, sSet, sUnp, tgT, tgN, setNs, setN, sPar, putAt, sPut, sAugL, sAug, isL, sAppL, sAppend, sExtend, okApp, okExt, bnd, ret, rd, W.fzD, fz, mV, mC, m2, rd2, gI, gMod, gDiv, gPow, fAdd, fMul, mB, mNone, isN, okB, mCh, mIf, mNot, mNotV, argW, aNil, aCons, allD, mTup, mLst, rd1, rdL2, gLen, gInt, gAbs, gSum, gAll, gAny, fTupOf, fLstOf, mFld, fldD, putD, gIx, oNone, oSome, fSl, mSl, mRev, mNeg, gIsi, gIsiT, tysOf, tyN, tyM, knownC, mIdxT, mIdxL, idxEnd, Item, srcOf, mSeq, b62, mRng1, mRng2, mRng3, mZipT, mEnumT, mCall, callW, argsOf, slotsOf, tagOf, putBack, mMeth, mMake, makeW, putFld, sFldS, mCallL2, okW, backS, wipeS, Src.items, Src.ok, gEq, gNe, gIn, gNotIn, ixN, at_0, at_1, at_2, at_3, at_4]
theorem e_require_gauges {gs : List (Int × Int)} (gg : GOk gs) {L : Int} (h0 : 0 ≤ L) (h1 : L ≤ 300) : fn_require_gauges [.d (gsD gs), .d (.int L)] = .ok (.d .non) [] := by
  have e := e_first_gauge gg
  have w := e_is_within L 0 300
  generalize gsD gs = G at e ⊢
  simp [fn_require_gauges, m_require_gauges, e, w, h0, h1, mkFn, stOf, finF, withRefs, refs, sSeq, thenS, sNx, sBad, sDrop, retW, sRet, sIf, mFz, endS, asgW, fs_d, fs_no, fs_o, sSet, sUnp, tgT, tgN, setNs, setN, sPar, putAt, sPut, sAugL, sAug, isL, sAppL, sAppend, sExtend, okApp, okExt, bnd, ret, rd, W.fzD, fz, mV, mC, m2, rd2, gI, gMod, gDiv, gPow, fAdd, fMul, mB, mNone, isN, okB, mCh, mIf, mNot, mNotV, argW, aNil, aCons, allD, mTup, mLst, rd1, rdL2, gLen, gInt, gAbs, gSum, gAll, gAny, fTupOf, fLstOf, mFld, fldD, putD, gIx, oNone, oSome, fSl, mSl, mRev, mNeg, gIsi, gIsiT, tysOf, tyN, tyM, knownC, mIdxT, mIdxL, idxEnd, Item, srcOf, mSeq, b62, mRng1, mRng2, mRng3, mZipT, mEnumT, mCall, callW, argsOf, slotsOf, tagOf, putBack, mMeth, mMake, makeW, putFld, sFldS, mCallL2, okW, backS, wipeS, Src.items, Src.ok, gEq, gNe, gIn, gNotIn, ixN, at_0, at_1, at_2, at_3, at_4]
end k15
end DP
end
section
set_option Elab.async false
set_option linter.all false
set_option maxRecDepth 100000
set_option maxHeartbeats 1000000
namespace DP
namespace k15
open PySem PySem.Spec PyProof.Rows L2
/-! ### the least costs -/
def T (rs : List Row) (gs : List (Int × Int)) : Nat → Nat → Int → Option Int
  | 0, _, _ => none
  | f + 1, k, left => (minC (cands rs gs (T rs gs f) k left)).map (·.1)
def E (rs : List Row) (gs : List (Int × Int)) (k : Nat) (left : Int) : Option Int := T rs gs (rs.length - k) k left
theorem kids_gt {rs : List Row} (g : Good rs) {k j : Nat} (h : j ∈ kidsL rs (some k)) : k < j ∧ j < rs.length := by
  obtain ⟨h1, h2⟩ := kids_mem.mp h
  exact ⟨up_lt g h1 h2, h1⟩
theorem cands_congr {rs : List Row} {gs : List (Int × Int)} {A B : Nat → Int → Option Int} {k : Nat} {left : Int} (h : ∀ j ∈ kidsL rs (some k), ∀ r, A j r = B j r) : cands rs gs A k left = cands rs gs B k left := by
  unfold cands
  congr 1
  funext p
  unfold candG
  congr 3
  exact List.map_congr_left fun j hj => h j hj _
theorem T_enough {rs : List Row} {gs : List (Int × Int)} (g : Good rs) : ∀ (f k : Nat) (left : Int), k < rs.length → rs.length - k ≤ f → T rs gs f k left = E rs gs k left
  | 0, k, left, hk, h => by omega
  | f + 1, k, left, hk, h => by
    unfold E
    obtain ⟨m, hm⟩ : ∃ m, rs.length - k = m + 1 := ⟨rs.length - k - 1, by omega⟩
    rw [hm]
    show (minC (cands rs gs (T rs gs f) k left)).map (·.1) = (minC (cands rs gs (T rs gs m) k left)).map (·.1)
    rw [cands_congr (A := T rs gs f) (B := T rs gs m) fun j hj r => ?_]
    obtain ⟨a, b⟩ := kids_gt g hj
    rw [T_enough g f j r b (by omega), T_enough g m j r b (by omega)]
termination_by f => f
decreasing_by all_goals omega
theorem E_rec {rs : List Row} {gs : List (Int × Int)} (g : Good rs) {k : Nat} {left : Int} (hk : k < rs.length) : E rs gs k left = (minC (cands rs gs (E rs gs) k left)).map (·.1) := by
  rw [← T_enough g (rs.length + 1) k left hk (by omega)]
  show (minC (cands rs gs (T rs gs rs.length) k left)).map (·.1) = _
  rw [cands_congr (A := T rs gs rs.length) (B := E rs gs) fun j hj r => T_enough g _ j r (kids_gt g hj).2 (by omega)]
def rowT (rs : List Row) (gs : List (Int × Int)) (L k : Nat) : List D := (List.range (L + 1)).map fun l => optD (E rs gs k ((l : Nat) : Int))
def tabL (rs : List Row) (gs : List (Int × Int)) (L p : Nat) : List D := (List.range rs.length).map fun j => if p ≤ j then .tup (rowT rs gs L j) else .non
theorem tab_at {rs : List Row} {gs : List (Int × Int)} {L p j : Nat} (hj : j < rs.length) (hp : p ≤ j) : (tabL rs gs L p)[j]? = some (.tup (rowT rs gs L j)) := by
  unfold tabL
  simp [hj, hp]
theorem rowT_at {rs : List Row} {gs : List (Int × Int)} {L j : Nat} {r : Int} (h0 : 0 ≤ r) (h1 : r ≤ L) : L2.atI (rowT rs gs L j) r = some (optD (E rs gs j r)) := by
  obtain ⟨n, rfl⟩ : ∃ n : Nat, r = n := ⟨r.toNat, by omega⟩
  rw [atI_nat]
  unfold rowT
  simp [show n < L + 1 by omega]
theorem tab_ok {rs : List Row} {gs : List (Int × Int)} (g : Good rs) {L p k l : Nat} (hp : p ≤ k + 1) (hl : l ≤ L) : TabOk rs (E rs gs) k ((l : Nat) : Int) (tabL rs gs L p) := by
  intro j hj r h0 h1
  obtain ⟨a, b⟩ := kids_gt g hj
  exact ⟨rowT rs gs L j, tab_at b (by omega), rowT_at h0 (by omega)⟩
theorem tab_set {rs : List Row} {gs : List (Int × Int)} {L k : Nat} (hk : k < rs.length) : (tabL rs gs L (k + 1)).set k (.tup (rowT rs gs L k)) = tabL rs gs L k := by
  refine List.ext_getElem? fun i => ?_
  by_cases hi : i < rs.length
  · by_cases e : k = i
    · subst e
      rw [List.getElem?_set_self (by unfold tabL; simpa using hi), tab_at hi (Nat.le_refl _)]
    · rw [List.getElem?_set_ne e]
      unfold tabL
      simp only [List.getElem?_map, List.getElem?_range hi, Option.map_some]
      by_cases h : k ≤ i
      · rw [if_pos (by omega), if_pos h]
      · rw [if_neg (by omega), if_neg h]
  · rw [List.getElem?_eq_none (by unfold tabL; simp; omega), List.getElem?_eq_none (by unfold tabL; simp; omega)]
theorem mcall5R {F : Fn} {m1 m2 m3 m4 : M W} {i : Nat} {x1 x2 x3 x4 : D} {o : OD} {w : W} {st : St} (h1 : m1 st = .ok (.d x1) st) (h2 : m2 st = .ok (.d x2) st) (h3 : m3 st = .ok (.d x3) st) (h4 : m4 st = .ok (.d x4) st) (h5 : st[i]? = some (.o none o)) (h : F [.d x1, .d x2, .d x3, .d x4, .r o] = .ok w [o]) :
    mCall 5 F [] (aCons m1 (aCons m2 (aCons m3 (aCons m4 (aCons (mV i) aNil))))) st = .ok w st := by
  have e : mV i st = .ok (.b i) st := by unfold mV; rw [h5]
  have q : aCons m1 (aCons m2 (aCons m3 (aCons m4 (aCons (mV i) aNil)))) st = .ok [.d x1, .d x2, .d x3, .d x4, .b i] st := by
    simp [aCons, aNil, bnd, ret, h1, h2, h3, h4, e, argW]
  have hset : st.set i (.o none o) = st := by
    obtain ⟨hl, he⟩ := List.getElem?_eq_some_iff.mp h5
    rw [← he]; exact List.set_getElem_self hl
  unfold mCall
  rw [bnd_ok q]
  unfold callW
  simp [argsOf, h5, slotsOf, h, putBack, tagOf, hset]
theorem mcall5 {F : Fn} {m1 m2 m3 m4 m5 : M W} {x1 x2 x3 x4 x5 : D} {w : W} {st : St} (h1 : m1 st = .ok (.d x1) st) (h2 : m2 st = .ok (.d x2) st) (h3 : m3 st = .ok (.d x3) st) (h4 : m4 st = .ok (.d x4) st) (h5 : m5 st = .ok (.d x5) st) (h : F [.d x1, .d x2, .d x3, .d x4, .d x5] = .ok w []) :
    mCall 5 F [] (aCons m1 (aCons m2 (aCons m3 (aCons m4 (aCons m5 aNil))))) st = .ok w st := by
  have q : aCons m1 (aCons m2 (aCons m3 (aCons m4 (aCons m5 aNil)))) st = .ok [.d x1, .d x2, .d x3, .d x4, .d x5] st := by
    simp [aCons, aNil, bnd, ret, h1, h2, h3, h4, h5, argW]
  unfold mCall
  rw [bnd_ok q]
  unfold callW
  simp [argsOf, slotsOf, h, putBack]
theorem mcall3 {F : Fn} {m1 m2 m3 : M W} {x1 x2 x3 : D} {w : W} {st : St} (h1 : m1 st = .ok (.d x1) st) (h2 : m2 st = .ok (.d x2) st) (h3 : m3 st = .ok (.d x3) st) (h : F [.d x1, .d x2, .d x3] = .ok w []) :
    mCall 3 F [] (aCons m1 (aCons m2 (aCons m3 aNil))) st = .ok w st := by
  have q : aCons m1 (aCons m2 (aCons m3 aNil)) st = .ok [.d x1, .d x2, .d x3] st := by
    simp [aCons, aNil, bnd, ret, h1, h2, h3, argW]
  unfold mCall
  rw [bnd_ok q]
  unfold callW
  simp [argsOf, slotsOf, h, putBack]
theorem mcall4 {F : Fn} {m1 m2 m3 m4 : M W} {x1 x2 x3 x4 : D} {w : W} {st : St} (h1 : m1 st = .ok (.d x1) st) (h2 : m2 st = .ok (.d x2) st) (h3 : m3 st = .ok (.d x3) st) (h4 : m4 st = .ok (.d x4) st) (h : F [.d x1, .d x2, .d x3, .d x4] = .ok w []) :
    mCall 4 F [] (aCons m1 (aCons m2 (aCons m3 (aCons m4 aNil)))) st = .ok w st := by
  have q : aCons m1 (aCons m2 (aCons m3 (aCons m4 aNil))) st = .ok [.d x1, .d x2, .d x3, .d x4] st := by
    simp [aCons, aNil, bnd, ret, h1, h2, h3, h4, argW]
  unfold mCall
  rw [bnd_ok q]
  unfold callW
  simp [argsOf, slotsOf, h, putBack]
theorem cands_nil {cs : List (Int × Nat)} : eqD (.lst (cs.map candD)) (.lst []) = some cs.isEmpty := by
  have hl : ∀ cs : List (Int × Nat), PyData.canLayAll0 (cs.map candP) = true := fun cs => by
    induction cs with
    | nil => rfl
    | cons c cs ih => simp [PyData.canLayAll0, candP, PyData.canLay0, ih]
  rw [eqD_nil (cands_P cs) (hl cs) (Nat.le_trans (depth_cands cs) (by decide))]
  cases cs <;> rfl
/-- the entry that is told by the choices -/
theorem entry_v {a : Nat} {cs : List (Int × Nat)} {st : St} (h : st[a]? = some (.d (.lst (cs.map candD)))) :
    mIf (mB (m2 fNe (mV a) (mLst (aNil)))) (m2 (rd2 gIx) (bnd (aCons (mV a) (aNil)) (rd1 gMinL)) (mC (.int 0))) (mC .non) st = .ok (.d (optD ((minC cs).map (·.1)))) st := by
  have e1 : mB (m2 fNe (mV a) (mLst (aNil))) st = .ok (!cs.isEmpty) st := by
    have e : m2 fNe (mV a) (mLst (aNil)) st = .ok (.d (.bl (!cs.isEmpty))) st := by
      unfold m2
      rw [bnd_ok (mVd h), bnd_ok (show mLst aNil st = .ok (.o (.lst [])) st from rfl)]
      have := cands_nil (cs := cs)
      generalize cs.map candD = w at this ⊢
      simp [rd2, rd, fz, gNe, this]
    exact mBd e
  rw [mIfB e1]
  cases hm : minC cs with
  | none => cases cs with
    | nil => rfl
    | cons c cs => cases hm
  | some m =>
    have hne : cs.isEmpty = false := by cases cs with | nil => cases hm | cons _ _ => rfl
    rw [hne]
    have g := gMin_C hm
    have e3 : bnd (aCons (mV a) (aNil)) (rd1 gMinL) st = .ok (.d (candD m)) st := by
      rw [bnd_ok (aC1 (mVd h))]
      simp [argW, rd1, rd, g]
    show m2 (rd2 gIx) (bnd (aCons (mV a) (aNil)) (rd1 gMinL)) (mC (.int 0)) st = _
    exact ixC (X := candD m) (.inl rfl) e3 at_0
end k15
end DP
end
section
set_option Elab.async false
set_option linter.all false
set_option maxRecDepth 100000
set_option maxHeartbeats 1000000
namespace DP
namespace k15
open PySem PySem.Spec PyProof.Rows L2
theorem app_v {i : Nat} {t : Option Nat} {acc : List D} {x : D} {m : M W} {st : St} (hi : st[i]? = some (.o t (.lst acc))) (hl : acc.length < 1000000) (hm : m st = .ok (.d x) st) : sAppend (mV i) (aCons m aNil) st = .ok .nx (st.set i (.o t (.lst (acc ++ [x])))) := by
  have e2 : mV i st = .ok (.b i) st := by unfold mV; rw [hi]
  unfold sAppend sAppL
  rw [bnd_ok e2]
  have e3 : isL (.b i) st = true := by simp [isL, hi]
  rw [if_pos e3, bnd_ok (aC1 hm)]
  simp [argW, hi, okApp, hl]
theorem ixN_nat {n k : Nat} (h : k < n) : ixN n ((k : Nat) : Int) = some k := by
  unfold ixN
  simp
  omega
theorem put_v {i : Nat} {t : Option Nat} {ds : List D} {x : D} {k : Nat} {me mk : M W} {st : St} (he : me st = .ok (.d x) st) (hi : st[i]? = some (.o t (.lst ds))) (hk : mk st = .ok (.d (.int (k : Nat))) st) (hl : k < ds.length) : sPut me (mV i) mk st = .ok .nx (st.set i (.o t (.lst (ds.set k x)))) := by
  have e2 : mV i st = .ok (.b i) st := by unfold mV; rw [hi]
  unfold sPut
  rw [bnd_ok he, bnd_ok e2, bnd_ok hk]
  simp [W.fzD, putAt, hi, ixN_nat hl]
def tbS (h : Har) (gs : List (Int × Int)) (L p k : Nat) (acc : List D) (a6 a7 : Sl) : St := [.d h.d, .d (gsD gs), .d (.int (L : Nat)), .o none (.lst (tabL h.rows gs L p)), .d (.int (k : Nat)), .o none (.lst acc), a6, a7]
theorem tb_turn {h : Har} (g : Good h.rows) {gs : List (Int × Int)} (gg : GOk gs) {L k l : Nat} {acc : List D} {a7 : Sl} (hk : k < h.rows.length) (hl : l ≤ L) (ha : acc.length ≤ 1000) (f7 : pln a7) :
    ∃ b7, bo_tables_0 (tbS h gs L (k + 1) k acc (.d (.int (l : Nat))) a7) = .ok .nx (tbS h gs L (k + 1) k (acc ++ [optD (E h.rows gs k ((l : Nat) : Int))]) (.d (.int (l : Nat))) b7) ∧ pln b7 := by
  have e := e_choicesR g gg hk (tab_ok (gs := gs) g (L := L) (p := k + 1) (k := k) (l := l) (Nat.le_refl _) hl)
  have s1 := setD (i := 7) (fzo (mcall5R (st := tbS h gs L (k + 1) k acc (.d (.int (l : Nat))) a7) (m1 := mV 0) (m2 := mV 1) (m3 := mV 4) (m4 := mV 6) (i := 3) (mVd rfl) (mVd rfl) (mVd rfl) (mVd rfl) rfl e)) (show _ = some a7 from rfl) f7.free
  have s1 : sSet 7 (mFz (mCall 5 fn_choices [] (aCons (mV 0) (aCons (mV 1) (aCons (mV 4) (aCons (mV 6) (aCons (mV 3) (aNil)))))))) (tbS h gs L (k + 1) k acc (.d (.int (l : Nat))) a7) = .ok .nx (tbS h gs L (k + 1) k acc (.d (.int (l : Nat))) (.d (.lst ((cands h.rows gs (E h.rows gs) k ((l : Nat) : Int)).map candD)))) := s1
  refine ⟨.d (.lst ((cands h.rows gs (E h.rows gs) k ((l : Nat) : Int)).map candD)), seq_nx s1 ?_, pln_d _⟩
  have v := entry_v (a := 7) (cs := cands h.rows gs (E h.rows gs) k ((l : Nat) : Int)) (st := tbS h gs L (k + 1) k acc (.d (.int (l : Nat))) (.d (.lst ((cands h.rows gs (E h.rows gs) k ((l : Nat) : Int)).map candD)))) rfl
  rw [← E_rec g hk] at v
  exact app_v (i := 5) (t := none) (acc := acc) rfl (by omega) v
theorem tb_inner {h : Har} (g : Good h.rows) {gs : List (Int × Int)} (gg : GOk gs) {L k : Nat} {a6 a7 : Sl} (hk : k < h.rows.length) (hL : L ≤ 300) (f6 : pln a6) (f7 : pln a7) :
    ∃ b6 b7, fo_tables_1 (tbS h gs L (k + 1) k [] a6 a7) = .ok .nx (tbS h gs L (k + 1) k (rowT h.rows gs L k) b6 b7) ∧ pln b6 ∧ pln b7 := by
  obtain ⟨s', e, b6, b7, q6, q7, rfl⟩ := forL_all (t := tgN 6) (b := bo_tables_0) (fun t s => ∃ b6 b7, pln b6 ∧ pln b7 ∧ s = tbS h gs L (k + 1) k ((List.range t).map fun l => optD (E h.rows gs k ((l : Nat) : Int))) b6 b7) (its := (List.range (L + 1)).map fun l => Item.one (.int ((l : Nat) : Int))) (i := 0) (st := tbS h gs L (k + 1) k [] a6 a7) ⟨a6, a7, f6, f7, rfl⟩ (fun j it s hit w => by
    obtain ⟨b6, b7, q6, q7, rfl⟩ := w
    rw [List.getElem?_map] at hit
    by_cases hj : j < L + 1
    · rw [List.getElem?_range hj] at hit
      simp only [Option.map_some, Option.some.injEq] at hit
      subst hit
      rw [Nat.zero_add]
      obtain ⟨c7, e1, r7⟩ := tb_turn g gg (acc := (List.range j).map fun l => optD (E h.rows gs k ((l : Nat) : Int))) (a7 := b7) hk (show j ≤ L by omega) (by simp; omega) q7
      refine ⟨tbS h gs L (k + 1) k ((List.range j).map fun l => optD (E h.rows gs k ((l : Nat) : Int))) (.d (.int (j : Nat))) b7, _, by simp [tgN, setN, tbS, q6.free], .inl e1, .d (.int (j : Nat)), c7, pln_d _, r7, ?_⟩
      rw [List.range_succ, List.map_append]
      rfl
    · rw [List.getElem?_eq_none (by simp; omega)] at hit
      cases hit)
  refine ⟨b6, b7, ?_, q6, q7⟩
  unfold fo_tables_1 sFor
  have r : m2 fAdd (mV 2) (mC (.int 1)) (tbS h gs L (k + 1) k [] a6 a7) = .ok (.d (.int ((L + 1 : Nat) : Int))) (tbS h gs L (k + 1) k [] a6 a7) := by
    simp [m2, bnd, tbS, mV, mC, ret, fAdd, rd]
  rw [bnd_ok (rngN r (by omega))]
  rw [List.length_map, List.length_range, Nat.zero_add] at e
  exact e
theorem tb_row {h : Har} (g : Good h.rows) {gs : List (Int × Int)} (gg : GOk gs) {L k : Nat} {acc : List D} {a6 a7 s5 : Sl} (hk : k < h.rows.length) (hL : L ≤ 300) (f5 : freeS s5 = true) (f6 : pln a6) (f7 : pln a7) :
    ∃ b6 b7, bo_tables_2 [.d h.d, .d (gsD gs), .d (.int (L : Nat)), .o none (.lst (tabL h.rows gs L (k + 1))), .d (.int (k : Nat)), s5, a6, a7] = .ok .nx (tbS h gs L k k (rowT h.rows gs L k) b6 b7) ∧ pln b6 ∧ pln b7 := by
  obtain ⟨b6, b7, e, q6, q7⟩ := tb_inner g gg (a6 := a6) (a7 := a7) hk hL f6 f7
  have s1 : sSet 5 (mLst (aNil)) [.d h.d, .d (gsD gs), .d (.int (L : Nat)), .o none (.lst (tabL h.rows gs L (k + 1))), .d (.int (k : Nat)), s5, a6, a7] = .ok .nx (tbS h gs L (k + 1) k [] a6 a7) := setO (show mLst aNil _ = .ok (.o (.lst [])) _ from rfl) (show _ = some s5 from rfl) f5
  refine ⟨b6, b7, seq_nx s1 (seq_nx e ?_), q6, q7⟩
  have p := put_v (i := 3) (t := none) (ds := tabL h.rows gs L (k + 1)) (k := k) (mk := mV 4) (st := tbS h gs L (k + 1) k (rowT h.rows gs L k) b6 b7) (tupB (i := 5) (t := none) (l := rowT h.rows gs L k) rfl) rfl (mVd rfl) (by unfold tabL; simpa using hk)
  rw [tab_set hk] at p
  exact p
end k15
end DP
end
section
set_option Elab.async false
set_option linter.all false
set_option maxRecDepth 100000
set_option maxHeartbeats 1000000
namespace DP
namespace k15
open PySem PySem.Spec PyProof.Rows L2
theorem rngDown {m : M W} {n : Nat} {st : St} (h : m st = .ok (.d (.int (((n : Nat) : Int) - 1))) st) (hn : n ≤ 1000) : mRng3 (aCons m (aCons (mNeg (mC (.int 1))) (aCons (mNeg (mC (.int 1))) (aNil)))) st = .ok (.fz ((List.range n).map fun t => .one (.int ((n - 1 - t : Nat) : Int)))) st := by
  have q : aCons m (aCons (mNeg (mC (.int 1))) (aCons (mNeg (mC (.int 1))) (aNil))) st = .ok [.d (.int (((n : Nat) : Int) - 1)), .d (.int (-1)), .d (.int (-1))] st := by
    have e : mNeg (mC (.int 1)) st = .ok (.d (.int (-1))) st := rfl
    simp [aCons, aNil, bnd, ret, h, e, argW]
  have hb : b62 (((n : Nat) : Int) - 1) = true := by unfold b62; rw [decide_eq_true_iff]; omega
  have hb2 : b62 (-1) = true := by rfl
  have e : ((((n : Nat) : Int) - 1) + 1).toNat = n := by omega
  have em : ((List.range n).map fun t => Item.one (.int ((n - 1 - t : Nat) : Int))) = (List.range n).map fun t => Item.one (.int ((((n : Nat) : Int) - 1) + (t : Nat) * -1)) := by
    refine List.map_congr_left fun t ht => ?_
    rw [List.mem_range] at ht
    congr 2
    omega
  unfold mRng3
  rw [bnd_ok q, em]
  simp [hb, hb2, e]
theorem tab_top {rs : List Row} {gs : List (Int × Int)} {L : Nat} : (List.replicate rs.length [D.non]).flatten = tabL rs gs L rs.length := by
  have : ∀ n, (List.replicate n [D.non]).flatten = List.replicate n .non := fun n => by
    induction n with
    | zero => rfl
    | succ n ih => rw [List.replicate_succ, List.flatten_cons, ih, List.replicate_succ]; rfl
  rw [this]
  unfold tabL
  refine List.ext_getElem? fun i => ?_
  by_cases hi : i < rs.length
  · simp [hi, show ¬ rs.length ≤ i by omega]
  · rw [List.getElem?_eq_none (by simp; omega), List.getElem?_eq_none (by simp; omega)]
theorem nones_v {m : M W} {n : Nat} {st : St} (h : m st = .ok (.d (.int (n : Nat))) st) (hn : n ≤ 1000) : m2 fMul (mLst (aCons (mC .non) (aNil))) m st = .ok (.o (.lst (List.replicate n [D.non]).flatten)) st := by
  have hz : 1 * n ≤ sizeLine := leSz (by omega)
  unfold m2
  rw [bnd_ok (show mLst (aCons (mC .non) (aNil)) st = .ok (.o (.lst [.non])) st from rfl), bnd_ok h]
  have hz : n ≤ sizeLine := leSz (by omega)
  have h2 : (n : Int) ≤ 100000 := by omega
  simp [fMul, rd, fz, hz, h2]
theorem rows_len {h : Har} {st : St} (h0 : st[0]? = some (.d h.d)) : bnd (aCons (mFld ["Harness"] "rows" (mV 0)) (aNil)) (rd1 gLen) st = .ok (.d (.int (h.rows.length : Nat))) st := by
  have e : mFld ["Harness"] "rows" (mV 0) st = .ok (.d (.tup (h.rows.map rowD))) st := by
    unfold mFld
    rw [bnd_ok (mVd h0)]
    simp [rd, Har.d, hf_rows, rowsD]
  have := lenT e
  rw [List.length_map] at this
  exact this
/-- the tables, as the program makes them -/
def tabsD (rs : List Row) (gs : List (Int × Int)) (L : Nat) : D := .tup (tabL rs gs L 0)
theorem e_tables {h : Har} (g : Good h.rows) {gs : List (Int × Int)} (gg : GOk gs) {L : Nat} (hL : L ≤ 300) : fn_tables [.d h.d, .d (gsD gs), .d (.int (L : Nat))] = .ok (.d (tabsD h.rows gs L)) [] := by
  have hl := g.l10
  have r := e_require_gauges gg (L := (L : Nat)) (by omega) (by omega)
  have s1 : sDrop (mCall 2 fn_require_gauges [] (aCons (mV 1) (aCons (mV 2) (aNil)))) [.d h.d, .d (gsD gs), .d (.int (L : Nat)), .no, .no, .no, .no, .no] = .ok .nx [.d h.d, .d (gsD gs), .d (.int (L : Nat)), .no, .no, .no, .no, .no] :=
    (bnd_ok (mcall2 (mVd rfl) (mVd rfl) r)).trans rfl
  have s2 : sSet 3 (m2 fMul (mLst (aCons (mC .non) (aNil))) (bnd (aCons (mFld ["Harness"] "rows" (mV 0)) (aNil)) (rd1 gLen))) [.d h.d, .d (gsD gs), .d (.int (L : Nat)), .no, .no, .no, .no, .no] = .ok .nx [.d h.d, .d (gsD gs), .d (.int (L : Nat)), .o none (.lst (tabL h.rows gs L h.rows.length)), .no, .no, .no, .no] := by
    rw [← tab_top]
    exact setO (nones_v (rows_len rfl) (by omega)) rfl rfl
  obtain ⟨s', e, a4, a5, a6, a7, q4, q5, q6, q7, rfl⟩ := forL_all (t := tgN 4) (b := bo_tables_2) (fun t s => ∃ a4 a5 a6 a7, pln a4 ∧ freeS a5 = true ∧ pln a6 ∧ pln a7 ∧ s = [.d h.d, .d (gsD gs), .d (.int (L : Nat)), .o none (.lst (tabL h.rows gs L (h.rows.length - t))), a4, a5, a6, a7]) (its := (List.range h.rows.length).map fun t => Item.one (.int ((h.rows.length - 1 - t : Nat) : Int))) (i := 0) (st := [.d h.d, .d (gsD gs), .d (.int (L : Nat)), .o none (.lst (tabL h.rows gs L h.rows.length)), .no, .no, .no, .no]) ⟨.no, .no, .no, .no, .inl rfl, rfl, .inl rfl, .inl rfl, rfl⟩ (fun j it s hit w => by
    obtain ⟨a4, a5, a6, a7, q4, q5, q6, q7, rfl⟩ := w
    rw [List.getElem?_map] at hit
    by_cases hj : j < h.rows.length
    · rw [List.getElem?_range hj] at hit
      simp only [Option.map_some, Option.some.injEq] at hit
      subst hit
      rw [Nat.zero_add]
      obtain ⟨p, hp⟩ : ∃ p, p = h.rows.length - 1 - j := ⟨_, rfl⟩
      rw [show h.rows.length - j = p + 1 by omega, ← hp]
      obtain ⟨b6, b7, e1, r6, r7⟩ := tb_row g gg (k := p) (acc := []) (a6 := a6) (a7 := a7) (s5 := a5) (by omega) hL q5 q6 q7
      refine ⟨[.d h.d, .d (gsD gs), .d (.int (L : Nat)), .o none (.lst (tabL h.rows gs L (p + 1))), .d (.int (p : Nat)), a5, a6, a7], _, by simp [tgN, setN, q4.free], .inl e1, .d (.int (p : Nat)), .o none (.lst (rowT h.rows gs L p)), b6, b7, pln_d _, rfl, r6, r7, ?_⟩
      rw [show h.rows.length - (j + 1) = p by omega]
      rfl
    · rw [List.getElem?_eq_none (by simp; omega)] at hit
      cases hit)
  rw [List.length_map, List.length_range, Nat.zero_add, Nat.sub_self] at e
  have s3 : fo_tables_3 [.d h.d, .d (gsD gs), .d (.int (L : Nat)), .o none (.lst (tabL h.rows gs L h.rows.length)), .no, .no, .no, .no] = .ok .nx [.d h.d, .d (gsD gs), .d (.int (L : Nat)), .o none (.lst (tabL h.rows gs L 0)), a4, a5, a6, a7] := by
    unfold fo_tables_3 sFor
    have e1 : m2 fSub (bnd (aCons (mFld ["Harness"] "rows" (mV 0)) (aNil)) (rd1 gLen)) (mC (.int 1)) [.d h.d, .d (gsD gs), .d (.int (L : Nat)), .o none (.lst (tabL h.rows gs L h.rows.length)), .no, .no, .no, .no] = .ok (.d (.int (((h.rows.length : Nat) : Int) - 1))) [.d h.d, .d (gsD gs), .d (.int (L : Nat)), .o none (.lst (tabL h.rows gs L h.rows.length)), .no, .no, .no, .no] := by
      unfold m2
      rw [bnd_ok (rows_len rfl)]
      rfl
    rw [bnd_ok (rngDown e1 (by omega))]
    exact e
  have s4 : sRet (bnd (aCons (mV 3) (aNil)) fTupOf) [.d h.d, .d (gsD gs), .d (.int (L : Nat)), .o none (.lst (tabL h.rows gs L 0)), a4, a5, a6, a7] = .ok (.ret (.d (tabsD h.rows gs L))) [.d h.d, .d (gsD gs), .d (.int (L : Nat)), .o none (.lst (tabL h.rows gs L 0)), a4, a5, a6, a7] :=
    (bnd_ok (tupB (i := 3) (t := none) rfl)).trans rfl
  exact (fn_of_m rfl (seq_nx s1 (seq_nx s2 (seq_nx s3 s4)))).trans rfl
end k15
end DP
end
section
set_option Elab.async false
set_option linter.all false
set_option maxRecDepth 100000
set_option maxHeartbeats 1000000
namespace DP
namespace k15
open PySem PySem.Spec PyProof.Rows L2
/-! ### the law's own tables -/
def costG (rs : List Row) (E : Nat → Int → Option Int) (k : Nat) (left : Int) (p : Int × Int) : Option Int :=
  if 0 ≤ left - p.1 * flow rs k then (sumO ((kidsL rs (some k)).map fun j => E j (left - p.1 * flow rs k))).map fun s => p.2 + s else none
theorem cost_cand {rs : List Row} {E : Nat → Int → Option Int} {k : Nat} {left : Int} (p : (Int × Int) × Nat) : (candG rs E k left p).map (·.1) = costG rs E k left p.1 := by
  unfold candG costG
  split
  · rw [Option.map_map]; rfl
  · rfl
theorem costs_cands {rs : List Row} {gs : List (Int × Int)} {E : Nat → Int → Option Int} {k : Nat} {left : Int} : (cands rs gs E k left).map (·.1) = gs.filterMap (costG rs E k left) := by
  unfold cands
  rw [List.map_filterMap]
  have : (fun x => Option.map (fun x => x.1) (candG rs E k left x)) = fun p : (Int × Int) × Nat => costG rs E k left p.1 := by
    funext p; exact cost_cand p
  rw [this]
  have e2 : gs.zipIdx.filterMap (fun p : (Int × Int) × Nat => costG rs E k left p.1) = (gs.zipIdx.map Prod.fst).filterMap (costG rs E k left) := by
    rw [List.filterMap_map]; rfl
  rw [e2, List.zipIdx_map_fst]
theorem ext2 {i : Nat} {t : Option Nat} {acc es : List D} {m : M W} {st : St} (hi : st[i]? = some (.o t (.lst acc))) (hl : acc.length + es.length ≤ 1000000) (hm : m st = .ok (.o (.lst es)) st) : sExtend (mV i) (aCons m aNil) st = .ok .nx (st.set i (.o t (.lst (acc ++ es)))) := by
  have e2 : mV i st = .ok (.b i) st := by unfold mV; rw [hi]
  unfold sExtend sAppL
  rw [bnd_ok e2]
  have e3 : isL (.b i) st = true := by simp [isL, hi]
  rw [if_pos e3, bnd_ok (aC1 hm)]
  simp [argW, fz, hi, okExt, rd, hl]
def optP : Option Int → PyData
  | none => .none
  | some v => .int v
theorem opts_P : ∀ os : List (Option Int), toPs (os.map optD) = some (os.map optP)
  | [] => rfl
  | o :: os => by cases o <;> simp [toPs, toP, optD, optP, opts_P os]
theorem non_in {os : List (Option Int)} : inD .non (.lst (os.map optD)) = some (os.any Option.isNone) := by
  have hl : ∀ os : List (Option Int), PyData.canLayAll0 (os.map optP) = true := fun os => by
    induction os with
    | nil => rfl
    | cons o os ih => cases o <;> simp [PyData.canLayAll0, optP, PyData.canLay0, ih]
  have ha : ((os.map optP).any fun y => PyData.eqv y .none) = os.any Option.isNone := by
    rw [List.any_map]
    congr 1
    funext o
    cases o <;> simp [optP, PyData.eqv]
  simp only [inD, toP, opts_P]
  rw [if_pos (by simp [PyData.canLay0, hl os, PyData.depth]), ha]
theorem ixO {a j : Nat} {st : St} {t : Option Nat} {ds : List D} {x : D} {k : Int} (h4 : st[a]? = some (.o t (.lst ds))) (hj : st[j]? = some (.d (.int k))) (e : L2.atI ds k = some x) : m2 (rd2 gIx) (mV a) (mV j) st = .ok (.d x) st := by
  have e1 : mV a st = .ok (.b a) st := by unfold mV; rw [h4]
  unfold m2
  rw [bnd_ok e1, bnd_ok (mVd hj)]
  simp [rd2, rd, h4, fz, gIx, e]
def llS (rs : List Row) (gs : List (Int × Int)) (L p k : Nat) (a3 : Sl) (ents : List D) (l : Nat) (costs : List Int) (a10 a11 a12 a13 : Sl) : St := [.d (rowsD rs), .d (gsD gs), .d (.int (L : Nat)), a3, .d (.lst (vec rs.length (flow rs))), .o none (.lst (tabL rs gs L p)), .d (.int (k : Nat)), .o none (.lst ents), .d (.int (l : Nat)), .o none (.lst (costs.map .int)), a10, a11, a12, a13, .no]
theorem ll_parts {rs : List Row} (g : Good rs) {gs : List (Int × Int)} {L p k l : Nat} {a3 a10 a11 a13 : Sl} {ents : List D} {costs : List Int} {rest : Int} (hk : k < rs.length) (hp : p ≤ k + 1) (hl : l ≤ L) (h0 : 0 ≤ rest) (h1 : rest ≤ l) :
    lc_law_least_tables_0 (llS rs gs L p k a3 ents l costs a10 a11 (.d (.int rest)) a13) = .ok (.o (.lst (((kidsL rs (some k)).map fun j => E rs gs j rest).map optD))) (llS rs gs L p k a3 ents l costs a10 a11 (.d (.int rest)) a13) := by
  have e := e_law_kids g (k := some k) hk
  have src : mSeq (mCall 2 fn_law_kids [] (aCons (mV 0) (aCons (mV 6) (aNil)))) (llS rs gs L p k a3 ents l costs a10 a11 (.d (.int rest)) a13) = .ok (.fz ((kidsL rs (some k)).map fun j => .one (.int (j : Nat)))) (llS rs gs L p k a3 ents l costs a10 a11 (.d (.int rest)) a13) := by
    rw [srcO (mcall2 (mVd rfl) (mVd rfl) e)]
    unfold natsD
    rw [List.map_map]
    rfl
  rw [List.map_map]
  refine lcT (f := fun j => .int (j : Nat)) src (show _ = some Sl.no from rfl) (.inl rfl) (fun j hj => ?_) (by have := kids_len g (k := some k); omega)
  obtain ⟨es, e1, e2⟩ := tab_ok (gs := gs) g hp hl j hj rest h0 h1
  exact ⟨.d (optD (E rs gs j rest)), ixM (.inl rfl) (ixO (t := none) (ds := tabL rs gs L p) rfl rfl (by rw [atI_nat]; exact e1)) rfl e2, rfl⟩
theorem ll_turn {rs : List Row} (g : Good rs) {gs : List (Int × Int)} {L p k l : Nat} {a3 a12 a13 : Sl} {ents : List D} {costs : List Int} {o c : Int} (ho : 0 ≤ o ∧ o ≤ 99) (hk : k < rs.length) (hp : p ≤ k + 1) (hl : l ≤ L) (hc : costs.length ≤ 100) (f12 : pln a12) (f13 : pln a13) :
    ∃ b12 b13, bo_law_least_tables_1 (llS rs gs L p k a3 ents l costs (.d (.int o)) (.d (.int c)) a12 a13) = .ok .nx (llS rs gs L p k a3 ents l (costs ++ (costG rs (E rs gs) k ((l : Nat) : Int) (o, c)).toList) (.d (.int o)) (.d (.int c)) b12 b13) ∧ pln b12 ∧ pln b13 := by
  obtain ⟨rest, hr⟩ : ∃ rest, rest = (l : Int) - o * flow rs k := ⟨_, rfl⟩
  have s1 : sSet 12 (m2 fSub (mV 8) (m2 fMul (mV 10) (m2 (rd2 gIx) (mV 4) (mV 6)))) (llS rs gs L p k a3 ents l costs (.d (.int o)) (.d (.int c)) a12 a13) = .ok .nx (llS rs gs L p k a3 ents l costs (.d (.int o)) (.d (.int c)) (.d (.int rest)) a13) := by
    have hm : o.natAbs < 1152921504606846976 ∨ (flow rs k).natAbs < 1152921504606846976 := .inl (by omega)
    have e0 : m2 (rd2 gIx) (mV 4) (mV 6) (llS rs gs L p k a3 ents l costs (.d (.int o)) (.d (.int c)) a12 a13) = .ok (.d (.int (flow rs k))) (llS rs gs L p k a3 ents l costs (.d (.int o)) (.d (.int c)) a12 a13) := ixV (X := .lst (vec rs.length (flow rs))) (ds := vec rs.length (flow rs)) (.inr rfl) rfl rfl (vecA hk)
    have e1 : m2 fMul (mV 10) (m2 (rd2 gIx) (mV 4) (mV 6)) (llS rs gs L p k a3 ents l costs (.d (.int o)) (.d (.int c)) a12 a13) = .ok (.d (.int (o * flow rs k))) (llS rs gs L p k a3 ents l costs (.d (.int o)) (.d (.int c)) a12 a13) := by
      refine (bnd_ok (mVd rfl)).trans ((bnd_ok e0).trans ?_)
      simp [fMul, rd, hm]
    have e : m2 fSub (mV 8) (m2 fMul (mV 10) (m2 (rd2 gIx) (mV 4) (mV 6))) (llS rs gs L p k a3 ents l costs (.d (.int o)) (.d (.int c)) a12 a13) = .ok (.d (.int rest)) (llS rs gs L p k a3 ents l costs (.d (.int o)) (.d (.int c)) a12 a13) := by
      rw [hr]
      exact (bnd_ok (mVd rfl)).trans ((bnd_ok e1).trans rfl)
    exact setD e (show _ = some a12 from rfl) f12.free
  obtain ⟨os, hos⟩ : ∃ os : List (Option Int), os = (if 0 ≤ rest then (kidsL rs (some k)).map fun j => E rs gs j rest else [none]) := ⟨_, rfl⟩
  have lo : os.length ≤ 1000 := by
    rw [hos]
    split
    · have := kids_len g (k := some k); rw [List.length_map]; omega
    · decide
  have ec : costG rs (E rs gs) k ((l : Nat) : Int) (o, c) = (sumO os).map fun s => c + s := by
    unfold costG
    simp only [← hr]
    rw [hos]
    by_cases h0 : 0 ≤ rest
    · rw [if_pos h0, if_pos h0]
    · rw [if_neg h0, if_neg h0]; rfl
  have s2 : sSet 13 (mFz (mIf (mB (m2 fGe (mV 12) (mC (.int 0)))) (lc_law_least_tables_0) (mLst (aCons (mC .non) (aNil))))) (llS rs gs L p k a3 ents l costs (.d (.int o)) (.d (.int c)) (.d (.int rest)) a13) = .ok .nx (llS rs gs L p k a3 ents l costs (.d (.int o)) (.d (.int c)) (.d (.int rest)) (.d (.lst (os.map optD)))) := by
    have t1 : mB (m2 fGe (mV 12) (mC (.int 0))) (llS rs gs L p k a3 ents l costs (.d (.int o)) (.d (.int c)) (.d (.int rest)) a13) = .ok (decide (0 ≤ rest)) (llS rs gs L p k a3 ents l costs (.d (.int o)) (.d (.int c)) (.d (.int rest)) a13) := mBd rfl
    have e : mIf (mB (m2 fGe (mV 12) (mC (.int 0)))) (lc_law_least_tables_0) (mLst (aCons (mC .non) (aNil))) (llS rs gs L p k a3 ents l costs (.d (.int o)) (.d (.int c)) (.d (.int rest)) a13) = .ok (.o (.lst (os.map optD))) (llS rs gs L p k a3 ents l costs (.d (.int o)) (.d (.int c)) (.d (.int rest)) a13) := by
      rw [mIfB t1, hos]
      by_cases h0 : 0 ≤ rest
      · have hle : rest ≤ l := by
          have : 0 ≤ o * flow rs k := Int.mul_nonneg ho.1 (flow_nn g k)
          omega
        rw [if_pos (decide_eq_true h0), if_pos h0]
        exact ll_parts g hk hp hl h0 hle
      · rw [if_neg (by simpa using h0), if_neg h0]
        rfl
    exact setD (fzo e) (show _ = some a13 from rfl) f13.free
  refine ⟨.d (.int rest), .d (.lst (os.map optD)), seq_nx s1 (seq_nx s2 ?_), pln_d _, pln_d _⟩
  have t2 : mB (m2 fNotIn (mC .non) (mV 13)) (llS rs gs L p k a3 ents l costs (.d (.int o)) (.d (.int c)) (.d (.int rest)) (.d (.lst (os.map optD)))) = .ok (!os.any Option.isNone) (llS rs gs L p k a3 ents l costs (.d (.int o)) (.d (.int c)) (.d (.int rest)) (.d (.lst (os.map optD)))) := by
    refine mBd ((bnd_ok (show mC .non _ = .ok (.d .non) _ from rfl)).trans ((bnd_ok (mVd (x := .lst (os.map optD)) rfl)).trans ?_))
    simp [rd2, rd, gNotIn, non_in]
  have e3 : mIf (mB (m2 fNotIn (mC .non) (mV 13))) (mLst (aCons (m2 fAdd (mV 11) (bnd (aCons (mV 13) (aNil)) (rd1 gSum))) (aNil))) (mLst (aNil)) (llS rs gs L p k a3 ents l costs (.d (.int o)) (.d (.int c)) (.d (.int rest)) (.d (.lst (os.map optD)))) = .ok (.o (.lst ((costG rs (E rs gs) k ((l : Nat) : Int) (o, c)).toList.map .int))) (llS rs gs L p k a3 ents l costs (.d (.int o)) (.d (.int c)) (.d (.int rest)) (.d (.lst (os.map optD)))) := by
    rw [mIfB t2, ec]
    cases ha : os.any Option.isNone with
    | true =>
      have : sumO os = none := by unfold sumO; rw [ha]; rfl
      rw [this]; rfl
    | false =>
      have : sumO os = some (os.map fun o => o.getD 0).sum := by unfold sumO; rw [ha]; rfl
      rw [this]
      have q : m2 fAdd (mV 11) (bnd (aCons (mV 13) (aNil)) (rd1 gSum)) (llS rs gs L p k a3 ents l costs (.d (.int o)) (.d (.int c)) (.d (.int rest)) (.d (.lst (os.map optD)))) = .ok (.d (.int (c + (os.map fun o => o.getD 0).sum))) (llS rs gs L p k a3 ents l costs (.d (.int o)) (.d (.int c)) (.d (.int rest)) (.d (.lst (os.map optD)))) := by
        have q1 : bnd (aCons (mV 13) (aNil)) (rd1 gSum) (llS rs gs L p k a3 ents l costs (.d (.int o)) (.d (.int c)) (.d (.int rest)) (.d (.lst (os.map optD)))) = .ok (.d (.int (os.map fun o => o.getD 0).sum)) (llS rs gs L p k a3 ents l costs (.d (.int o)) (.d (.int c)) (.d (.int rest)) (.d (.lst (os.map optD)))) := by
          rw [bnd_ok (aC1 (mVd (x := .lst (os.map optD)) rfl))]
          simp [argW, rd1, rd, gSum, asInts_opt ha]
        exact (bnd_ok (mVd rfl)).trans ((bnd_ok q1).trans rfl)
      show mLst (aCons (m2 fAdd (mV 11) (bnd (aCons (mV 13) (aNil)) (rd1 gSum))) (aNil)) _ = _
      unfold mLst
      rw [bnd_ok (aC1 q)]
      rfl
  have e4 := ext2 (i := 9) (t := none) (acc := costs.map .int) (st := llS rs gs L p k a3 ents l costs (.d (.int o)) (.d (.int c)) (.d (.int rest)) (.d (.lst (os.map optD)))) rfl (by
    have : (costG rs (E rs gs) k ((l : Nat) : Int) (o, c)).toList.length ≤ 1 := by cases costG rs (E rs gs) k ((l : Nat) : Int) (o, c) <;> simp
    rw [List.length_map, List.length_map]; omega) e3
  rw [← List.map_append] at e4
  exact e4
end k15
end DP
end
section
set_option Elab.async false
set_option linter.all false
set_option maxRecDepth 100000
set_option maxHeartbeats 1000000
namespace DP
namespace k15
open PySem PySem.Spec PyProof.Rows L2
theorem ints_nil {cs : List Int} : eqD (.lst (cs.map .int)) (.lst []) = some cs.isEmpty := by
  have hl : ∀ cs : List Int, PyData.canLayAll0 (cs.map PyData.int) = true := fun cs => by
    induction cs with
    | nil => rfl
    | cons c cs ih => simp [PyData.canLayAll0, PyData.canLay0, ih]
  have hd : ∀ xs : List Int, PyData.depthAll (xs.map PyData.int) = 0 := fun xs => by
    induction xs with
    | nil => simp [PyData.depthAll]
    | cons x xs ih => simp [PyData.depthAll, PyData.depth, ih]
  rw [eqD_nil (ints_P cs) (hl cs) (by rw [hd]; omega)]
  cases cs <;> rfl
/-- a value that is read as a list -/
def lstAt (s : Option Sl) (ds : List D) : Prop := s = some (.d (.lst ds)) ∨ ∃ t, s = some (.o t (.lst ds))
theorem mV_lst {a : Nat} {ds : List D} {st : St} (h : lstAt st[a]? ds) : ∃ w, mV a st = .ok w st ∧ rd w st = some (.lst ds) ∧ rd (argW w) st = some (.lst ds) := by
  rcases h with h | ⟨t, h⟩
  · exact ⟨.d (.lst ds), by unfold mV; rw [h], rfl, rfl⟩
  · exact ⟨.b a, by unfold mV; rw [h], by simp [rd, h, fz], by simp [argW, rd, h, fz]⟩
theorem entryI {a : Nat} {cs : List Int} {st : St} (h : lstAt st[a]? (cs.map .int)) :
    mIf (mB (m2 fNe (mV a) (mLst (aNil)))) (bnd (aCons (mV a) (aNil)) (rd1 gMinL)) (mC .non) st = .ok (.d (optD (minI cs))) st := by
  obtain ⟨w, e1, e2, e3⟩ := mV_lst h
  have e4 : mB (m2 fNe (mV a) (mLst (aNil))) st = .ok (!cs.isEmpty) st := by
    have e : m2 fNe (mV a) (mLst (aNil)) st = .ok (.d (.bl (!cs.isEmpty))) st := by
      unfold m2
      rw [bnd_ok e1, bnd_ok (show mLst aNil st = .ok (.o (.lst [])) st from rfl)]
      have := ints_nil (cs := cs)
      generalize cs.map D.int = z at this e2
      show rd2 gNe w (.o (.lst [])) st = _
      have e5 : rd (.o (.lst [])) st = some (.lst []) := rfl
      unfold rd2
      rw [e2, e5]
      simp [gNe, this]
    exact mBd e
  rw [mIfB e4]
  cases hm : minI cs with
  | none => cases cs with
    | nil => rfl
    | cons c cs => cases hm
  | some m =>
    have hne : cs.isEmpty = false := by cases cs with | nil => cases hm | cons _ _ => rfl
    rw [hne]
    have g := gMin_I hm
    show bnd (aCons (mV a) (aNil)) (rd1 gMinL) st = _
    rw [bnd_ok (aC1 e1)]
    show rd1 gMinL [argW w] st = _
    unfold rd1
    simp only [e3, g]
    rfl
theorem ll_gs {rs : List Row} (g : Good rs) {gs0 : List (Int × Int)} {L p k l : Nat} {a3 : Sl} {ents : List D} (hk : k < rs.length) (hp : p ≤ k + 1) (hl : l ≤ L) :
    ∀ (gs : List (Int × Int)) (costs : List Int) (a10 a11 a12 a13 : Sl), (∀ q ∈ gs, 0 ≤ q.1 ∧ q.1 ≤ 99) → costs.length + gs.length ≤ 100 → pln a10 → pln a11 → pln a12 → pln a13 →
    ∃ b10 b11 b12 b13, forL (tgT [10, 11]) bo_law_least_tables_1 ((gs.map gD).map .one) (llS rs gs0 L p k a3 ents l costs a10 a11 a12 a13) = .ok .nx (llS rs gs0 L p k a3 ents l (costs ++ gs.filterMap (costG rs (E rs gs0) k ((l : Nat) : Int))) b10 b11 b12 b13) ∧ pln b10 ∧ pln b11 ∧ pln b12 ∧ pln b13
  | [], costs, a10, a11, a12, a13, _, _, p10, p11, p12, p13 => ⟨a10, a11, a12, a13, by simp [forL, ret], p10, p11, p12, p13⟩
  | (o, c) :: gs, costs, a10, a11, a12, a13, hq, hn, p10, p11, p12, p13 => by
    simp only [List.length_cons] at hn
    obtain ⟨b12, b13, e, q12, q13⟩ := ll_turn g (gs := gs0) (L := L) (p := p) (l := l) (a3 := a3) (ents := ents) (costs := costs) (c := c) (hq (o, c) List.mem_cons_self) hk hp hl (by omega) p12 p13
    have et : tgT [10, 11] (.one (gD (o, c))) (llS rs gs0 L p k a3 ents l costs a10 a11 a12 a13) = .ok () (llS rs gs0 L p k a3 ents l costs (.d (.int o)) (.d (.int c)) a12 a13) := by
      simp [tgT, gD, bnd, setN, setNs, llS, p10.free, p11.free, ret]
    have hl2 : (costG rs (E rs gs0) k ((l : Nat) : Int) (o, c)).toList.length ≤ 1 := by
      cases costG rs (E rs gs0) k ((l : Nat) : Int) (o, c) <;> simp
    obtain ⟨b10', b11', b12', b13', e2, r⟩ := ll_gs g (gs0 := gs0) (L := L) (p := p) (k := k) (l := l) (a3 := a3) (ents := ents) hk hp hl gs (costs ++ (costG rs (E rs gs0) k ((l : Nat) : Int) (o, c)).toList) (.d (.int o)) (.d (.int c)) b12 b13 (fun q m => hq q (List.mem_cons_of_mem _ m)) (by rw [List.length_append]; omega) (pln_d _) (pln_d _) q12 q13
    refine ⟨b10', b11', b12', b13', ?_, r⟩
    rw [List.map_cons, List.map_cons]
    unfold forL
    rw [et]
    dsimp only
    rw [bnd_ok e]
    dsimp only
    rw [e2, List.append_assoc]
    congr 3
    cases hc : costG rs (E rs gs0) k ((l : Nat) : Int) (o, c) with
    | none => simp [List.filterMap_cons, hc]
    | some v => simp [List.filterMap_cons, hc]
theorem ll_entry {rs : List Row} (g : Good rs) {gs : List (Int × Int)} (gg : GOk gs) {L p k l : Nat} {a3 s9 a10 a11 a12 a13 : Sl} {ents : List D} (hk : k < rs.length) (hp : p ≤ k + 1) (hl : l ≤ L) (he : ents.length ≤ 1000) (f9 : freeS s9 = true) (p10 : pln a10) (p11 : pln a11) (p12 : pln a12) (p13 : pln a13) :
    ∃ costs b10 b11 b12 b13, bo_law_least_tables_3 [.d (rowsD rs), .d (gsD gs), .d (.int (L : Nat)), a3, .d (.lst (vec rs.length (flow rs))), .o none (.lst (tabL rs gs L p)), .d (.int (k : Nat)), .o none (.lst ents), .d (.int (l : Nat)), s9, a10, a11, a12, a13, .no] = .ok .nx (llS rs gs L p k a3 (ents ++ [optD (E rs gs k ((l : Nat) : Int))]) l costs b10 b11 b12 b13) ∧ pln b10 ∧ pln b11 ∧ pln b12 ∧ pln b13 := by
  obtain ⟨b10, b11, b12, b13, e, q⟩ := ll_gs g (gs0 := gs) (L := L) (p := p) (k := k) (l := l) (a3 := a3) (ents := ents) hk hp hl gs [] a10 a11 a12 a13 (fun q hq => (gg.rg q hq).1) (by have := gg.l5; simp; omega) p10 p11 p12 p13
  have s1 : sSet 9 (mLst (aNil)) [.d (rowsD rs), .d (gsD gs), .d (.int (L : Nat)), a3, .d (.lst (vec rs.length (flow rs))), .o none (.lst (tabL rs gs L p)), .d (.int (k : Nat)), .o none (.lst ents), .d (.int (l : Nat)), s9, a10, a11, a12, a13, .no] = .ok .nx (llS rs gs L p k a3 ents l [] a10 a11 a12 a13) := setO (show mLst aNil _ = .ok (.o (.lst [])) _ from rfl) (show _ = some s9 from rfl) f9
  have s2 : fo_law_least_tables_2 (llS rs gs L p k a3 ents l [] a10 a11 a12 a13) = .ok .nx (llS rs gs L p k a3 ents l (gs.filterMap (costG rs (E rs gs) k ((l : Nat) : Int))) b10 b11 b12 b13) := by
    unfold fo_law_least_tables_2 sFor
    rw [bnd_ok (srcT (l := gs.map gD) (mVd rfl))]
    exact e
  refine ⟨gs.filterMap (costG rs (E rs gs) k ((l : Nat) : Int)), b10, b11, b12, b13, seq_nx s1 (seq_nx s2 ?_), q⟩
  have v := entryI (a := 9) (cs := gs.filterMap (costG rs (E rs gs) k ((l : Nat) : Int))) (st := llS rs gs L p k a3 ents l (gs.filterMap (costG rs (E rs gs) k ((l : Nat) : Int))) b10 b11 b12 b13) (.inr ⟨none, rfl⟩)
  have ev : minI (gs.filterMap (costG rs (E rs gs) k ((l : Nat) : Int))) = E rs gs k ((l : Nat) : Int) := by
    rw [← costs_cands, minI_C, ← E_rec g hk]
  rw [ev] at v
  exact app_v (i := 7) (t := none) (acc := ents) rfl (by omega) v
end k15
end DP
end
section
set_option Elab.async false
set_option linter.all false
set_option maxRecDepth 100000
set_option maxHeartbeats 1000000
namespace DP
namespace k15
open PySem PySem.Spec PyProof.Rows L2
/-- the states of the law's tables between the loops -/
def lkS (rs : List Row) (gs : List (Int × Int)) (L p : Nat) (a3 a6 s7 a8 s9 a10 a11 a12 a13 : Sl) : St := [.d (rowsD rs), .d (gsD gs), .d (.int (L : Nat)), a3, .d (.lst (vec rs.length (flow rs))), .o none (.lst (tabL rs gs L p)), a6, s7, a8, s9, a10, a11, a12, a13, .no]
theorem lk_inner {rs : List Row} (g : Good rs) {gs : List (Int × Int)} (gg : GOk gs) {L k : Nat} {a3 a8 s9 a10 a11 a12 a13 : Sl} (hk : k < rs.length) (hL : L ≤ 300) (f8 : pln a8) (f9 : freeS s9 = true) (p10 : pln a10) (p11 : pln a11) (p12 : pln a12) (p13 : pln a13) :
    ∃ b8 t9 b10 b11 b12 b13, fo_law_least_tables_4 (lkS rs gs L (k + 1) a3 (.d (.int (k : Nat))) (.o none (.lst [])) a8 s9 a10 a11 a12 a13) = .ok .nx (lkS rs gs L (k + 1) a3 (.d (.int (k : Nat))) (.o none (.lst (rowT rs gs L k))) b8 t9 b10 b11 b12 b13) ∧ pln b8 ∧ freeS t9 = true ∧ pln b10 ∧ pln b11 ∧ pln b12 ∧ pln b13 := by
  obtain ⟨s', e, b8, t9, b10, b11, b12, b13, q8, q9, q10, q11, q12, q13, rfl⟩ := forL_all (t := tgN 8) (b := bo_law_least_tables_3) (fun t s => ∃ b8 t9 b10 b11 b12 b13, pln b8 ∧ freeS t9 = true ∧ pln b10 ∧ pln b11 ∧ pln b12 ∧ pln b13 ∧ s = lkS rs gs L (k + 1) a3 (.d (.int (k : Nat))) (.o none (.lst ((List.range t).map fun l => optD (E rs gs k ((l : Nat) : Int))))) b8 t9 b10 b11 b12 b13) (its := (List.range (L + 1)).map fun l => Item.one (.int ((l : Nat) : Int))) (i := 0) (st := lkS rs gs L (k + 1) a3 (.d (.int (k : Nat))) (.o none (.lst [])) a8 s9 a10 a11 a12 a13) ⟨a8, s9, a10, a11, a12, a13, f8, f9, p10, p11, p12, p13, rfl⟩ (fun j it s hit w => by
    obtain ⟨b8, t9, b10, b11, b12, b13, q8, q9, q10, q11, q12, q13, rfl⟩ := w
    rw [List.getElem?_map] at hit
    by_cases hj : j < L + 1
    · rw [List.getElem?_range hj] at hit
      simp only [Option.map_some, Option.some.injEq] at hit
      subst hit
      rw [Nat.zero_add]
      obtain ⟨costs, c10, c11, c12, c13, e1, r10, r11, r12, r13⟩ := ll_entry g gg (a3 := a3) (s9 := t9) (a10 := b10) (a11 := b11) (a12 := b12) (a13 := b13) (ents := (List.range j).map fun l => optD (E rs gs k ((l : Nat) : Int))) (p := k + 1) hk (Nat.le_refl _) (show j ≤ L by omega) (by simp; omega) q9 q10 q11 q12 q13
      refine ⟨lkS rs gs L (k + 1) a3 (.d (.int (k : Nat))) (.o none (.lst ((List.range j).map fun l => optD (E rs gs k ((l : Nat) : Int))))) (.d (.int (j : Nat))) t9 b10 b11 b12 b13, _, by simp [tgN, setN, lkS, q8.free], .inl e1, .d (.int (j : Nat)), .o none (.lst (costs.map .int)), c10, c11, c12, c13, pln_d _, rfl, r10, r11, r12, r13, ?_⟩
      rw [List.range_succ, List.map_append]
      rfl
    · rw [List.getElem?_eq_none (by simp; omega)] at hit
      cases hit)
  refine ⟨b8, t9, b10, b11, b12, b13, ?_, q8, q9, q10, q11, q12, q13⟩
  unfold fo_law_least_tables_4 sFor
  have r : m2 fAdd (mV 2) (mC (.int 1)) (lkS rs gs L (k + 1) a3 (.d (.int (k : Nat))) (.o none (.lst [])) a8 s9 a10 a11 a12 a13) = .ok (.d (.int ((L + 1 : Nat) : Int))) (lkS rs gs L (k + 1) a3 (.d (.int (k : Nat))) (.o none (.lst [])) a8 s9 a10 a11 a12 a13) := by
    simp [m2, bnd, lkS, mV, mC, ret, fAdd, rd]
  rw [bnd_ok (rngN r (by omega))]
  rw [List.length_map, List.length_range, Nat.zero_add] at e
  exact e
theorem lk_row {rs : List Row} (g : Good rs) {gs : List (Int × Int)} (gg : GOk gs) {L t k : Nat} {a6 s7 a8 s9 a10 a11 a12 a13 : Sl} (hk : k < rs.length) (ht : k = rs.length - 1 - t) (hL : L ≤ 300) (f6 : pln a6) (f7 : freeS s7 = true) (f8 : pln a8) (f9 : freeS s9 = true) (p10 : pln a10) (p11 : pln a11) (p12 : pln a12) (p13 : pln a13) (htn : t < rs.length) :
    ∃ b8 t9 b10 b11 b12 b13, bo_law_least_tables_5 (lkS rs gs L (k + 1) (.d (.int (t : Nat))) a6 s7 a8 s9 a10 a11 a12 a13) = .ok .nx (lkS rs gs L k (.d (.int (t : Nat))) (.d (.int (k : Nat))) (.o none (.lst (rowT rs gs L k))) b8 t9 b10 b11 b12 b13) ∧ pln b8 ∧ freeS t9 = true ∧ pln b10 ∧ pln b11 ∧ pln b12 ∧ pln b13 := by
  obtain ⟨b8, t9, b10, b11, b12, b13, e, q⟩ := lk_inner g gg (a3 := .d (.int (t : Nat))) hk hL f8 f9 p10 p11 p12 p13
  have s1 : sSet 6 (m2 fSub (m2 fSub (bnd (aCons (mV 0) (aNil)) (rd1 gLen)) (mC (.int 1))) (mV 3)) (lkS rs gs L (k + 1) (.d (.int (t : Nat))) a6 s7 a8 s9 a10 a11 a12 a13) = .ok .nx (lkS rs gs L (k + 1) (.d (.int (t : Nat))) (.d (.int (k : Nat))) s7 a8 s9 a10 a11 a12 a13) := by
    have e0 : bnd (aCons (mV 0) (aNil)) (rd1 gLen) (lkS rs gs L (k + 1) (.d (.int (t : Nat))) a6 s7 a8 s9 a10 a11 a12 a13) = .ok (.d (.int (rs.length : Nat))) (lkS rs gs L (k + 1) (.d (.int (t : Nat))) a6 s7 a8 s9 a10 a11 a12 a13) := by
      have := lenT (m := mV 0) (st := lkS rs gs L (k + 1) (.d (.int (t : Nat))) a6 s7 a8 s9 a10 a11 a12 a13) (ds := rs.map rowD) (mVd rfl)
      rw [List.length_map] at this
      exact this
    have e1 : m2 fSub (bnd (aCons (mV 0) (aNil)) (rd1 gLen)) (mC (.int 1)) (lkS rs gs L (k + 1) (.d (.int (t : Nat))) a6 s7 a8 s9 a10 a11 a12 a13) = .ok (.d (.int ((rs.length : Nat) - 1 : Int))) (lkS rs gs L (k + 1) (.d (.int (t : Nat))) a6 s7 a8 s9 a10 a11 a12 a13) := (bnd_ok e0).trans rfl
    have e2 : m2 fSub (m2 fSub (bnd (aCons (mV 0) (aNil)) (rd1 gLen)) (mC (.int 1))) (mV 3) (lkS rs gs L (k + 1) (.d (.int (t : Nat))) a6 s7 a8 s9 a10 a11 a12 a13) = .ok (.d (.int (k : Nat))) (lkS rs gs L (k + 1) (.d (.int (t : Nat))) a6 s7 a8 s9 a10 a11 a12 a13) := by
      rw [show ((k : Nat) : Int) = ((rs.length : Nat) - 1 : Int) - (t : Nat) by omega]
      exact (bnd_ok e1).trans ((bnd_ok (mVd rfl)).trans rfl)
    exact setD e2 (show _ = some a6 from rfl) f6.free
  have s2 : sSet 7 (mLst (aNil)) (lkS rs gs L (k + 1) (.d (.int (t : Nat))) (.d (.int (k : Nat))) s7 a8 s9 a10 a11 a12 a13) = .ok .nx (lkS rs gs L (k + 1) (.d (.int (t : Nat))) (.d (.int (k : Nat))) (.o none (.lst [])) a8 s9 a10 a11 a12 a13) := setO (show mLst aNil _ = .ok (.o (.lst [])) _ from rfl) (show _ = some s7 from rfl) f7
  refine ⟨b8, t9, b10, b11, b12, b13, seq_nx s1 (seq_nx s2 (seq_nx e ?_)), q⟩
  have p := put_v (i := 5) (t := none) (ds := tabL rs gs L (k + 1)) (k := k) (mk := mV 6) (st := lkS rs gs L (k + 1) (.d (.int (t : Nat))) (.d (.int (k : Nat))) (.o none (.lst (rowT rs gs L k))) b8 t9 b10 b11 b12 b13) (tupB (i := 7) (t := none) (l := rowT rs gs L k) rfl) rfl (mVd rfl) (by unfold tabL; simpa using hk)
  rw [tab_set hk] at p
  exact p
theorem e_law_least_tables {rs : List Row} (g : Good rs) {gs : List (Int × Int)} (gg : GOk gs) {L : Nat} (hL : L ≤ 300) : fn_law_least_tables [.d (rowsD rs), .d (gsD gs), .d (.int (L : Nat))] = .ok (.d (tabsD rs gs L)) [] := by
  have hl := g.l10
  have lenR : ∀ {st : St}, st[0]? = some (.d (rowsD rs)) → bnd (aCons (mV 0) (aNil)) (rd1 gLen) st = .ok (.d (.int (rs.length : Nat))) st := fun {st} h => by
    have := lenT (m := mV 0) (st := st) (ds := rs.map rowD) (mVd h)
    rw [List.length_map] at this
    exact this
  have s1 : sPar 4 5 (mFz (mCall 1 fn_law_flows [] (aCons (mV 0) (aNil)))) (m2 fMul (mLst (aCons (mC .non) (aNil))) (bnd (aCons (mV 0) (aNil)) (rd1 gLen))) [.d (rowsD rs), .d (gsD gs), .d (.int (L : Nat)), .no, .no, .no, .no, .no, .no, .no, .no, .no, .no, .no, .no] = .ok .nx (lkS rs gs L rs.length .no .no .no .no .no .no .no .no .no) := by
    have := parDO (i := 4) (j := 5) (st := [.d (rowsD rs), .d (gsD gs), .d (.int (L : Nat)), .no, .no, .no, .no, .no, .no, .no, .no, .no, .no, .no, .no]) (fzo (mcall1 (m := mV 0) (mVd (i := 0) rfl) (e_law_flows g))) (nones_v (lenR rfl) (by omega)) rfl rfl rfl rfl
    rw [tab_top (gs := gs) (L := L)] at this
    exact this
  obtain ⟨s', e, a3, a6, s7, a8, s9, a10, a11, a12, a13, q3, q6, q7, q8, q9, q10, q11, q12, q13, rfl⟩ := forL_all (t := tgN 3) (b := bo_law_least_tables_5) (fun t s => ∃ a3 a6 s7 a8 s9 a10 a11 a12 a13, pln a3 ∧ pln a6 ∧ freeS s7 = true ∧ pln a8 ∧ freeS s9 = true ∧ pln a10 ∧ pln a11 ∧ pln a12 ∧ pln a13 ∧ s = lkS rs gs L (rs.length - t) a3 a6 s7 a8 s9 a10 a11 a12 a13) (its := (List.range rs.length).map fun t => Item.one (.int ((t : Nat) : Int))) (i := 0) (st := lkS rs gs L rs.length .no .no .no .no .no .no .no .no .no) ⟨.no, .no, .no, .no, .no, .no, .no, .no, .no, .inl rfl, .inl rfl, rfl, .inl rfl, rfl, .inl rfl, .inl rfl, .inl rfl, .inl rfl, rfl⟩ (fun j it s hit w => by
    obtain ⟨a3, a6, s7, a8, s9, a10, a11, a12, a13, q3, q6, q7, q8, q9, q10, q11, q12, q13, rfl⟩ := w
    rw [List.getElem?_map] at hit
    by_cases hj : j < rs.length
    · rw [List.getElem?_range hj] at hit
      simp only [Option.map_some, Option.some.injEq] at hit
      subst hit
      rw [Nat.zero_add]
      obtain ⟨p, hp⟩ : ∃ p, p = rs.length - 1 - j := ⟨_, rfl⟩
      rw [show rs.length - j = p + 1 by omega]
      obtain ⟨b8, t9, b10, b11, b12, b13, e1, r8, r9, r10, r11, r12, r13⟩ := lk_row g gg (t := j) (k := p) (by omega) hp hL q6 q7 q8 q9 q10 q11 q12 q13 hj
      refine ⟨lkS rs gs L (p + 1) (.d (.int (j : Nat))) a6 s7 a8 s9 a10 a11 a12 a13, _, by simp [tgN, setN, lkS, q3.free], .inl e1, .d (.int (j : Nat)), .d (.int (p : Nat)), .o none (.lst (rowT rs gs L p)), b8, t9, b10, b11, b12, b13, pln_d _, pln_d _, rfl, r8, r9, r10, r11, r12, r13, ?_⟩
      rw [show rs.length - (j + 1) = p by omega]
    · rw [List.getElem?_eq_none (by simp; omega)] at hit
      cases hit)
  rw [List.length_map, List.length_range, Nat.zero_add, Nat.sub_self] at e
  have s2 : fo_law_least_tables_6 (lkS rs gs L rs.length .no .no .no .no .no .no .no .no .no) = .ok .nx (lkS rs gs L 0 a3 a6 s7 a8 s9 a10 a11 a12 a13) := by
    unfold fo_law_least_tables_6 sFor
    rw [bnd_ok (rngN (lenR rfl) (by omega))]
    exact e
  have s3 : sRet (bnd (aCons (mV 5) (aNil)) fTupOf) (lkS rs gs L 0 a3 a6 s7 a8 s9 a10 a11 a12 a13) = .ok (.ret (.d (tabsD rs gs L))) (lkS rs gs L 0 a3 a6 s7 a8 s9 a10 a11 a12 a13) :=
    (bnd_ok (tupB (i := 5) (t := none) rfl)).trans rfl
  have q : m_law_least_tables [.d (rowsD rs), .d (gsD gs), .d (.int (L : Nat)), .no, .no, .no, .no, .no, .no, .no, .no, .no, .no, .no, .no] = .ok (.ret (.d (tabsD rs gs L))) (lkS rs gs L 0 a3 a6 s7 a8 s9 a10 a11 a12 a13) := seq_nx s1 (seq_nx s2 s3)
  generalize tabsD rs gs L = TD at q ⊢
  unfold fn_law_least_tables
  rw [fn_of_m (st := [.d (rowsD rs), .d (gsD gs), .d (.int (L : Nat)), .no, .no, .no, .no, .no, .no, .no, .no, .no, .no, .no, .no]) rfl q]
  rfl
/-! ### the least cost -/
def leastO (rs : List Row) (gs : List (Int × Int)) (L : Nat) : Option Int := sumO ((kidsL rs none).map fun j => E rs gs j (L : Int))
theorem tabs_at {rs : List Row} {gs : List (Int × Int)} {L j l : Nat} (hj : j < rs.length) (hl : l ≤ L) {a i b : Nat} {st : St} (h1 : st[a]? = some (.d (tabsD rs gs L))) (h2 : st[i]? = some (.d (.int (j : Nat)))) (h3 : st[b]? = some (.d (.int (l : Nat)))) : m2 (rd2 gIx) (m2 (rd2 gIx) (mV a) (mV i)) (mV b) st = .ok (.d (optD (E rs gs j (l : Int)))) st :=
  ixM (.inl rfl) (ixV (X := tabsD rs gs L) (.inl rfl) h1 h2 (by rw [atI_nat]; exact tab_at hj (Nat.zero_le _))) h3 (rowT_at (by omega) (by omega))
theorem e_least_cost {h : Har} (g : Good h.rows) {gs : List (Int × Int)} (gg : GOk gs) {L : Nat} (hL : L ≤ 300) : fn_least_cost [.d h.d, .d (gsD gs), .d (.int (L : Nat))] = .ok (.d (optD (leastO h.rows gs L))) [] := by
  have e := e_tables g gg hL
  have s1 : sSet 3 (mCall 3 fn_tables [] (aCons (mV 0) (aCons (mV 1) (aCons (mV 2) (aNil))))) [.d h.d, .d (gsD gs), .d (.int (L : Nat)), .no, .no] = .ok .nx [.d h.d, .d (gsD gs), .d (.int (L : Nat)), .d (tabsD h.rows gs L), .no] := setD (mcall3 (mVd rfl) (mVd rfl) (mVd rfl) e) rfl rfl
  have ek := e_children g (k := none) trivial
  have src : mSeq (mCall 2 fn_children [] (aCons (mV 0) (aCons (mC .non) (aNil)))) [.d h.d, .d (gsD gs), .d (.int (L : Nat)), .d (tabsD h.rows gs L), .no] = .ok (.fz ((kidsL h.rows none).map fun j => .one (.int (j : Nat)))) [.d h.d, .d (gsD gs), .d (.int (L : Nat)), .d (tabsD h.rows gs L), .no] := by
    rw [srcO (mcall2 (mVd rfl) (show mC .non _ = .ok (.d .non) _ from rfl) ek)]
    unfold natsD
    rw [List.map_map]
    rfl
  have q : lc_least_cost_0 [.d h.d, .d (gsD gs), .d (.int (L : Nat)), .d (tabsD h.rows gs L), .no] = .ok (.o (.lst (((kidsL h.rows none).map fun j => E h.rows gs j (L : Int)).map optD))) [.d h.d, .d (gsD gs), .d (.int (L : Nat)), .d (tabsD h.rows gs L), .no] := by
    rw [List.map_map]
    refine lcT (f := fun j => .int (j : Nat)) src (show _ = some Sl.no from rfl) (.inl rfl) (fun j hj => ⟨.d (optD (E h.rows gs j (L : Int))), tabs_at (kids_lt j hj) (Nat.le_refl L) rfl rfl rfl, rfl⟩) (by have := kids_len g (k := none); omega)
  have s2 := mcall1w q rfl (e_sum_told (os := (kidsL h.rows none).map fun j => E h.rows gs j (L : Int)) (by have := kids_len g (k := none); rw [List.length_map]; omega))
  exact (fn_of_m rfl (seq_nx s1 ((bnd_ok s2).trans rfl))).trans rfl
end k15
end DP
end
section
set_option Elab.async false
set_option linter.all false
set_option maxRecDepth 100000
set_option maxHeartbeats 1000000
namespace DP
namespace k15
open PySem PySem.Spec PyProof.Rows L2
/-! ### sums over the tree -/
theorem sub_rec {rs : List Row} (g : Good rs) (v : Nat → Int) {k : Nat} (hk : k < rs.length) : (S rs.length fun j => if onB rs k j then v j else 0) = v k + S rs.length fun c => if upI rs c = some k then (S rs.length fun j => if onB rs c j then v j else 0) else 0 := by
  have e0 : ∀ k, (S rs.length fun j => if onB rs k j then v j else 0) = S rs.length fun j => ind rs k j * v j := fun k => by
    refine S_congr fun j _ => ?_
    unfold ind
    cases onB rs k j <;> simp
  rw [e0 k, S_congr (g := fun j => (if j = k then v j else 0) + S rs.length (fun c => (if upI rs c = some k then ind rs c j else 0) * v j)) (fun j hj => by
    rw [ind_rec g k j hj, Int.add_mul, S_mul]
    congr 1
    by_cases h : k = j
    · subst h; simp
    · have h2 : ¬ j = k := fun z => h z.symm
      simp [h, h2]), S_add, S_one (fun j => v j) hk, S_swap]
  congr 1
  refine S_congr fun c _ => ?_
  rw [e0 c]
  by_cases h : upI rs c = some k
  · simp [h]
  · simp [h, S_zero]
theorem one_up {rs : List Row} (g : Good rs) {c : Nat} (hc : c < rs.length) (x : Int) : (S rs.length fun k => if upI rs c = some k then x else 0) = if upI rs c = none then 0 else x := by
  cases e : upI rs c with
  | none => simp [S_zero]
  | some j =>
    have hj : j < rs.length := Nat.lt_trans (up_lt g hc e) hc
    rw [S_congr (g := fun k => if k = j then x else 0) (fun k _ => by
      by_cases h : k = j
      · subst h; simp
      · have h2 : ¬ j = k := fun z => h z.symm
        simp [h, h2]), S_one (fun _ => x) hj]
    simp
theorem roots_sum {rs : List Row} (g : Good rs) {X f : Nat → Int} (h : ∀ k, k < rs.length → X k = f k + S rs.length fun c => if upI rs c = some k then X c else 0) : (S rs.length fun r => if upI rs r = none then X r else 0) = S rs.length f := by
  have h1 : S rs.length X = S rs.length f + S rs.length fun k => S rs.length fun c => if upI rs c = some k then X c else 0 := by
    rw [S_congr h, S_add]
  rw [S_swap] at h1
  have h2 : (S rs.length fun c => S rs.length fun k => if upI rs c = some k then X c else 0) = S rs.length fun c => if upI rs c = none then 0 else X c := S_congr fun c hc => one_up g hc (X c)
  have h3 : S rs.length X = (S rs.length fun r => if upI rs r = none then X r else 0) + S rs.length fun c => if upI rs c = none then 0 else X c := by
    rw [← S_add]
    refine S_congr fun c _ => ?_
    by_cases e : upI rs c = none
    · rw [if_pos e, if_pos e]; omega
    · rw [if_neg e, if_neg e]; omega
  rw [h2] at h1
  omega
theorem kids_sum {rs : List Row} (k : Option Nat) (x : Nat → Int) : ((kidsL rs k).map x).sum = S rs.length fun c => if upI rs c = k then x c else 0 := by
  unfold kidsL
  rw [S_filter]
  refine S_congr fun c _ => ?_
  by_cases h : upI rs c = k
  · simp [h]
  · have : (upI rs c == k) = false := by rw [beq_eq_false_iff_ne]; exact h
    simp [h, this]
theorem sumO_some {os : List (Option Int)} {v : Int} (h : sumO os = some v) : (∀ o ∈ os, o ≠ none) ∧ v = (os.map fun o => o.getD 0).sum := by
  unfold sumO at h
  split at h
  · cases h
  · rename_i ha
    refine ⟨fun o ho e => ha ?_, (Option.some.inj h).symm⟩
    rw [List.any_eq_true]
    exact ⟨o, ho, by rw [e]; rfl⟩
theorem sumO_of {os : List (Option Int)} (h : ∀ o ∈ os, o ≠ none) : sumO os = some (os.map fun o => o.getD 0).sum := by
  unfold sumO
  rw [if_neg]
  rw [List.any_eq_true]
  rintro ⟨o, ho, e⟩
  cases o with
  | none => exact h none ho rfl
  | some v => cases e
/-! ### what one choice tells -/
def gAt (gs : List (Int × Int)) (i : Nat) : Int × Int := gs.getD i (0, 0)
theorem gAt_of {gs : List (Int × Int)} {i : Nat} {x : Int × Int} (h : gs[i]? = some x) : gAt gs i = x := by
  unfold gAt; rw [List.getD_eq_getElem?_getD, h]; rfl
theorem cand_in {rs : List Row} {gs : List (Int × Int)} {F : Nat → Int → Option Int} {k i : Nat} {left s : Int} (hi : i < gs.length) (h0 : 0 ≤ left - (gAt gs i).1 * flow rs k) (hs : sumO ((kidsL rs (some k)).map fun j => F j (left - (gAt gs i).1 * flow rs k)) = some s) : ((gAt gs i).2 + s, i) ∈ cands rs gs F k left := by
  unfold cands
  rw [List.mem_filterMap]
  refine ⟨(gAt gs i, i), ?_, ?_⟩
  · rw [List.mem_zipIdx_iff_getElem?]
    unfold gAt
    simp [hi]
  · unfold candG
    simp only
    rw [if_pos h0, hs]
    rfl
theorem cand_out {rs : List Row} {gs : List (Int × Int)} {F : Nat → Int → Option Int} {k : Nat} {left : Int} {m : Int × Nat} (h : m ∈ cands rs gs F k left) : m.2 < gs.length ∧ 0 ≤ left - (gAt gs m.2).1 * flow rs k ∧ ∃ s, sumO ((kidsL rs (some k)).map fun j => F j (left - (gAt gs m.2).1 * flow rs k)) = some s ∧ m.1 = (gAt gs m.2).2 + s := by
  unfold cands at h
  rw [List.mem_filterMap] at h
  obtain ⟨p, hp, e⟩ := h
  have hz := zip_mem hp
  have hg := gAt_of hz
  have hl := (List.getElem?_eq_some_iff.mp hz).1
  unfold candG at e
  split at e
  · rename_i h0
    rw [Option.map_eq_some_iff] at e
    obtain ⟨s, e1, e2⟩ := e
    have e3 : m.2 = p.2 := by rw [← e2]
    rw [e3, hg]
    exact ⟨hl, h0, s, e1, by rw [← e2]⟩
  · cases e
end k15
end DP
end
section
set_option Elab.async false
set_option linter.all false
set_option maxRecDepth 100000
set_option maxHeartbeats 1000000
namespace DP
namespace k15
open PySem PySem.Spec PyProof.Rows L2
def drop (rs : List Row) (gs : List (Int × Int)) (a : Nat → Nat) (k : Nat) : Int := ((pth rs k).map fun j => (gAt gs (a j)).1 * flow rs j).sum
theorem drop_root {rs : List Row} {gs : List (Int × Int)} {a : Nat → Nat} {k : Nat} (e : upI rs k = none) : drop rs gs a k = (gAt gs (a k)).1 * flow rs k := by
  unfold drop; rw [pth_root e]; simp
theorem drop_step {rs : List Row} (g : Good rs) {gs : List (Int × Int)} {a : Nat → Nat} {k j : Nat} (hk : k < rs.length) (e : upI rs k = some j) : drop rs gs a k = drop rs gs a j + (gAt gs (a k)).1 * flow rs k := by
  unfold drop; rw [pth_step g hk (up_lt g hk e) e]; simp
theorem sum_le {α : Type} {l : List α} {f h : α → Int} (q : ∀ x ∈ l, f x ≤ h x) : (l.map f).sum ≤ (l.map h).sum := by
  induction l with
  | nil => exact Int.le_refl _
  | cons x xs ih =>
    have h1 := q x List.mem_cons_self
    have h2 := ih fun y hy => q y (List.mem_cons_of_mem _ hy)
    simp only [List.map_cons, List.sum_cons]
    omega
def loB (rs : List Row) (gs : List (Int × Int)) (a : Nat → Nat) (L : Int) (k : Nat) : Int := match upI rs k with
  | none => L
  | some j => L - drop rs gs a j
def costW (rs : List Row) (gs : List (Int × Int)) (a : Nat → Nat) (k : Nat) : Int := S rs.length fun j => if onB rs k j then (gAt gs (a j)).2 else 0
theorem loB_rest {rs : List Row} (g : Good rs) {gs : List (Int × Int)} {a : Nat → Nat} {L : Int} {k : Nat} (hk : k < rs.length) : loB rs gs a L k - (gAt gs (a k)).1 * flow rs k = L - drop rs gs a k := by
  unfold loB
  cases e : upI rs k with
  | none => rw [drop_root e]
  | some j => rw [drop_step g hk e]; simp only; omega
theorem E_lower {rs : List Row} (g : Good rs) {gs : List (Int × Int)} {a : Nat → Nat} {L : Int} (ha : ∀ k, k < rs.length → a k < gs.length) (hd : ∀ k, k < rs.length → drop rs gs a k ≤ L) :
    ∀ m k, rs.length - k ≤ m → k < rs.length → ∃ v, E rs gs k (loB rs gs a L k) = some v ∧ v ≤ costW rs gs a k := by
  intro m
  induction m with
  | zero => intro k h1 h2; omega
  | succ m ih =>
    intro k h1 hk
    have hr := loB_rest g (gs := gs) (a := a) (L := L) hk
    have hd' := hd k hk
    have kid : ∀ c ∈ kidsL rs (some k), ∃ v, E rs gs c (L - drop rs gs a k) = some v ∧ v ≤ costW rs gs a c := fun c hc => by
      obtain ⟨c1, c2⟩ := kids_gt g hc
      obtain ⟨v, e1, e2⟩ := ih c (by omega) c2
      have : loB rs gs a L c = L - drop rs gs a k := by
        unfold loB
        rw [(kids_mem.mp hc).2]
      rw [this] at e1
      exact ⟨v, e1, e2⟩
    have hs : sumO ((kidsL rs (some k)).map fun c => E rs gs c (L - drop rs gs a k)) = some (((kidsL rs (some k)).map fun c => E rs gs c (L - drop rs gs a k)).map fun o => o.getD 0).sum := sumO_of fun o ho => by
      obtain ⟨c, hc, rfl⟩ := List.mem_map.mp ho
      obtain ⟨v, e1, _⟩ := kid c hc
      rw [e1]; simp
    rw [List.map_map] at hs
    have hle : ((kidsL rs (some k)).map ((fun o => o.getD 0) ∘ fun c => E rs gs c (L - drop rs gs a k))).sum ≤ ((kidsL rs (some k)).map fun c => costW rs gs a c).sum := sum_le fun c hc => by
      obtain ⟨v, e1, e2⟩ := kid c hc
      simp only [Function.comp, e1, Option.getD_some]
      exact e2
    have hc := cand_in (rs := rs) (gs := gs) (F := E rs gs) (k := k) (i := a k) (left := loB rs gs a L k) (ha k hk) (by rw [hr]; omega) (by rw [hr]; exact hs)
    obtain ⟨mm, hm⟩ := minC_some (cs := cands rs gs (E rs gs) k (loB rs gs a L k)) (fun z => by rw [z] at hc; cases hc)
    refine ⟨mm.1, by rw [E_rec g hk, hm]; rfl, ?_⟩
    have h5 := (minC_mem hm).2 _ hc
    rw [kids_sum (some k) (fun c => costW rs gs a c)] at hle
    have h6 := sub_rec g (fun j => (gAt gs (a j)).2) hk
    have h7 : costW rs gs a k = (gAt gs (a k)).2 + S rs.length fun c => if upI rs c = some k then costW rs gs a c else 0 := h6
    simp only at h5
    omega
theorem least_lower {rs : List Row} (g : Good rs) {gs : List (Int × Int)} {a : Nat → Nat} {L : Nat} (ha : ∀ k, k < rs.length → a k < gs.length) (hd : ∀ k, k < rs.length → drop rs gs a k ≤ L) :
    ∃ t, leastO rs gs L = some t ∧ t ≤ S rs.length fun j => (gAt gs (a j)).2 := by
  have kid : ∀ c ∈ kidsL rs none, ∃ v, E rs gs c (L : Int) = some v ∧ v ≤ costW rs gs a c := fun c hc => by
    obtain ⟨c1, c2⟩ := kids_mem.mp hc
    obtain ⟨v, e1, e2⟩ := E_lower g ha hd (rs.length) c (by omega) c1
    have : loB rs gs a L c = L := by unfold loB; rw [c2]
    rw [this] at e1
    exact ⟨v, e1, e2⟩
  have hs : leastO rs gs L = some (((kidsL rs none).map fun c => E rs gs c (L : Int)).map fun o => o.getD 0).sum := sumO_of fun o ho => by
    obtain ⟨c, hc, rfl⟩ := List.mem_map.mp ho
    obtain ⟨v, e1, _⟩ := kid c hc
    rw [e1]; simp
  rw [List.map_map] at hs
  refine ⟨_, hs, ?_⟩
  have hle : ((kidsL rs none).map ((fun o => o.getD 0) ∘ fun c => E rs gs c (L : Int))).sum ≤ ((kidsL rs none).map fun c => costW rs gs a c).sum := sum_le fun c hc => by
    obtain ⟨v, e1, e2⟩ := kid c hc
    simp only [Function.comp, e1, Option.getD_some]
    exact e2
  rw [kids_sum none (fun c => costW rs gs a c)] at hle
  have := roots_sum g (X := costW rs gs a) (f := fun j => (gAt gs (a j)).2) fun k hk => sub_rec g (fun j => (gAt gs (a j)).2) hk
  omega
end k15
end DP
end
section
set_option Elab.async false
set_option linter.all false
set_option maxRecDepth 100000
set_option maxHeartbeats 1000000
namespace DP
namespace k15
open PySem PySem.Spec PyProof.Rows L2
/-! ### the gauges that are chosen -/
def loC (rs : List Row) (L : Nat) (ls : List Int) (k : Nat) : Int := match upI rs k with
  | none => L
  | some j => ls.getD j 0
def nuC (rs : List Row) (gs : List (Int × Int)) (L : Nat) (ls : List Int) (k : Nat) : Nat := ((minC (cands rs gs (E rs gs) k (loC rs L ls k))).getD (0, 0)).2
def LS (rs : List Row) (gs : List (Int × Int)) (L : Nat) : Nat → List Int
  | 0 => []
  | k + 1 => LS rs gs L k ++ [loC rs L (LS rs gs L k) k - (gAt gs (nuC rs gs L (LS rs gs L k) k)).1 * flow rs k]
theorem LS_len {rs : List Row} {gs : List (Int × Int)} {L : Nat} : ∀ k, (LS rs gs L k).length = k
  | 0 => rfl
  | k + 1 => by simp [LS, LS_len k]
def lf (rs : List Row) (gs : List (Int × Int)) (L j : Nat) : Int := (LS rs gs L (j + 1)).getD j 0
def nA (rs : List Row) (gs : List (Int × Int)) (L k : Nat) : Nat := nuC rs gs L (LS rs gs L k) k
def loA (rs : List Row) (gs : List (Int × Int)) (L k : Nat) : Int := match upI rs k with
  | none => L
  | some j => lf rs gs L j
theorem LS_at {rs : List Row} {gs : List (Int × Int)} {L : Nat} : ∀ {m j : Nat}, j < m → (LS rs gs L m).getD j 0 = lf rs gs L j
  | 0, j, h => by omega
  | m + 1, j, h => by
    by_cases e : j = m
    · subst e; rfl
    · have hj : j < m := by omega
      rw [← LS_at hj]
      show ((LS rs gs L m) ++ _).getD j 0 = _
      rw [List.getD_eq_getElem?_getD, List.getElem?_append_left (by rw [LS_len]; exact hj), ← List.getD_eq_getElem?_getD]
theorem lo_eq {rs : List Row} (g : Good rs) {gs : List (Int × Int)} {L k : Nat} (hk : k < rs.length) : loC rs L (LS rs gs L k) k = loA rs gs L k := by
  unfold loC loA
  cases e : upI rs k with
  | none => rfl
  | some j => exact LS_at (up_lt g hk e)
theorem lf_eq {rs : List Row} (g : Good rs) {gs : List (Int × Int)} {L k : Nat} (hk : k < rs.length) : lf rs gs L k = loA rs gs L k - (gAt gs (nA rs gs L k)).1 * flow rs k := by
  rw [← lo_eq g hk]
  unfold lf nA
  show ((LS rs gs L k) ++ [_]).getD k 0 = _
  rw [List.getD_eq_getElem?_getD, List.getElem?_append_right (by rw [LS_len]; exact Nat.le_refl k), LS_len, Nat.sub_self]
  rfl
/-- where there is an entry, the choice fits -/
theorem pick {rs : List Row} (g : Good rs) {gs : List (Int × Int)} {L k : Nat} (hk : k < rs.length) (h : E rs gs k (loA rs gs L k) ≠ none) : nA rs gs L k < gs.length ∧ 0 ≤ lf rs gs L k ∧ ∃ s, sumO ((kidsL rs (some k)).map fun j => E rs gs j (lf rs gs L k)) = some s ∧ E rs gs k (loA rs gs L k) = some ((gAt gs (nA rs gs L k)).2 + s) ∧
    minC (cands rs gs (E rs gs) k (loA rs gs L k)) = some ((gAt gs (nA rs gs L k)).2 + s, nA rs gs L k) := by
  rw [E_rec g hk] at h ⊢
  cases e : minC (cands rs gs (E rs gs) k (loA rs gs L k)) with
  | none => rw [e] at h; exact absurd rfl h
  | some m =>
    have en : nA rs gs L k = m.2 := by unfold nA nuC; rw [lo_eq g hk, e]; rfl
    obtain ⟨h1, h2, s, h3, h4⟩ := cand_out (minC_mem e).1
    have el := lf_eq g (gs := gs) (L := L) hk
    rw [en] at el ⊢
    rw [el]
    exact ⟨h1, h2, s, h3, by rw [← h4]; rfl, by rw [← h4]⟩
theorem all_fit {rs : List Row} (g : Good rs) {gs : List (Int × Int)} {L : Nat} {t : Int} (h : leastO rs gs L = some t) : ∀ k, k < rs.length → E rs gs k (loA rs gs L k) ≠ none := by
  intro k
  induction k using Nat.strongRecOn with
  | ind k ih =>
    intro hk
    cases e : upI rs k with
    | none =>
      have : loA rs gs L k = L := by unfold loA; rw [e]
      rw [this]
      exact (sumO_some h).1 _ (List.mem_map.mpr ⟨k, kids_mem.mpr ⟨hk, e⟩, rfl⟩)
    | some j =>
      have hj := up_lt g hk e
      obtain ⟨_, _, s, h1, _⟩ := pick g (Nat.lt_trans hj hk) (ih j hj (Nat.lt_trans hj hk))
      have : loA rs gs L k = lf rs gs L j := by unfold loA; rw [e]
      rw [this]
      exact (sumO_some h1).1 _ (List.mem_map.mpr ⟨k, kids_mem.mpr ⟨hk, e⟩, rfl⟩)
theorem drop_A {rs : List Row} (g : Good rs) {gs : List (Int × Int)} {L : Nat} : ∀ k, k < rs.length → drop rs gs (nA rs gs L) k = L - lf rs gs L k := by
  intro k
  induction k using Nat.strongRecOn with
  | ind k ih =>
    intro hk
    have el := lf_eq g (gs := gs) (L := L) hk
    cases e : upI rs k with
    | none =>
      have : loA rs gs L k = L := by unfold loA; rw [e]
      rw [drop_root e]
      omega
    | some j =>
      have hj := up_lt g hk e
      have : loA rs gs L k = lf rs gs L j := by unfold loA; rw [e]
      rw [drop_step g hk e, ih j hj (Nat.lt_trans hj hk)]
      omega
theorem cost_A {rs : List Row} (g : Good rs) {gs : List (Int × Int)} {L : Nat} {t : Int} (h : leastO rs gs L = some t) : t = S rs.length fun j => (gAt gs (nA rs gs L j)).2 := by
  have hf := all_fit g h
  have hX : ∀ k, k < rs.length → (E rs gs k (loA rs gs L k)).getD 0 = (gAt gs (nA rs gs L k)).2 + S rs.length fun c => if upI rs c = some k then (E rs gs c (loA rs gs L c)).getD 0 else 0 := fun k hk => by
    obtain ⟨_, _, s, h1, h2, _⟩ := pick g hk (hf k hk)
    rw [h2, Option.getD_some]
    have h3 := (sumO_some h1).2
    rw [List.map_map] at h3
    have h4 := kids_sum (rs := rs) (some k) ((fun o => o.getD 0) ∘ fun j => E rs gs j (lf rs gs L k))
    rw [h4] at h3
    rw [h3]
    congr 1
    refine S_congr fun c hc => ?_
    by_cases e : upI rs c = some k
    · have : loA rs gs L c = lf rs gs L k := by unfold loA; rw [e]
      rw [if_pos e, if_pos e, this]
      rfl
    · rw [if_neg e, if_neg e]
  have h1 := (sumO_some h).2
  rw [List.map_map] at h1
  have h4 := kids_sum (rs := rs) none ((fun o => o.getD 0) ∘ fun j => E rs gs j (L : Int))
  rw [h4] at h1
  rw [h1, ← roots_sum g (X := fun k => (E rs gs k (loA rs gs L k)).getD 0) (f := fun j => (gAt gs (nA rs gs L j)).2) hX]
  refine S_congr fun c hc => ?_
  by_cases e : upI rs c = none
  · have : loA rs gs L c = L := by unfold loA; rw [e]
    rw [if_pos e, if_pos e, this]
    rfl
  · rw [if_neg e, if_neg e]
end k15
end DP
end
section
set_option Elab.async false
set_option linter.all false
set_option maxRecDepth 100000
set_option maxHeartbeats 1000000
namespace DP
namespace k15
open PySem PySem.Spec PyProof.Rows L2
/-! ### a dict from the ends of the wires -/
def dicL (rs : List Row) (v0 : Int) (f : Nat → Int) (k : Nat) : List (Key × D) := (.inr srcS, .int v0) :: (List.range k).map fun j => (.inr (nmAt rs j), .int (f j))
theorem dic_succ {rs : List Row} {v0 : Int} {f : Nat → Int} {k : Nat} : dicL rs v0 f (k + 1) = dicL rs v0 f k ++ [(.inr (nmAt rs k), .int (f k))] := by
  unfold dicL; rw [List.range_succ, List.map_append]; rfl
theorem getK_app {a b : List (Key × D)} {k : Key} : getK (a ++ b) k = (getK a k).or (getK b k) := by
  unfold getK
  rw [List.find?_append]
  cases List.find? (fun kv => decide (kv.1 = k)) a <;> rfl
theorem dic_none {rs : List Row} (g : Good rs) {v0 : Int} {f : Nat → Int} {i : Nat} (hi : i < rs.length) : ∀ {k : Nat}, k ≤ i → getK (dicL rs v0 f k) (.inr (nmAt rs i)) = none
  | 0, _ => by
    have h : srcS ≠ nmAt rs i := fun z => by
      have := g.src_no (rowAt_of hi)
      rw [← nmAt_row hi] at this
      exact this z.symm
    simp [dicL, getK, h]
  | k + 1, hk => by
    rw [dic_succ, getK_app, dic_none g hi (by omega)]
    have h : nmAt rs k ≠ nmAt rs i := fun z => by
      have := nmAt_inj g (by omega) hi z
      omega
    simp [getK, h]
theorem dic_src {rs : List Row} {v0 : Int} {f : Nat → Int} {k : Nat} : getK (dicL rs v0 f k) (.inr srcS) = some (.int v0) := by
  simp [dicL, getK]
theorem dic_at {rs : List Row} (g : Good rs) {v0 : Int} {f : Nat → Int} {j : Nat} : ∀ {k : Nat}, k ≤ rs.length → j < k → getK (dicL rs v0 f k) (.inr (nmAt rs j)) = some (.int (f j))
  | 0, _, h => by omega
  | k + 1, hk, h => by
    rw [dic_succ, getK_app]
    by_cases e : j = k
    · subst e
      rw [dic_none g (by omega) (Nat.le_refl _)]
      simp [getK]
    · rw [dic_at g (by omega) (by omega)]
      rfl
theorem dic_get {rs : List Row} (g : Good rs) {v0 : Int} {f : Nat → Int} {k : Nat} (hk : k < rs.length) : getK (dicL rs v0 f k) (.inr (rowAt rs k).fr) = some (.int (match upI rs k with | none => v0 | some j => f j)) := by
  rcases up_cases g (rowAt_of hk) with ⟨e1, e2⟩ | ⟨i, hi, e2, e3, _, q, e4, e5⟩
  · rw [e1, e2, dic_src]
  · rw [e2, ← e5]
    have e6 : q.nm = nmAt rs i := (nmAt_of e4).symm
    rw [e6, dic_at g (by omega) hi]
theorem setK_new {kvs : List (Key × D)} {k : Key} {d : D} (h : getK kvs k = none) : setK kvs k d = kvs ++ [(k, d)] := by
  unfold setK
  rw [if_neg]
  intro z
  rw [List.any_eq_true] at z
  obtain ⟨x, hx, e⟩ := z
  unfold getK at h
  rw [Option.map_eq_none_iff, List.find?_eq_none] at h
  exact h x hx e
theorem dic_set {rs : List Row} (g : Good rs) {v0 : Int} {f : Nat → Int} {k : Nat} (hk : k < rs.length) : setK (dicL rs v0 f k) (.inr (nmAt rs k)) (.int (f k)) = dicL rs v0 f (k + 1) := by
  rw [setK_new (dic_none g hk (Nat.le_refl _)), dic_succ]
theorem dget_o {i : Nat} {t : Option Nat} {kvs : List (Key × D)} {kd x : D} {k : Key} {m : M W} {st : St} (hi : st[i]? = some (.o t (.dic kvs))) (hm : m st = .ok (.d kd) st) (ek : keyOf kd = some k) (e : getK kvs k = some x) : m2 (rd2 gDx) (mV i) m st = .ok (.d x) st := by
  have e2 : mV i st = .ok (.b i) st := by unfold mV; rw [hi]
  unfold m2
  rw [bnd_ok e2, bnd_ok hm]
  simp [rd2, rd, hi, fz, gDx, ek, e]
theorem dget_d {i : Nat} {kvs : List (Key × D)} {kd x : D} {k : Key} {m : M W} {st : St} (hi : st[i]? = some (.d (.dic kvs))) (hm : m st = .ok (.d kd) st) (ek : keyOf kd = some k) (e : getK kvs k = some x) : m2 (rd2 gDx) (mV i) m st = .ok (.d x) st := by
  unfold m2
  rw [bnd_ok (mVd hi), bnd_ok hm]
  simp [rd2, rd, gDx, ek, e]
theorem dput_v {i : Nat} {t : Option Nat} {kvs : List (Key × D)} {kd x : D} {k : Key} {me mk : M W} {st : St} (he : me st = .ok (.d x) st) (hi : st[i]? = some (.o t (.dic kvs))) (hk : mk st = .ok (.d kd) st) (ek : keyOf kd = some k) (hl : kvs.length ≤ 1000) : sDPut me (mV i) mk st = .ok .nx (st.set i (.o t (.dic (setK kvs k x)))) := by
  have e2 : mV i st = .ok (.b i) st := by unfold mV; rw [hi]
  unfold sDPut
  rw [bnd_ok he, bnd_ok e2, bnd_ok hk]
  simp [W.fzD, hi, ek, hl]
theorem dic_len {rs : List Row} {v0 : Int} {f : Nat → Int} {k : Nat} : (dicL rs v0 f k).length = k + 1 := by simp [dicL]
theorem gAt_rg {gs : List (Int × Int)} (gg : GOk gs) (i : Nat) : (0 ≤ (gAt gs i).1 ∧ (gAt gs i).1 ≤ 99) ∧ (0 ≤ (gAt gs i).2 ∧ (gAt gs i).2 ≤ 99) := by
  by_cases h : i < gs.length
  · exact gg.rg _ (by unfold gAt; rw [List.getD_eq_getElem?_getD, List.getElem?_eq_getElem h]; exact List.getElem_mem h)
  · have : gAt gs i = (0, 0) := by unfold gAt; rw [List.getD_eq_getElem?_getD, List.getElem?_eq_none (by omega)]; rfl
    rw [this]; decide
theorem drop_nn {rs : List Row} (g : Good rs) {gs : List (Int × Int)} (gg : GOk gs) (a : Nat → Nat) (k : Nat) : 0 ≤ drop rs gs a k := by
  unfold drop
  have : ∀ l : List Nat, 0 ≤ (l.map fun j => (gAt gs (a j)).1 * flow rs j).sum := fun l => by
    induction l with
    | nil => exact Int.le_refl 0
    | cons x xs ih =>
      have := Int.mul_nonneg (gAt_rg gg (a x)).1.1 (flow_nn g x)
      simp only [List.map_cons, List.sum_cons]
      omega
  exact this _
theorem loA_rg {rs : List Row} (g : Good rs) {gs : List (Int × Int)} (gg : GOk gs) {L : Nat} {t : Int} (h : leastO rs gs L = some t) {k : Nat} (hk : k < rs.length) : 0 ≤ loA rs gs L k ∧ loA rs gs L k ≤ L := by
  unfold loA
  cases e : upI rs k with
  | none => exact ⟨by simp, by simp⟩
  | some j =>
    have hj := Nat.lt_trans (up_lt g hk e) hk
    have d := drop_A g (gs := gs) (L := L) j hj
    have n := drop_nn g gg (nA rs gs L) j
    exact ⟨(pick g hj (all_fit g h j hj)).2.1, by simp only; omega⟩
theorem tab_okI {rs : List Row} {gs : List (Int × Int)} (g : Good rs) {L k : Nat} {left : Int} (hl : left ≤ L) : TabOk rs (E rs gs) k left (tabL rs gs L 0) := by
  intro j hj r h0 h1
  obtain ⟨a, b⟩ := kids_gt g hj
  exact ⟨rowT rs gs L j, tab_at b (by omega), rowT_at h0 (by omega)⟩
theorem gs_at {gs : List (Int × Int)} {i : Nat} (h : i < gs.length) : L2.atI (gs.map gD) ((i : Nat) : Int) = some (gD (gAt gs i)) := by
  rw [atI_nat]
  unfold gAt
  simp [h]
end k15
end DP
end
section
set_option Elab.async false
set_option linter.all false
set_option maxRecDepth 100000
set_option maxHeartbeats 1000000
namespace DP
namespace k15
open PySem PySem.Spec PyProof.Rows L2
theorem subV {a b : M W} {x y : Int} {st : St} (ha : a st = .ok (.d (.int x)) st) (hb : b st = .ok (.d (.int y)) st) : m2 fSub a b st = .ok (.d (.int (x - y))) st := (bnd_ok ha).trans ((bnd_ok hb).trans rfl)
theorem addV {a b : M W} {x y : Int} {st : St} (ha : a st = .ok (.d (.int x)) st) (hb : b st = .ok (.d (.int y)) st) : m2 fAdd a b st = .ok (.d (.int (x + y))) st := (bnd_ok ha).trans ((bnd_ok hb).trans rfl)
theorem mulV {a b : M W} {x y : Int} {st : St} (ha : a st = .ok (.d (.int x)) st) (hb : b st = .ok (.d (.int y)) st) (h : x.natAbs < 1152921504606846976) : m2 fMul a b st = .ok (.d (.int (x * y))) st := by
  refine (bnd_ok ha).trans ((bnd_ok hb).trans ?_)
  simp [fMul, rd, h]
/-- a field of the row that stands in a slot -/
theorem rowS {rs : List Row} {a k : Nat} {i : Int} {x : D} {st : St} (h : st[a]? = some (.d (rowD (rowAt rs k)))) (e : L2.atI [.str (rowAt rs k).nm, .str (rowAt rs k).fr, .int (rowAt rs k).ohm, .int (rowAt rs k).load, .int (rowAt rs k).fuse] i = some x) : m2 (rd2 gIx) (mV a) (mC (.int i)) st = .ok (.d x) st := ixC (X := rowD (rowAt rs k)) (.inl rfl) (mVd h) e
def numsD (rs : List Row) (gs : List (Int × Int)) (L k : Nat) : List D := (List.range k).map fun j => .int (nA rs gs L j : Nat)
def chpS (h : Har) (gs : List (Int × Int)) (L k : Nat) (a7 a8 a9 : Sl) : St := [.d h.d, .d (gsD gs), .d (.int (L : Nat)), .d (.tup (vec h.rows.length (flow h.rows))), .d (tabsD h.rows gs L), .o none (.lst (numsD h.rows gs L k)), .o none (.dic (dicL h.rows (L : Int) (lf h.rows gs L) k)), a7, a8, a9]
theorem chp_turn {h : Har} (g : Good h.rows) {gs : List (Int × Int)} (gg : GOk gs) {L : Nat} {t : Int} (hl : leastO h.rows gs L = some t) {k : Nat} (hk : k < h.rows.length) {a9 : Sl} (f9 : pln a9) :
    bo_cheapest_0 (chpS h gs L k (.d (.int (k : Nat))) (.d (rowD (rowAt h.rows k))) a9) = .ok .nx (chpS h gs L (k + 1) (.d (.int (k : Nat))) (.d (rowD (rowAt h.rows k))) (.d (.int (nA h.rows gs L k : Nat)))) := by
  have h10 := g.l10
  obtain ⟨p1, p2, s, p3, p4, p5⟩ := pick g hk (all_fit g hl k hk)
  have lr := loA_rg g gg hl hk
  have gr := gAt_rg gg (nA h.rows gs L k)
  have dg : getK (dicL h.rows (L : Int) (lf h.rows gs L) k) (.inr (rowAt h.rows k).fr) = some (.int (loA h.rows gs L k)) := dic_get g hk
  have left : ∀ {a9 : Sl}, m2 (rd2 gDx) (mV 6) (m2 (rd2 gIx) (mV 8) (mC (.int 1))) (chpS h gs L k (.d (.int (k : Nat))) (.d (rowD (rowAt h.rows k))) a9) = .ok (.d (.int (loA h.rows gs L k))) (chpS h gs L k (.d (.int (k : Nat))) (.d (rowD (rowAt h.rows k))) a9) := fun {a9} => dget_o (t := none) (kvs := dicL h.rows (L : Int) (lf h.rows gs L) k) rfl (rowS rfl at_1) rfl dg
  have ec := e_choices g gg hk (tab_okI (gs := gs) g lr.2)
  have e1 : bnd (aCons (mCall 5 fn_choices [] (aCons (mV 0) (aCons (mV 1) (aCons (mV 7) (aCons (m2 (rd2 gDx) (mV 6) (m2 (rd2 gIx) (mV 8) (mC (.int 1)))) (aCons (mV 4) (aNil))))))) (aNil)) (rd1 gMinL) (chpS h gs L k (.d (.int (k : Nat))) (.d (rowD (rowAt h.rows k))) a9) = .ok (.d (candD ((gAt gs (nA h.rows gs L k)).2 + s, nA h.rows gs L k))) (chpS h gs L k (.d (.int (k : Nat))) (.d (rowD (rowAt h.rows k))) a9) := by
    rw [bnd_ok (aC1 (mcall5 (mVd rfl) (mVd rfl) (mVd rfl) left (mVd rfl) ec))]
    simp [argW, fz, rd1, rd, gMin_C p5]
  have e2 := setD (i := 9) (ixC (X := candD ((gAt gs (nA h.rows gs L k)).2 + s, nA h.rows gs L k)) (.inl rfl) e1 at_1) (show _ = some a9 from rfl) f9.free
  have e2 : sSet 9 (m2 (rd2 gIx) (bnd (aCons (mCall 5 fn_choices [] (aCons (mV 0) (aCons (mV 1) (aCons (mV 7) (aCons (m2 (rd2 gDx) (mV 6) (m2 (rd2 gIx) (mV 8) (mC (.int 1)))) (aCons (mV 4) (aNil))))))) (aNil)) (rd1 gMinL)) (mC (.int 1))) (chpS h gs L k (.d (.int (k : Nat))) (.d (rowD (rowAt h.rows k))) a9) = .ok .nx (chpS h gs L k (.d (.int (k : Nat))) (.d (rowD (rowAt h.rows k))) (.d (.int (nA h.rows gs L k : Nat)))) := e2
  have e3 : m2 fSub (m2 (rd2 gDx) (mV 6) (m2 (rd2 gIx) (mV 8) (mC (.int 1)))) (m2 fMul (m2 (rd2 gIx) (m2 (rd2 gIx) (mV 1) (mV 9)) (mC (.int 0))) (m2 (rd2 gIx) (mV 3) (mV 7))) (chpS h gs L k (.d (.int (k : Nat))) (.d (rowD (rowAt h.rows k))) (.d (.int (nA h.rows gs L k : Nat)))) = .ok (.d (.int (lf h.rows gs L k))) (chpS h gs L k (.d (.int (k : Nat))) (.d (rowD (rowAt h.rows k))) (.d (.int (nA h.rows gs L k : Nat)))) := by
    rw [lf_eq g hk]
    exact subV left (mulV (ixC (X := gD (gAt gs (nA h.rows gs L k))) (.inl rfl) (ixV (X := gsD gs) (.inl rfl) rfl rfl (gs_at p1)) at_0) (ixV (X := .tup (vec h.rows.length (flow h.rows))) (.inl rfl) rfl rfl (vecA hk)) (by omega))
  have e4 := dput_v (i := 6) (t := none) (kvs := dicL h.rows (L : Int) (lf h.rows gs L) k) (mk := m2 (rd2 gIx) (mV 8) (mC (.int 0))) (k := .inr (rowAt h.rows k).nm) e3 rfl (rowS rfl at_0) rfl (by rw [dic_len]; omega)
  rw [← nmAt_row hk, dic_set g hk] at e4
  have e5 := app_v (i := 5) (t := none) (acc := numsD h.rows gs L k) (m := mV 9) (x := .int (nA h.rows gs L k : Nat)) (st := [.d h.d, .d (gsD gs), .d (.int (L : Nat)), .d (.tup (vec h.rows.length (flow h.rows))), .d (tabsD h.rows gs L), .o none (.lst (numsD h.rows gs L k)), .o none (.dic (dicL h.rows (L : Int) (lf h.rows gs L) (k + 1))), .d (.int (k : Nat)), .d (rowD (rowAt h.rows k)), .d (.int (nA h.rows gs L k : Nat))]) rfl (by unfold numsD; simp; omega) (mVd rfl)
  have en : numsD h.rows gs L k ++ [.int (nA h.rows gs L k : Nat)] = numsD h.rows gs L (k + 1) := by unfold numsD; rw [List.range_succ, List.map_append]; rfl
  rw [en] at e5
  exact seq_nx e2 (seq_nx e4 e5)
theorem e_cheapest {h : Har} (g : Good h.rows) {gs : List (Int × Int)} (gg : GOk gs) {L : Nat} (hL : L ≤ 300) : fn_cheapest [.d h.d, .d (gsD gs), .d (.int (L : Nat))] = .ok (.d (match leastO h.rows gs L with | none => .non | some _ => .tup (numsD h.rows gs L h.rows.length))) [] := by
  have h10 := g.l10
  have el := e_least_cost g gg hL
  have et := e_tables g gg hL
  have t0 : mB (mNone false (mCall 3 fn_least_cost [] (aCons (mV 0) (aCons (mV 1) (aCons (mV 2) (aNil)))))) [.d h.d, .d (gsD gs), .d (.int (L : Nat)), .no, .no, .no, .no, .no, .no, .no] = .ok (leastO h.rows gs L).isNone [.d h.d, .d (gsD gs), .d (.int (L : Nat)), .no, .no, .no, .no, .no, .no, .no] := by
    refine mBd ?_
    unfold mNone
    rw [bnd_ok (mcall3 (mVd rfl) (mVd rfl) (mVd rfl) el)]
    cases leastO h.rows gs L <;> rfl
  cases hl : leastO h.rows gs L with
  | none =>
    rw [hl] at t0
    have q : m_cheapest [.d h.d, .d (gsD gs), .d (.int (L : Nat)), .no, .no, .no, .no, .no, .no, .no] = .ok (.ret (.d .non)) [.d h.d, .d (gsD gs), .d (.int (L : Nat)), .no, .no, .no, .no, .no, .no, .no] := by
      unfold m_cheapest sSeq
      rw [bnd_ok (show sIf (mB (mNone false (mCall 3 fn_least_cost [] (aCons (mV 0) (aCons (mV 1) (aCons (mV 2) (aNil))))))) (sRet (mC .non)) (sNx) _ = .ok (.ret (.d .non)) [.d h.d, .d (gsD gs), .d (.int (L : Nat)), .no, .no, .no, .no, .no, .no, .no] by rw [sIfB t0]; rfl)]
      rfl
    exact (fn_of_m rfl q).trans rfl
  | some t =>
    rw [hl] at t0
    have s0 : sIf (mB (mNone false (mCall 3 fn_least_cost [] (aCons (mV 0) (aCons (mV 1) (aCons (mV 2) (aNil))))))) (sRet (mC .non)) (sNx) [.d h.d, .d (gsD gs), .d (.int (L : Nat)), .no, .no, .no, .no, .no, .no, .no] = .ok .nx [.d h.d, .d (gsD gs), .d (.int (L : Nat)), .no, .no, .no, .no, .no, .no, .no] := by rw [sIfB t0]; rfl
    have s1 : sPar3 4 5 6 (mCall 3 fn_tables [] (aCons (mV 0) (aCons (mV 1) (aCons (mV 2) (aNil))))) (mLst (aNil)) (mDic1 (mC (.str "source")) (mV 2)) [.d h.d, .d (gsD gs), .d (.int (L : Nat)), .no, .no, .no, .no, .no, .no, .no] = .ok .nx [.d h.d, .d (gsD gs), .d (.int (L : Nat)), .no, .d (tabsD h.rows gs L), .o none (.lst []), .o none (.dic (dicL h.rows (L : Int) (lf h.rows gs L) 0)), .no, .no, .no] := by
      refine (bnd_ok (mcall3 (mVd rfl) (mVd rfl) (mVd rfl) et)).trans ?_
      rfl
    have s2 : sSet 3 (mCall 1 fn_currents [] (aCons (mV 0) (aNil))) [.d h.d, .d (gsD gs), .d (.int (L : Nat)), .no, .d (tabsD h.rows gs L), .o none (.lst []), .o none (.dic (dicL h.rows (L : Int) (lf h.rows gs L) 0)), .no, .no, .no] = .ok .nx (chpS h gs L 0 .no .no .no) := setD (mcall1 (mVd rfl) (e_currents g)) rfl rfl
    obtain ⟨s', e, a7, a8, a9, q7, q8, q9, rfl⟩ := forL_all (t := tgT [7, 8]) (b := bo_cheapest_0) (fun k s => ∃ a7 a8 a9, pln a7 ∧ pln a8 ∧ pln a9 ∧ s = chpS h gs L k a7 a8 a9) (its := (List.range h.rows.length).map fun k => Item.many [.int (k : Nat), rowD (rowAt h.rows k)]) (i := 0) (st := chpS h gs L 0 .no .no .no) ⟨.no, .no, .no, .inl rfl, .inl rfl, .inl rfl, rfl⟩ (fun j it s hit w => by
      obtain ⟨a7, a8, a9, q7, q8, q9, rfl⟩ := w
      rw [List.getElem?_map] at hit
      by_cases hj : j < h.rows.length
      · rw [List.getElem?_range hj] at hit
        simp only [Option.map_some, Option.some.injEq] at hit
        subst hit
        rw [Nat.zero_add]
        exact ⟨chpS h gs L j (.d (.int (j : Nat))) (.d (rowD (rowAt h.rows j))) a9, _, by simp [tgT, setNs, setN, bnd, ret, chpS, q7.free, q8.free], .inl (chp_turn g gg hl hj q9), _, _, _, pln_d _, pln_d _, pln_d _, rfl⟩
      · rw [List.getElem?_eq_none (by simp; omega)] at hit
        cases hit)
    rw [List.length_map, List.length_range, Nat.zero_add] at e
    have s3 : fo_cheapest_1 (chpS h gs L 0 .no .no .no) = .ok .nx (chpS h gs L h.rows.length a7 a8 a9) := by
      unfold fo_cheapest_1 sFor
      have e1 : mEnumT (aCons (mFld ["Harness"] "rows" (mV 0)) (aNil)) (chpS h gs L 0 .no .no .no) = .ok (.fz ((List.range h.rows.length).map fun k => Item.many [.int (k : Nat), rowD (rowAt h.rows k)])) (chpS h gs L 0 .no .no .no) := by
        have e1 : mFld ["Harness"] "rows" (mV 0) (chpS h gs L 0 .no .no .no) = .ok (.d (rowsD h.rows)) (chpS h gs L 0 .no .no .no) := by
          unfold mFld
          rw [bnd_ok (mVd (x := h.d) rfl)]
          simp [rd, Har.d, hf_rows]
        unfold mEnumT
        rw [bnd_ok (aC1 e1)]
        simp only [argW, rowsD]
        rw [enum_rows]
      rw [bnd_ok e1]
      exact e
    have s4 : sRet (bnd (aCons (mV 5) (aNil)) fTupOf) (chpS h gs L h.rows.length a7 a8 a9) = .ok (.ret (.d (.tup (numsD h.rows gs L h.rows.length)))) (chpS h gs L h.rows.length a7 a8 a9) := (bnd_ok (tupB (i := 5) (t := none) rfl)).trans rfl
    have q : m_cheapest [.d h.d, .d (gsD gs), .d (.int (L : Nat)), .no, .no, .no, .no, .no, .no, .no] = .ok (.ret (.d (.tup (numsD h.rows gs L h.rows.length)))) (chpS h gs L h.rows.length a7 a8 a9) := seq_nx s0 (seq_nx s1 (seq_nx s2 (seq_nx s3 s4)))
    exact (fn_of_m rfl q).trans rfl
end k15
end DP
end
section
set_option Elab.async false
set_option linter.all false
set_option maxRecDepth 100000
set_option maxHeartbeats 1000000
namespace DP
namespace k15
open PySem PySem.Spec PyProof.Rows L2
theorem e_rowN {ds : List D} {n : Nat} (h : ds.length = n) : fn_is_row [.d (.tup ds), .d (.int (n : Nat))] = .ok (.d (.bl true)) [] := by
  subst h
  have z : eqD (.int (ds.length : Nat)) (.int (ds.length : Nat)) = some true := by rw [eqD_int]; simp
  simp [fn_is_row, m_is_row, z, mkFn, stOf, finF, withRefs, refs, sSeq, thenS, sNx, sBad, sDrop, retW, sRet, sIf, mFz, endS, asgW, fs_d, fs_no, fs_o, sSet, sUnp, tgT, tgN, setNs, setN, sPar, putAt, sPut, sAugL, sAug, isL, sAppL, sAppend, sExtend, okApp, okExt, bnd, ret, rd, W.fzD, fz, mV, mC, m2, rd2, gI, gMod, gDiv, gPow, fAdd, fMul, mB, mNone, isN, okB, mCh, mIf, mNot, mNotV, argW, aNil, aCons, allD, mTup, mLst, rd1, rdL2, gLen, gInt, gAbs, gSum, gAll, gAny, fTupOf, fLstOf, mFld, fldD, putD, gIx, oNone, oSome, fSl, mSl, mRev, mNeg, gIsi, gIsiT, tysOf, tyN, tyM, knownC, mIdxT, mIdxL, idxEnd, Item, srcOf, mSeq, b62, mRng1, mRng2, mRng3, mZipT, mEnumT, mCall, callW, argsOf, slotsOf, tagOf, putBack, mMeth, mMake, makeW, putFld, sFldS, mCallL2, okW, backS, wipeS, Src.items, Src.ok, gEq, gNe, gIn, gNotIn, ixN, at_0, at_1, at_2, at_3, at_4]
theorem parOD {i j : Nat} {a b : M W} {x : OD} {y : D} {s t : Sl} {st : St} (ha : a st = .ok (.o x) st) (hb : b st = .ok (.d y) st) (fi : st[i]? = some s) (hs : freeS s = true) (fj : (st.set i (.o none x))[j]? = some t) (ht : freeS t = true) : sPar i j a b st = .ok .nx ((st.set i (.o none x)).set j (.d y)) := by
  unfold sPar
  rw [bnd_ok ha, bnd_ok hb]
  simp [asgW, fi, hs, fj, ht, endS]
theorem all_T {ι : Type} {ks : List ι} {m : M W} {st st1 : St} (h : m st = .ok (.o (.lst (ks.map fun _ => D.bl true))) st1) : bnd (aCons m (aNil)) (rd1 gAll) st = .ok (.d (.bl true)) st1 := by
  rw [bnd_ok (aC1 h)]
  have e : (ks.map fun _ => D.bl true) = (ks.map fun _ => true).map D.bl := by rw [List.map_map]; rfl
  simp only [argW, fz]
  rw [e]
  unfold rd1
  simp only [rd, gAll, asBls_map]
  simp
/-- a comprehension whose source may change the state -/
theorem lcT2 {ι : Type} {i : Nat} {ks : List ι} {f : ι → D} {st0 st : St} {ms : M Src} {el : M W} {dd : ι → D} {sl : Sl} (hs : ms st0 = .ok (.fz (ks.map fun k => .one (f k))) st) (hi : st[i]? = some sl) (hsl : sl = .no ∨ ∃ x, sl = .d x)
    (he : ∀ k ∈ ks, ∃ w, el (st.set i (.d (f k))) = .ok w (st.set i (.d (f k))) ∧ w.fzD = some (dd k)) (hl : ks.length ≤ 1000000) :
    mLc [i] ms (tgN i) (ret true) el st0 = .ok (.o (.lst (ks.map dd))) st := by
  have q : mLc [i] (fun _ => .ok (.fz (ks.map fun k => .one (f k))) st) (tgN i) (ret true) el st = .ok (.o (.lst (ks.map dd))) st := lcT rfl hi hsl he hl
  have e : mLc [i] ms (tgN i) (ret true) el st0 = mLc [i] (fun _ => .ok (.fz (ks.map fun k => .one (f k))) st) (tgN i) (ret true) el st := by
    unfold mLc
    rw [bnd_ok hs]
    rfl
  rw [e, q]
theorem geV {a b : M W} {x y : Int} {st : St} (ha : a st = .ok (.d (.int x)) st) (hb : b st = .ok (.d (.int y)) st) : m2 fGe a b st = .ok (.d (.bl (decide (y ≤ x)))) st := by
  refine (bnd_ok ha).trans ((bnd_ok hb).trans ?_)
  simp [rd2, rd, gI]
def nsD (ns : List Nat) : List D := ns.map fun i => .int (i : Nat)
theorem e_cost_of {gs : List (Int × Int)} {ns : List Nat} (hn : ∀ i ∈ ns, i < gs.length) (hl : ns.length ≤ 1000) : fn_cost_of [.d (gsD gs), .d (.tup (nsD ns))] = .ok (.d (.int (ns.map fun i => (gAt gs i).2).sum)) [] := by
  have q : lc_cost_of_0 [.d (gsD gs), .d (.tup (nsD ns)), .no] = .ok (.o (.lst ((ns.map fun i => (gAt gs i).2).map .int))) [.d (gsD gs), .d (.tup (nsD ns)), .no] := by
    rw [List.map_map]
    refine lcT (f := fun i : Nat => .int (i : Nat)) (ks := ns) (by rw [srcT (l := nsD ns) (mVd rfl)]; unfold nsD; rw [List.map_map]; rfl) rfl (.inl rfl) (fun i hi => ⟨_, ixC (X := gD (gAt gs i)) (.inl rfl) (ixV (X := gsD gs) (.inl rfl) rfl rfl (gs_at (hn i hi))) at_1, rfl⟩) (by omega)
  have h2 : bnd (aCons lc_cost_of_0 aNil) (rd1 gSum) [.d (gsD gs), .d (.tup (nsD ns)), .no] = .ok (.d (.int (ns.map fun i => (gAt gs i).2).sum)) [.d (gsD gs), .d (.tup (nsD ns)), .no] := by
    rw [bnd_ok (aC1 q)]
    simp only [argW, fz]
    unfold rd1
    simp only [rd, gSum, asInts_map]
    rfl
  exact (fn_of_m rfl ((bnd_ok h2).trans rfl)).trans rfl
theorem keys_dic {rs : List Row} (g : Good rs) {v0 : Int} {f : Nat → Int} (P : Int → Prop) (h0 : P v0) (h1 : ∀ j, j < rs.length → P (f j)) : ∀ kv ∈ dicL rs v0 f rs.length, ∃ v, getK (dicL rs v0 f rs.length) kv.1 = some (.int v) ∧ P v ∧ keyOf (keyD kv.1) = some kv.1 := by
  intro kv hkv
  unfold dicL at hkv
  rcases List.mem_cons.mp hkv with rfl | hkv
  · exact ⟨v0, dic_src, h0, rfl⟩
  · obtain ⟨j, hj, rfl⟩ := List.mem_map.mp hkv
    rw [List.mem_range] at hj
    exact ⟨f j, dic_at g (Nat.le_refl _) hj, h1 j hj, rfl⟩
end k15
end DP
end
section
set_option Elab.async false
set_option linter.all false
set_option maxRecDepth 100000
set_option maxHeartbeats 1000000
namespace DP
namespace k15
open PySem PySem.Spec PyProof.Rows L2
theorem ixE {ma mi : M W} {X x : D} {ds : List D} {k : Int} {st : St} (hX : X = .tup ds ∨ X = .lst ds) (ha : ma st = .ok (.d X) st) (hi : mi st = .ok (.d (.int k)) st) (e : L2.atI ds k = some x) : m2 (rd2 gIx) ma mi st = .ok (.d x) st := by
  refine (bnd_ok ha).trans ((bnd_ok hi).trans ?_)
  rcases hX with rfl | rfl <;> simp [rd2, rd, gIx, e]
theorem rows_v {h : Har} {st : St} (h0 : st[0]? = some (.d h.d)) : mFld ["Harness"] "rows" (mV 0) st = .ok (.d (rowsD h.rows)) st := by
  unfold mFld
  rw [bnd_ok (mVd h0)]
  simp [rd, Har.d, hf_rows]
theorem enumR {h : Har} {st : St} (h0 : st[0]? = some (.d h.d)) : mEnumT (aCons (mFld ["Harness"] "rows" (mV 0)) (aNil)) st = .ok (.fz ((List.range h.rows.length).map fun k => Item.many [.int (k : Nat), rowD (rowAt h.rows k)])) st := by
  unfold mEnumT
  rw [bnd_ok (aC1 (rows_v h0))]
  simp only [argW, rowsD]
  rw [enum_rows]
theorem nums_at {rs : List Row} {gs : List (Int × Int)} {L n k : Nat} (hk : k < n) : L2.atI (numsD rs gs L n) ((k : Nat) : Int) = some (.int (nA rs gs L k : Nat)) := at_map (f := fun j => .int (nA rs gs L j : Nat)) hk
def arS (h : Har) (gs : List (Int × Int)) (L k : Nat) (a6 a7 : Sl) : St := [.d h.d, .d (gsD gs), .d (.int (L : Nat)), .d (.tup (numsD h.rows gs L h.rows.length)), .o none (.dic (dicL h.rows (L : Int) (lf h.rows gs L) k)), .d (.tup (vec h.rows.length (flow h.rows))), a6, a7, .no, .no]
theorem ar_turn {h : Har} (g : Good h.rows) {gs : List (Int × Int)} (gg : GOk gs) {L : Nat} {t : Int} (hl : leastO h.rows gs L = some t) {k : Nat} (hk : k < h.rows.length) :
    bo_are_gauges_1 (arS h gs L k (.d (.int (k : Nat))) (.d (rowD (rowAt h.rows k)))) = .ok .nx (arS h gs L (k + 1) (.d (.int (k : Nat))) (.d (rowD (rowAt h.rows k)))) := by
  have h10 := g.l10
  obtain ⟨p1, p2, s, p3, p4, p5⟩ := pick g hk (all_fit g hl k hk)
  have gr := gAt_rg gg (nA h.rows gs L k)
  have dg : getK (dicL h.rows (L : Int) (lf h.rows gs L) k) (.inr (rowAt h.rows k).fr) = some (.int (loA h.rows gs L k)) := dic_get g hk
  have left : m2 (rd2 gDx) (mV 4) (m2 (rd2 gIx) (mV 7) (mC (.int 1))) (arS h gs L k (.d (.int (k : Nat))) (.d (rowD (rowAt h.rows k)))) = .ok (.d (.int (loA h.rows gs L k))) (arS h gs L k (.d (.int (k : Nat))) (.d (rowD (rowAt h.rows k)))) := dget_o (t := none) (kvs := dicL h.rows (L : Int) (lf h.rows gs L) k) rfl (rowS rfl at_1) rfl dg
  have e3 : m2 fSub (m2 (rd2 gDx) (mV 4) (m2 (rd2 gIx) (mV 7) (mC (.int 1)))) (m2 fMul (m2 (rd2 gIx) (m2 (rd2 gIx) (mV 1) (m2 (rd2 gIx) (mV 3) (mV 6))) (mC (.int 0))) (m2 (rd2 gIx) (mV 5) (mV 6))) (arS h gs L k (.d (.int (k : Nat))) (.d (rowD (rowAt h.rows k)))) = .ok (.d (.int (lf h.rows gs L k))) (arS h gs L k (.d (.int (k : Nat))) (.d (rowD (rowAt h.rows k)))) := by
    rw [lf_eq g hk]
    exact subV left (mulV (ixC (X := gD (gAt gs (nA h.rows gs L k))) (.inl rfl) (ixE (X := gsD gs) (.inl rfl) (mVd rfl) (ixV (X := .tup (numsD h.rows gs L h.rows.length)) (.inl rfl) rfl rfl (nums_at hk)) (gs_at p1)) at_0) (ixV (X := .tup (vec h.rows.length (flow h.rows))) (.inl rfl) rfl rfl (vecA hk)) (by omega))
  have e4 := dput_v (i := 4) (t := none) (kvs := dicL h.rows (L : Int) (lf h.rows gs L) k) (mk := m2 (rd2 gIx) (mV 7) (mC (.int 0))) (k := .inr (rowAt h.rows k).nm) e3 rfl (rowS rfl at_0) rfl (by rw [dic_len]; omega)
  rw [← nmAt_row hk, dic_set g hk] at e4
  exact e4
theorem e_are_gauges {h : Har} (g : Good h.rows) {gs : List (Int × Int)} (gg : GOk gs) {L : Nat} (hL : L ≤ 300) {t : Int} (hl : leastO h.rows gs L = some t) : fn_are_gauges [.d h.d, .d (gsD gs), .d (.int (L : Nat)), .d (.tup (numsD h.rows gs L h.rows.length))] = .ok (.d (.bl true)) [] := by
  have h10 := g.l10
  have r := e_require_gauges gg (L := (L : Nat)) (by omega) (by omega)
  obtain ⟨S0, hS0⟩ : ∃ S0 : St, S0 = [.d h.d, .d (gsD gs), .d (.int (L : Nat)), .d (.tup (numsD h.rows gs L h.rows.length)), .no, .no, .no, .no, .no, .no] := ⟨_, rfl⟩
  have q0 : S0[0]? = some (.d h.d) := by rw [hS0]; rfl
  have q1 : S0[1]? = some (.d (gsD gs)) := by rw [hS0]; rfl
  have q3 : S0[3]? = some (.d (.tup (numsD h.rows gs L h.rows.length))) := by rw [hS0]; rfl
  have s0 : sDrop (mCall 2 fn_require_gauges [] (aCons (mV 1) (aCons (mV 2) (aNil)))) S0 = .ok .nx S0 := (bnd_ok (mcall2 (mVd q1) (mVd (by rw [hS0]; rfl)) r)).trans rfl
  have nl : (numsD h.rows gs L h.rows.length).length = h.rows.length := by unfold numsD; simp
  have s1 : sIf (mNot (mB (mCall 2 fn_is_row [] (aCons (mV 3) (aCons (bnd (aCons (mFld ["Harness"] "rows" (mV 0)) (aNil)) (rd1 gLen)) (aNil)))))) (sRet (mC (.bl false))) (sNx) S0 = .ok .nx S0 := by
    rw [sIfB (notT (mcall2 (mVd q3) (rows_len q0) (e_rowN nl)))]
    rfl
  have lc : lc_are_gauges_0 S0 = .ok (.o (.lst ((List.range h.rows.length).map fun _ => .bl true))) S0 := by
    refine lcT (f := fun k => .int (nA h.rows gs L k : Nat)) (sl := .no) (by rw [srcT (mVd q3)]; unfold numsD; rw [List.map_map]; rfl) (by rw [hS0]; rfl) (.inl rfl) (fun k hk => ?_) (by simp; omega)
    rw [List.mem_range] at hk
    obtain ⟨p1, _⟩ := pick g hk (all_fit g hl k hk)
    have hlt : 9 < S0.length := by rw [hS0]; simp
    have m9 : mV 9 (S0.set 9 (.d (.int (nA h.rows gs L k : Nat)))) = .ok (.d (.int (nA h.rows gs L k : Nat))) (S0.set 9 (.d (.int (nA h.rows gs L k : Nat)))) := mVd (List.getElem?_set_self hlt)
    have m1 : bnd (aCons (mV 1) (aNil)) (rd1 gLen) (S0.set 9 (.d (.int (nA h.rows gs L k : Nat)))) = .ok (.d (.int (gs.length : Nat))) (S0.set 9 (.d (.int (nA h.rows gs L k : Nat)))) := by
      have := lenT (m := mV 1) (st := S0.set 9 (.d (.int (nA h.rows gs L k : Nat)))) (ds := gs.map gD) (mVd (by rw [List.getElem?_set_ne (by decide), q1]; rfl))
      rw [List.length_map] at this
      exact this
    have w := mcall1 (F := fn_is_whole) m9 (e_is_whole _)
    refine ⟨.d (.bl true), ?_, rfl⟩
    show mIf (mB (mCall 1 fn_is_whole [] (aCons (mV 9) (aNil)))) (mCh fLe fLt (mC (.int 0)) (mV 9) (bnd (aCons (mV 1) (aNil)) (rd1 gLen))) (mC (.bl false)) _ = _
    rw [mIfB (mBd w), if_pos rfl]
    refine (bnd_ok (show mC (.int 0) _ = .ok (.d (.int 0)) _ from rfl)).trans ((bnd_ok m9).trans ?_)
    have a1 : fLe (.d (.int 0)) (.d (.int (nA h.rows gs L k : Nat))) (S0.set 9 (.d (.int (nA h.rows gs L k : Nat)))) = .ok (.d (.bl true)) (S0.set 9 (.d (.int (nA h.rows gs L k : Nat)))) := by
      simp [rd2, rd, gI]
    refine (bnd_ok a1).trans ?_
    simp only [rd]
    rw [bnd_ok m1]
    have : nA h.rows gs L k < gs.length := p1
    simp [rd2, rd, gI, this]
  have s2 : sIf (mNot (mB (bnd (aCons (lc_are_gauges_0) (aNil)) (rd1 gAll)))) (sRet (mC (.bl false))) (sNx) S0 = .ok .nx S0 := by
    rw [sIfB (notT (all_T lc))]
    rfl
  have s3 : sPar 4 5 (mDic1 (mC (.str "source")) (mV 2)) (mCall 1 fn_currents [] (aCons (mV 0) (aNil))) S0 = .ok .nx (arS h gs L 0 .no .no) := by
    rw [hS0]
    refine (parOD (x := .dic (dicL h.rows (L : Int) (lf h.rows gs L) 0)) (y := .tup (vec h.rows.length (flow h.rows))) (s := .no) (t := .no) rfl (mcall1 (mVd rfl) (e_currents g)) rfl rfl rfl rfl).trans rfl
  obtain ⟨s', e, a6, a7, q6, q7, rfl⟩ := forL_all (t := tgT [6, 7]) (b := bo_are_gauges_1) (fun k s => ∃ a6 a7, pln a6 ∧ pln a7 ∧ s = arS h gs L k a6 a7) (its := (List.range h.rows.length).map fun k => Item.many [.int (k : Nat), rowD (rowAt h.rows k)]) (i := 0) (st := arS h gs L 0 .no .no) ⟨.no, .no, .inl rfl, .inl rfl, rfl⟩ (fun j it s hit w => by
    obtain ⟨a6, a7, q6, q7, rfl⟩ := w
    rw [List.getElem?_map] at hit
    by_cases hj : j < h.rows.length
    · rw [List.getElem?_range hj] at hit
      simp only [Option.map_some, Option.some.injEq] at hit
      subst hit
      rw [Nat.zero_add]
      exact ⟨arS h gs L j (.d (.int (j : Nat))) (.d (rowD (rowAt h.rows j))), _, by simp [tgT, setNs, setN, bnd, ret, arS, q6.free, q7.free], .inl (ar_turn g gg hl hj), _, _, pln_d _, pln_d _, rfl⟩
    · rw [List.getElem?_eq_none (by simp; omega)] at hit
      cases hit)
  rw [List.length_map, List.length_range, Nat.zero_add] at e
  have s4 : fo_are_gauges_2 (arS h gs L 0 .no .no) = .ok .nx (arS h gs L h.rows.length a6 a7) := by
    unfold fo_are_gauges_2 sFor
    rw [bnd_ok (enumR rfl)]
    exact e
  obtain ⟨S1, hS1⟩ : ∃ S1 : St, S1 = [.d h.d, .d (gsD gs), .d (.int (L : Nat)), .d (.tup (numsD h.rows gs L h.rows.length)), .d (.dic (dicL h.rows (L : Int) (lf h.rows gs L) h.rows.length)), .d (.tup (vec h.rows.length (flow h.rows))), a6, a7, .no, .no] := ⟨_, rfl⟩
  have lc3 : lc_are_gauges_3 (arS h gs L h.rows.length a6 a7) = .ok (.o (.lst ((dicL h.rows (L : Int) (lf h.rows gs L) h.rows.length).map fun _ => .bl true))) S1 := by
    refine lcT2 (f := fun kv => keyD kv.1) (sl := .no) (by rw [hS1]; rfl) (by rw [hS1]; rfl) (.inl rfl) (fun kv hkv => ?_) (by rw [dic_len]; omega)
    obtain ⟨v, e1, e2, e3⟩ := keys_dic g (v0 := (L : Int)) (f := lf h.rows gs L) (fun v => 0 ≤ v) (by omega) (fun j hj => (pick g hj (all_fit g hl j hj)).2.1) kv hkv
    have hlt : 8 < S1.length := by rw [hS1]; simp
    refine ⟨.d (.bl true), ?_, rfl⟩
    have := geV (b := mC (.int 0)) (y := 0) (dget_d (i := 4) (st := S1.set 8 (.d (keyD kv.1))) (by rw [List.getElem?_set_ne (by decide), hS1]; rfl) (mVd (List.getElem?_set_self hlt)) e3 e1) rfl
    rw [this, decide_eq_true e2]
  have s5 : sRet (bnd (aCons (lc_are_gauges_3) (aNil)) (rd1 gAll)) (arS h gs L h.rows.length a6 a7) = .ok (.ret (.d (.bl true))) S1 := (bnd_ok (all_T lc3)).trans rfl
  have q : m_are_gauges S0 = .ok (.ret (.d (.bl true))) S1 := seq_nx s0 (seq_nx s1 (seq_nx s2 (seq_nx s3 (seq_nx s4 s5))))
  rw [hS0, hS1] at q
  exact (fn_of_m rfl q).trans rfl
end k15
end DP
end
section
set_option Elab.async false
set_option linter.all false
set_option maxRecDepth 100000
set_option maxHeartbeats 1000000
namespace DP
namespace k15
open PySem PySem.Spec PyProof.Rows L2
theorem E_nn {rs : List Row} (g : Good rs) {gs : List (Int × Int)} (gg : GOk gs) : ∀ m k, rs.length - k ≤ m → k < rs.length → ∀ (left v : Int), E rs gs k left = some v → 0 ≤ v := by
  intro m
  induction m with
  | zero => intro k h1 h2; omega
  | succ m ih =>
    intro k h1 hk left v hv
    rw [E_rec g hk] at hv
    cases e : minC (cands rs gs (E rs gs) k left) with
    | none => rw [e] at hv; cases hv
    | some x =>
      rw [e] at hv
      obtain rfl : x.1 = v := Option.some.inj hv
      obtain ⟨c1, c2, s, c3, c4⟩ := cand_out (minC_mem e).1
      obtain ⟨d1, d2⟩ := sumO_some c3
      have gr := gAt_rg gg x.2
      have : ∀ l : List Nat, (∀ j ∈ l, j ∈ kidsL rs (some k)) → 0 ≤ (l.map ((fun o => o.getD 0) ∘ fun j => E rs gs j (left - (gAt gs x.2).1 * flow rs k))).sum := fun l => by
        induction l with
        | nil => intro _; exact Int.le_refl 0
        | cons y ys ih2 =>
          intro hl
          have h3 := ih2 fun j hj => hl j (List.mem_cons_of_mem _ hj)
          obtain ⟨y1, y2⟩ := kids_gt g (hl y List.mem_cons_self)
          have h4 : 0 ≤ (E rs gs y (left - (gAt gs x.2).1 * flow rs k)).getD 0 := by
            cases ey : E rs gs y (left - (gAt gs x.2).1 * flow rs k) with
            | none => exact Int.le_refl 0
            | some w => exact ih y (by omega) y2 _ _ ey
          rw [List.map_cons, List.sum_cons]
          exact Int.add_nonneg h4 h3
      have h5 := this _ fun j hj => hj
      rw [List.map_map] at d2
      omega
theorem e_is_entry {o : Option Int} (h : ∀ v, o = some v → 0 ≤ v) : fn_is_entry [.d (optD o)] = .ok (.d (.bl true)) [] := by
  have q : m_is_entry [.d (optD o)] = .ok (.ret (.d (.bl true))) [.d (optD o)] := by
    have t : mB (mNone false (mV 0)) [.d (optD o)] = .ok o.isNone [.d (optD o)] := mBd (optD_isN o rfl)
    show sRet (mIf (mB (mNone false (mV 0))) (mC (.bl true)) (mAndV (mCall 1 fn_is_whole [] (aCons (mV 0) (aNil))) (m2 fGe (mV 0) (mC (.int 0))))) _ = _
    have e : mIf (mB (mNone false (mV 0))) (mC (.bl true)) (mAndV (mCall 1 fn_is_whole [] (aCons (mV 0) (aNil))) (m2 fGe (mV 0) (mC (.int 0)))) [.d (optD o)] = .ok (.d (.bl true)) [.d (optD o)] := by
      rw [mIfB t]
      cases o with
      | none => rfl
      | some v =>
        have w := mcall1 (F := fn_is_whole) (m := mV 0) (x := .int v) (st := [.d (optD (some v))]) (mVd rfl) (e_is_whole v)
        show mIf (mB (mCall 1 fn_is_whole [] (aCons (mV 0) (aNil)))) (m2 fGe (mV 0) (mC (.int 0))) (mC (.bl false)) _ = _
        rw [mIfB (mBd w), if_pos rfl, geV (a := mV 0) (b := mC (.int 0)) (x := v) (y := 0) (mVd rfl) rfl, decide_eq_true (h v rfl)]
    exact (bnd_ok e).trans rfl
  exact (fn_of_m rfl q).trans rfl
theorem e_is_table_row {os : List (Option Int)} {L : Nat} (hl : os.length = L + 1) (hL : L ≤ 300) (h : ∀ o ∈ os, ∀ v, o = some v → 0 ≤ v) : fn_is_table_row [.d (.tup (os.map optD)), .d (.int (L : Nat))] = .ok (.d (.bl true)) [] := by
  have r := e_rowN (ds := os.map optD) (n := L + 1) (by rw [List.length_map]; exact hl)
  have a : m2 fAdd (mV 1) (mC (.int 1)) [.d (.tup (os.map optD)), .d (.int (L : Nat)), .no] = .ok (.d (.int ((L + 1 : Nat) : Int))) [.d (.tup (os.map optD)), .d (.int (L : Nat)), .no] := by
    exact (addV (a := mV 1) (b := mC (.int 1)) (x := (L : Nat)) (y := 1) (mVd rfl) rfl).trans rfl
  have t := mcall2 (F := fn_is_row) (m1 := mV 0) (x := .tup (os.map optD)) (st := [.d (.tup (os.map optD)), .d (.int (L : Nat)), .no]) (mVd rfl) a r
  have lc : lc_is_table_row_0 [.d (.tup (os.map optD)), .d (.int (L : Nat)), .no] = .ok (.o (.lst (os.map fun _ => .bl true))) [.d (.tup (os.map optD)), .d (.int (L : Nat)), .no] :=
    lcT (f := optD) (sl := .no) (by rw [srcT (l := os.map optD) (mVd rfl), List.map_map]; rfl) rfl (.inl rfl) (fun o ho => ⟨_, mcall1 (mVd (List.getElem?_set_self (by simp))) (e_is_entry (h o ho)), rfl⟩) (by omega)
  have q : m_is_table_row [.d (.tup (os.map optD)), .d (.int (L : Nat)), .no] = .ok (.ret (.d (.bl true))) [.d (.tup (os.map optD)), .d (.int (L : Nat)), .no] := by
    show sRet (mIf (mB (mCall 2 fn_is_row [] (aCons (mV 0) (aCons (m2 fAdd (mV 1) (mC (.int 1))) (aNil))))) (bnd (aCons (lc_is_table_row_0) (aNil)) (rd1 gAll)) (mC (.bl false))) _ = _
    refine (bnd_ok (s := [.d (.tup (os.map optD)), .d (.int (L : Nat)), .no]) (a := W.d (.bl true)) ?_).trans rfl
    rw [mIfB (mBd t), if_pos rfl]
    exact all_T lc
  exact (fn_of_m rfl q).trans rfl
theorem leV {a b : M W} {x y : Int} {st : St} (ha : a st = .ok (.d (.int x)) st) (hb : b st = .ok (.d (.int y)) st) : m2 fLe a b st = .ok (.d (.bl (decide (x ≤ y)))) st := by
  refine (bnd_ok ha).trans ((bnd_ok hb).trans ?_)
  simp [rd2, rd, gI]
theorem e_is_below {cs : List Int} {o : Option Int} (ho : minI cs = o) (hl : cs.length ≤ 1000) : fn_is_below [.d (optD o), .d (.lst (cs.map .int))] = .ok (.d (.bl true)) [] := by
  have t : mB (mNone false (mV 0)) [.d (optD o), .d (.lst (cs.map .int)), .no] = .ok o.isNone [.d (optD o), .d (.lst (cs.map .int)), .no] := mBd (optD_isN o rfl)
  cases o with
  | none =>
    have hc : cs = [] := by cases cs with
      | nil => rfl
      | cons c cs => cases ho
    subst hc
    have s1 : sIf (mB (mNone false (mV 0))) (sRet (m2 fEq (mV 1) (mLst (aNil)))) (sNx) [.d (optD none), .d (.lst []), .no] = .ok (.ret (.d (.bl true))) [.d (optD none), .d (.lst []), .no] := by
      rw [show (sIf (mB (mNone false (mV 0))) (sRet (m2 fEq (mV 1) (mLst (aNil)))) (sNx) [.d (optD none), .d (.lst []), .no]) = _ from sIfB t]
      have z : eqD (.lst []) (.lst []) = some true := by rfl
      simp [sRet, bnd, m2, mV, mLst, aNil, ret, rd2, rd, fz, gEq, z, retW, allD]
    have q : m_is_below [.d (optD none), .d (.lst []), .no] = .ok (.ret (.d (.bl true))) [.d (optD none), .d (.lst []), .no] := by
      unfold m_is_below sSeq
      rw [bnd_ok s1]
      rfl
    exact (fn_of_m rfl q).trans rfl
  | some m =>
    have s1 : sIf (mB (mNone false (mV 0))) (sRet (m2 fEq (mV 1) (mLst (aNil)))) (sNx) [.d (optD (some m)), .d (.lst (cs.map .int)), .no] = .ok .nx [.d (optD (some m)), .d (.lst (cs.map .int)), .no] := by
      rw [sIfB t]; rfl
    have lc : lc_is_below_0 [.d (optD (some m)), .d (.lst (cs.map .int)), .no] = .ok (.o (.lst (cs.map fun _ => .bl true))) [.d (optD (some m)), .d (.lst (cs.map .int)), .no] := by
      refine lcT (f := D.int) (sl := .no) (by rw [srcD (l := cs.map .int) (mVd rfl), List.map_map]; rfl) rfl (.inl rfl) (fun c hc => ⟨.d (.bl true), ?_, rfl⟩) (by omega)
      rw [leV (x := m) (y := c) (mVd rfl) (mVd rfl), decide_eq_true ((minI_mem ho).2 c hc)]
    have q : m_is_below [.d (optD (some m)), .d (.lst (cs.map .int)), .no] = .ok (.ret (.d (.bl true))) [.d (optD (some m)), .d (.lst (cs.map .int)), .no] := seq_nx s1 ((bnd_ok (all_T lc)).trans rfl)
    exact (fn_of_m rfl q).trans rfl
end k15
end DP
end
section
set_option Elab.async false
set_option linter.all false
set_option maxRecDepth 100000
set_option maxHeartbeats 1000000
namespace DP
namespace k15
open PySem PySem.Spec PyProof.Rows L2
theorem rowT_len {rs : List Row} {gs : List (Int × Int)} {L k : Nat} : ((List.range (L + 1)).map fun l => E rs gs k ((l : Nat) : Int)).length = L + 1 := by simp
theorem rowT_os {rs : List Row} {gs : List (Int × Int)} {L k : Nat} : rowT rs gs L k = ((List.range (L + 1)).map fun l => E rs gs k ((l : Nat) : Int)).map optD := by unfold rowT; rw [List.map_map]; rfl
theorem tab0 {rs : List Row} {gs : List (Int × Int)} {L : Nat} : tabL rs gs L 0 = (List.range rs.length).map fun j => .tup (rowT rs gs L j) := by
  unfold tabL
  refine List.map_congr_left fun j _ => ?_
  rw [if_pos (Nat.zero_le j)]
def alS (h : Har) (gs : List (Int × Int)) (L : Nat) (a4 a5 a6 : Sl) : St := [.d h.d, .d (gsD gs), .d (.int (L : Nat)), .d (tabsD h.rows gs L), a4, a5, a6, .no, .no, .no]
theorem al_costs {h : Har} (g : Good h.rows) {gs : List (Int × Int)} (gg : GOk gs) {L k l : Nat} {a6 : Sl} (hk : k < h.rows.length) (hl : l ≤ L) :
    lc_are_lower_1 (alS h gs L (.d (.int (k : Nat))) (.d (.int (l : Nat))) a6) = .ok (.o (.lst (((cands h.rows gs (E h.rows gs) k ((l : Nat) : Int)).map (·.1)).map .int))) (alS h gs L (.d (.int (k : Nat))) (.d (.int (l : Nat))) a6) := by
  have ec := e_choices g gg hk (tab_okI (gs := gs) (L := L) (left := ((l : Nat) : Int)) g (by omega))
  have src : mSeq (mCall 5 fn_choices [] (aCons (mV 0) (aCons (mV 1) (aCons (mV 4) (aCons (mV 5) (aCons (mV 3) (aNil))))))) (alS h gs L (.d (.int (k : Nat))) (.d (.int (l : Nat))) a6) = .ok (.fz ((cands h.rows gs (E h.rows gs) k ((l : Nat) : Int)).map fun c => .one (candD c))) (alS h gs L (.d (.int (k : Nat))) (.d (.int (l : Nat))) a6) := by
    rw [srcO (mcall5 (mVd rfl) (mVd rfl) (mVd rfl) (mVd rfl) (mVd rfl) ec), List.map_map]
    rfl
  have q := mLc_ix (vs := [8, 9]) (t := tgT [8, 9]) (test := ret true) (elt := mV 8) (st1 := alS h gs L (.d (.int (k : Nat))) (.d (.int (l : Nat))) a6) (st2 := alS h gs L (.d (.int (k : Nat))) (.d (.int (l : Nat))) a6) (fun c => .one (candD c)) (fun _ => true) (fun c => .int c.1) src (by rfl) (fun c hc => ⟨[.d h.d, .d (gsD gs), .d (.int (L : Nat)), .d (tabsD h.rows gs L), .d (.int (k : Nat)), .d (.int (l : Nat)), a6, .no, .d (.int c.1), .d (.int (c.2 : Nat))], by rfl, by rfl, by rfl, fun _ => ⟨.d (.int c.1), by rfl, rfl⟩⟩) (by
    have := gg.l5
    have h2 : (cands h.rows gs (E h.rows gs) k ((l : Nat) : Int)).length ≤ gs.zipIdx.length := List.length_filterMap_le _ _
    rw [List.length_zipIdx] at h2
    omega) (by rfl)
  rw [filterT] at q
  rw [List.map_map]
  exact q
theorem al_turn2 {h : Har} (g : Good h.rows) {gs : List (Int × Int)} (gg : GOk gs) {L k l : Nat} {a6 : Sl} (hk : k < h.rows.length) (hl : l ≤ L) (f6 : pln a6) :
    ∃ b6, bo_are_lower_2 (alS h gs L (.d (.int (k : Nat))) (.d (.int (l : Nat))) a6) = .ok .nx (alS h gs L (.d (.int (k : Nat))) (.d (.int (l : Nat))) b6) ∧ pln b6 := by
  have s1 := setD (i := 6) (fzo (al_costs g gg (a6 := a6) hk hl)) (show _ = some a6 from rfl) f6.free
  refine ⟨.d (.lst (((cands h.rows gs (E h.rows gs) k ((l : Nat) : Int)).map (·.1)).map .int)), seq_nx s1 ?_, pln_d _⟩
  have hm : minI ((cands h.rows gs (E h.rows gs) k ((l : Nat) : Int)).map (·.1)) = E h.rows gs k ((l : Nat) : Int) := by rw [minI_C, ← E_rec g hk]
  have b := e_is_below hm (by
    have := gg.l5
    have h2 : (cands h.rows gs (E h.rows gs) k ((l : Nat) : Int)).length ≤ gs.zipIdx.length := List.length_filterMap_le _ _
    rw [List.length_zipIdx] at h2
    rw [List.length_map]
    omega)
  obtain ⟨S1, hS1⟩ : ∃ S1 : St, S1 = alS h gs L (.d (.int (k : Nat))) (.d (.int (l : Nat))) (.d (.lst (((cands h.rows gs (E h.rows gs) k ((l : Nat) : Int)).map (·.1)).map .int))) := ⟨_, rfl⟩
  have v := tabs_at (rs := h.rows) (gs := gs) (L := L) (a := 3) (i := 4) (b := 5) (st := S1) hk hl (by rw [hS1]; rfl) (by rw [hS1]; rfl) (by rw [hS1]; rfl)
  have c := mcall2 (F := fn_is_below) v (mVd (i := 6) (by rw [hS1]; rfl)) b
  show sIf (mNot (mB (mCall 2 fn_is_below [] (aCons (m2 (rd2 gIx) (m2 (rd2 gIx) (mV 3) (mV 4)) (mV 5)) (aCons (mV 6) (aNil)))))) (sRet (mC (.bl false))) (sNx) (alS h gs L (.d (.int (k : Nat))) (.d (.int (l : Nat))) (.d (.lst (((cands h.rows gs (E h.rows gs) k ((l : Nat) : Int)).map (·.1)).map .int)))) = _
  rw [← hS1, sIfB (notT c)]
  rfl
theorem al_turn4 {h : Har} (g : Good h.rows) {gs : List (Int × Int)} (gg : GOk gs) {L k : Nat} {a5 a6 : Sl} (hk : k < h.rows.length) (hL : L ≤ 300) (f5 : pln a5) (f6 : pln a6) :
    ∃ b5 b6, bo_are_lower_4 (alS h gs L (.d (.int (k : Nat))) a5 a6) = .ok .nx (alS h gs L (.d (.int (k : Nat))) b5 b6) ∧ pln b5 ∧ pln b6 := by
  obtain ⟨s', e, b5, b6, q5, q6, rfl⟩ := forL_all (t := tgN 5) (b := bo_are_lower_2) (fun _ s => ∃ b5 b6, pln b5 ∧ pln b6 ∧ s = alS h gs L (.d (.int (k : Nat))) b5 b6) (its := (List.range (L + 1)).map fun l => Item.one (.int ((l : Nat) : Int))) (i := 0) (st := alS h gs L (.d (.int (k : Nat))) a5 a6) ⟨a5, a6, f5, f6, rfl⟩ (fun j it s hit w => by
    obtain ⟨b5, b6, q5, q6, rfl⟩ := w
    rw [List.getElem?_map] at hit
    by_cases hj : j < L + 1
    · rw [List.getElem?_range hj] at hit
      simp only [Option.map_some, Option.some.injEq] at hit
      subst hit
      obtain ⟨c6, e1, r6⟩ := al_turn2 g gg (l := j) (a6 := b6) hk (show j ≤ L by omega) q6
      exact ⟨alS h gs L (.d (.int (k : Nat))) (.d (.int (j : Nat))) b6, _, by simp [tgN, setN, alS, q5.free], .inl e1, _, _, pln_d _, r6, rfl⟩
    · rw [List.getElem?_eq_none (by simp; omega)] at hit
      cases hit)
  refine ⟨b5, b6, ?_, q5, q6⟩
  unfold bo_are_lower_4 fo_are_lower_3 sFor
  have r : m2 fAdd (mV 2) (mC (.int 1)) (alS h gs L (.d (.int (k : Nat))) a5 a6) = .ok (.d (.int ((L + 1 : Nat) : Int))) (alS h gs L (.d (.int (k : Nat))) a5 a6) := (addV (a := mV 2) (b := mC (.int 1)) (x := (L : Nat)) (y := 1) (mVd rfl) rfl).trans rfl
  rw [bnd_ok (rngN r (by omega))]
  exact e
theorem e_are_lower {h : Har} (g : Good h.rows) {gs : List (Int × Int)} (gg : GOk gs) {L : Nat} (hL : L ≤ 300) : fn_are_lower [.d h.d, .d (gsD gs), .d (.int (L : Nat)), .d (tabsD h.rows gs L)] = .ok (.d (.bl true)) [] := by
  have h10 := g.l10
  have r := e_require_gauges gg (L := (L : Nat)) (by omega) (by omega)
  have tl : (tabL h.rows gs L 0).length = h.rows.length := by unfold tabL; simp
  have s0 : sDrop (mCall 2 fn_require_gauges [] (aCons (mV 1) (aCons (mV 2) (aNil)))) (alS h gs L .no .no .no) = .ok .nx (alS h gs L .no .no .no) := (bnd_ok (mcall2 (mVd rfl) (mVd rfl) r)).trans rfl
  have lc : lc_are_lower_0 (alS h gs L .no .no .no) = .ok (.o (.lst ((List.range h.rows.length).map fun _ => .bl true))) (alS h gs L .no .no .no) := by
    refine lcT (f := fun j => .tup (rowT h.rows gs L j)) (sl := .no) (by rw [srcT (l := tabL h.rows gs L 0) (mVd rfl), tab0, List.map_map]; rfl) rfl (.inl rfl) (fun k hk => ?_) (by simp; omega)
    rw [List.mem_range] at hk
    have e := e_is_table_row (os := (List.range (L + 1)).map fun l => E h.rows gs k ((l : Nat) : Int)) (L := L) rowT_len hL (fun o ho v hv => by
      obtain ⟨l, _, rfl⟩ := List.mem_map.mp ho
      exact E_nn g gg _ k (Nat.le_refl _) hk _ v hv)
    rw [← rowT_os] at e
    exact ⟨_, mcall2 (mVd (List.getElem?_set_self (by simp [alS]))) (mVd (by rw [List.getElem?_set_ne (by decide)]; rfl)) e, rfl⟩
  have s1 : sIf (mOr (mNot (mB (mCall 2 fn_is_row [] (aCons (mV 3) (aCons (bnd (aCons (mFld ["Harness"] "rows" (mV 0)) (aNil)) (rd1 gLen)) (aNil)))))) (mNot (mB (bnd (aCons (lc_are_lower_0) (aNil)) (rd1 gAll))))) (sRet (mC (.bl false))) (sNx) (alS h gs L .no .no .no) = .ok .nx (alS h gs L .no .no .no) := by
    have t1 := notT (mcall2 (F := fn_is_row) (m1 := mV 3) (st := alS h gs L .no .no .no) (mVd (x := tabsD h.rows gs L) rfl) (rows_len (h := h) rfl) (e_rowN tl))
    have t2 := notT (all_T lc)
    have t3 : mOr (mNot (mB (mCall 2 fn_is_row [] (aCons (mV 3) (aCons (bnd (aCons (mFld ["Harness"] "rows" (mV 0)) (aNil)) (rd1 gLen)) (aNil)))))) (mNot (mB (bnd (aCons (lc_are_lower_0) (aNil)) (rd1 gAll)))) (alS h gs L .no .no .no) = .ok false (alS h gs L .no .no .no) := by
      rw [show ∀ a b : M Bool, mOr a b = mIf a (ret true) b from fun _ _ => rfl, mIfB t1]
      exact t2
    rw [sIfB t3]
    rfl
  obtain ⟨s', e, b4, b5, b6, q4, q5, q6, rfl⟩ := forL_all (t := tgN 4) (b := bo_are_lower_4) (fun _ s => ∃ b4 b5 b6, pln b4 ∧ pln b5 ∧ pln b6 ∧ s = alS h gs L b4 b5 b6) (its := (List.range h.rows.length).map fun k => Item.one (.int ((k : Nat) : Int))) (i := 0) (st := alS h gs L .no .no .no) ⟨.no, .no, .no, .inl rfl, .inl rfl, .inl rfl, rfl⟩ (fun j it s hit w => by
    obtain ⟨b4, b5, b6, q4, q5, q6, rfl⟩ := w
    rw [List.getElem?_map] at hit
    by_cases hj : j < h.rows.length
    · rw [List.getElem?_range hj] at hit
      simp only [Option.map_some, Option.some.injEq] at hit
      subst hit
      obtain ⟨c5, c6, e1, r5, r6⟩ := al_turn4 g gg (k := j) (a5 := b5) (a6 := b6) hj hL q5 q6
      exact ⟨alS h gs L (.d (.int (j : Nat))) b5 b6, _, by simp [tgN, setN, alS, q4.free], .inl e1, _, _, _, pln_d _, r5, r6, rfl⟩
    · rw [List.getElem?_eq_none (by simp; omega)] at hit
      cases hit)
  have s2 : fo_are_lower_5 (alS h gs L .no .no .no) = .ok .nx (alS h gs L b4 b5 b6) := by
    unfold fo_are_lower_5 sFor
    have len := lenT (m := mV 3) (st := alS h gs L .no .no .no) (ds := tabL h.rows gs L 0) (mVd rfl)
    rw [tl] at len
    rw [bnd_ok (rngN len (by omega))]
    exact e
  have q : m_are_lower (alS h gs L .no .no .no) = .ok (.ret (.d (.bl true))) (alS h gs L b4 b5 b6) := seq_nx s0 (seq_nx s1 (seq_nx s2 rfl))
  exact (fn_of_m rfl q).trans rfl
theorem sum_range {n : Nat} {f : Nat → Int} : ((List.range n).map f).sum = S n f := S_eq n f
theorem nums_ns {rs : List Row} {gs : List (Int × Int)} {L n : Nat} : numsD rs gs L n = nsD ((List.range n).map (nA rs gs L)) := by unfold numsD nsD; rw [List.map_map]; rfl
theorem cost_nums {rs : List Row} (g : Good rs) {gs : List (Int × Int)} {L : Nat} {t : Int} (h : leastO rs gs L = some t) : fn_cost_of [.d (gsD gs), .d (.tup (numsD rs gs L rs.length))] = .ok (.d (.int t)) [] := by
  have h10 := g.l10
  have e := e_cost_of (gs := gs) (ns := (List.range rs.length).map (nA rs gs L)) (fun i hi => by
    obtain ⟨k, hk, rfl⟩ := List.mem_map.mp hi
    rw [List.mem_range] at hk
    exact (pick g hk (all_fit g h k hk)).1) (by simp; omega)
  rw [List.map_map] at e
  have e2 : ((List.range rs.length).map ((fun i => (gAt gs i).2) ∘ nA rs gs L)).sum = t := by
    rw [S_eq, cost_A g h]
    rfl
  rw [e2] at e
  rw [nums_ns]
  exact e
theorem e_shows {h : Har} (g : Good h.rows) {gs : List (Int × Int)} (gg : GOk gs) {L : Nat} (hL : L ≤ 300) {t : Int} (hl : leastO h.rows gs L = some t) : fn_shows_cheapest [.d h.d, .d (gsD gs), .d (.int (L : Nat)), .d (.tup (numsD h.rows gs L h.rows.length)), .d (tabsD h.rows gs L)] = .ok (.d (.bl true)) [] := by
  obtain ⟨S0, hS0⟩ : ∃ S0 : St, S0 = [.d h.d, .d (gsD gs), .d (.int (L : Nat)), .d (.tup (numsD h.rows gs L h.rows.length)), .d (tabsD h.rows gs L), .no, .no] := ⟨_, rfl⟩
  have q0 : S0[0]? = some (.d h.d) := by rw [hS0]; rfl
  have q1 : S0[1]? = some (.d (gsD gs)) := by rw [hS0]; rfl
  have q2 : S0[2]? = some (.d (.int (L : Nat))) := by rw [hS0]; rfl
  have q3 : S0[3]? = some (.d (.tup (numsD h.rows gs L h.rows.length))) := by rw [hS0]; rfl
  have q4 : S0[4]? = some (.d (tabsD h.rows gs L)) := by rw [hS0]; rfl
  have t1 := notT (mcall4 (mVd q0) (mVd q1) (mVd q2) (mVd q3) (e_are_gauges g gg hL hl))
  have t2 := notT (mcall4 (mVd q0) (mVd q1) (mVd q2) (mVd q4) (e_are_lower g gg hL))
  have s1 : sIf (mOr (mNot (mB (mCall 4 fn_are_gauges [] (aCons (mV 0) (aCons (mV 1) (aCons (mV 2) (aCons (mV 3) (aNil)))))))) (mNot (mB (mCall 4 fn_are_lower [] (aCons (mV 0) (aCons (mV 1) (aCons (mV 2) (aCons (mV 4) (aNil))))))))) (sRet (mC (.bl false))) (sNx) S0 = .ok .nx S0 := by
    have t3 : mOr (mNot (mB (mCall 4 fn_are_gauges [] (aCons (mV 0) (aCons (mV 1) (aCons (mV 2) (aCons (mV 3) (aNil)))))))) (mNot (mB (mCall 4 fn_are_lower [] (aCons (mV 0) (aCons (mV 1) (aCons (mV 2) (aCons (mV 4) (aNil)))))))) S0 = .ok false S0 := by
      rw [show ∀ a b : M Bool, mOr a b = mIf a (ret true) b from fun _ _ => rfl, mIfB t1]
      exact t2
    rw [sIfB t3]
    rfl
  have ek := e_children g (k := none) trivial
  have src : mSeq (mCall 2 fn_children [] (aCons (mV 0) (aCons (mC .non) (aNil)))) S0 = .ok (.fz ((kidsL h.rows none).map fun j => .one (.int (j : Nat)))) S0 := by
    rw [srcO (mcall2 (mVd q0) (show mC .non _ = .ok (.d .non) _ from rfl) ek)]
    unfold natsD
    rw [List.map_map]
    rfl
  have q : lc_shows_cheapest_0 S0 = .ok (.o (.lst (((kidsL h.rows none).map fun j => E h.rows gs j (L : Int)).map optD))) S0 := by
    rw [List.map_map]
    refine lcT (f := fun j => .int (j : Nat)) src (show _ = some Sl.no by rw [hS0]; rfl) (.inl rfl) (fun j hj => ⟨.d (optD (E h.rows gs j (L : Int))), tabs_at (kids_lt j hj) (Nat.le_refl L) (by rw [List.getElem?_set_ne (by decide), q4]) (List.getElem?_set_self (by rw [hS0]; simp)) (by rw [List.getElem?_set_ne (by decide), q2]), rfl⟩) (by have := kids_len g (k := none); omega)
  have s2 := setD (i := 5) (s := .no) (mcall1w q rfl (e_sum_told (os := (kidsL h.rows none).map fun j => E h.rows gs j (L : Int)) (by have := kids_len g (k := none); rw [List.length_map]; omega))) (by rw [hS0]; rfl) rfl
  have hl' : sumO ((kidsL h.rows none).map fun j => E h.rows gs j (L : Int)) = some t := hl
  rw [hl'] at s2
  have f1 : (S0.set 5 (.d (optD (some t))))[5]? = some (.d (.int t)) := List.getElem?_set_self (by rw [hS0]; simp)
  have c := mcall2 (F := fn_cost_of) (m1 := mV 1) (m2 := mV 3) (st := S0.set 5 (.d (optD (some t)))) (mVd (by rw [List.getElem?_set_ne (by decide), q1])) (mVd (by rw [List.getElem?_set_ne (by decide), q3])) (cost_nums g hl)
  have s3 : sRet (m2 fEq (mV 5) (mCall 2 fn_cost_of [] (aCons (mV 1) (aCons (mV 3) (aNil))))) (S0.set 5 (.d (optD (some t)))) = .ok (.ret (.d (.bl true))) (S0.set 5 (.d (optD (some t)))) := by
    have z : eqD (.int t) (.int t) = some true := by rw [eqD_int]; simp
    have e : m2 fEq (mV 5) (mCall 2 fn_cost_of [] (aCons (mV 1) (aCons (mV 3) (aNil)))) (S0.set 5 (.d (optD (some t)))) = .ok (.d (.bl true)) (S0.set 5 (.d (optD (some t)))) := by
      refine (bnd_ok (mVd f1)).trans ((bnd_ok c).trans ?_)
      simp [rd2, rd, gEq, z]
    exact (bnd_ok e).trans rfl
  have qq : m_shows_cheapest S0 = .ok (.ret (.d (.bl true))) (S0.set 5 (.d (optD (some t)))) := seq_nx s1 (seq_nx s2 s3)
  rw [hS0] at qq
  exact (fn_of_m rfl qq).trans rfl
end k15
end DP
end
section
set_option Elab.async false
set_option linter.all false
set_option maxRecDepth 100000
set_option maxHeartbeats 1000000
namespace DP
namespace k15
open PySem PySem.Spec PyProof.Rows L2
/-! ### does it fit -/
def asgD (n : Nat) (a : Nat → Nat) : List D := (List.range n).map fun j => .int (a j : Nat)
theorem asg_at {n k : Nat} {a : Nat → Nat} (hk : k < n) : L2.atI (asgD n a) ((k : Nat) : Int) = some (.int (a k : Nat)) := at_map (f := fun j => .int (a j : Nat)) hk
def ftS (rs : List Row) (gs : List (Int × Int)) (M : Int) (a : Nat → Nat) (a5 : Sl) : St := [.d (rowsD rs), .d (gsD gs), .d (.int M), .d (.tup (asgD rs.length a)), .d (.lst (vec rs.length (flow rs))), a5, .no]
theorem ft_sum {rs : List Row} (g : Good rs) {gs : List (Int × Int)} (gg : GOk gs) {M : Int} {a : Nat → Nat} (ha : ∀ k, k < rs.length → a k < gs.length) {k : Nat} (hk : k < rs.length) :
    bnd (aCons (lc_law_fits_0) (aNil)) (rd1 gSum) (ftS rs gs M a (.d (.int (k : Nat)))) = .ok (.d (.int (drop rs gs a k))) (ftS rs gs M a (.d (.int (k : Nat)))) := by
  have src : mSeq (mCall 2 fn_law_path [] (aCons (mV 0) (aCons (mV 5) (aNil)))) (ftS rs gs M a (.d (.int (k : Nat)))) = .ok (.fz ((pth rs k).map fun j => .one (.int (j : Nat)))) (ftS rs gs M a (.d (.int (k : Nat)))) := by
    rw [srcD (mcall2 (mVd rfl) (mVd rfl) (e_law_path g hk))]
    unfold natsD
    rw [List.map_map]
    rfl
  have lc : lc_law_fits_0 (ftS rs gs M a (.d (.int (k : Nat)))) = .ok (.o (.lst (((pth rs k).map fun j => (gAt gs (a j)).1 * flow rs j).map .int))) (ftS rs gs M a (.d (.int (k : Nat)))) := by
    rw [List.map_map]
    refine lcT (f := fun j => .int (j : Nat)) (sl := .no) src rfl (.inl rfl) (fun j hj => ⟨.d (.int ((gAt gs (a j)).1 * flow rs j)), ?_, rfl⟩) (by have := pth_len g hk; omega)
    have hjn : j < rs.length := Nat.lt_of_le_of_lt (mem_pth g hk hj) hk
    have gr := gAt_rg gg (a j)
    exact mulV (ixC (X := gD (gAt gs (a j))) (.inl rfl) (ixE (X := gsD gs) (.inl rfl) (mVd rfl) (ixV (X := .tup (asgD rs.length a)) (.inl rfl) rfl rfl (asg_at hjn)) (gs_at (ha j hjn))) at_0) (ixV (X := .lst (vec rs.length (flow rs))) (.inr rfl) rfl rfl (vecA hjn)) (by omega)
  rw [bnd_ok (aC1 lc)]
  simp only [argW, fz]
  unfold rd1
  simp only [rd, gSum, asInts_map]
  rfl
def fitB (rs : List Row) (gs : List (Int × Int)) (a : Nat → Nat) (M : Int) : Bool := (List.range rs.length).all fun k => decide (drop rs gs a k ≤ M)
theorem ft_loop {rs : List Row} (g : Good rs) {gs : List (Int × Int)} (gg : GOk gs) {M : Int} {a : Nat → Nat} (ha : ∀ k, k < rs.length → a k < gs.length) : ∀ (ks : List Nat) (a5 : Sl), (∀ k ∈ ks, k < rs.length) → pln a5 →
    ∃ b5, forL (tgN 5) bo_law_fits_1 (ks.map fun k => .one (.int (k : Nat))) (ftS rs gs M a a5) = .ok (if (ks.all fun k => decide (drop rs gs a k ≤ M)) then .nx else .ret (.d (.bl false))) (ftS rs gs M a b5) ∧ pln b5
  | [], a5, _, f5 => ⟨a5, rfl, f5⟩
  | k :: ks, a5, hk, f5 => by
    have hk0 := hk k List.mem_cons_self
    have et : tgN 5 (.one (.int (k : Nat))) (ftS rs gs M a a5) = .ok () (ftS rs gs M a (.d (.int (k : Nat)))) := by simp [tgN, setN, ftS, f5.free]
    have t : mB (m2 fGt (bnd (aCons (lc_law_fits_0) (aNil)) (rd1 gSum)) (mV 2)) (ftS rs gs M a (.d (.int (k : Nat)))) = .ok (decide (M < drop rs gs a k)) (ftS rs gs M a (.d (.int (k : Nat)))) := gtB (ft_sum g gg ha hk0) (mVd rfl)
    rw [List.map_cons]
    unfold forL
    rw [et]
    dsimp only
    by_cases h : drop rs gs a k ≤ M
    · have eb : bo_law_fits_1 (ftS rs gs M a (.d (.int (k : Nat)))) = .ok .nx (ftS rs gs M a (.d (.int (k : Nat)))) := by
        unfold bo_law_fits_1
        rw [sIfB t, if_neg (by simp; omega)]
        rfl
      rw [bnd_ok eb]
      obtain ⟨b5, e, q⟩ := ft_loop g gg (M := M) ha ks (.d (.int (k : Nat))) (fun j hj => hk j (List.mem_cons_of_mem _ hj)) (pln_d _)
      refine ⟨b5, ?_, q⟩
      rw [List.all_cons, decide_eq_true h, Bool.true_and]
      exact e
    · have eb : bo_law_fits_1 (ftS rs gs M a (.d (.int (k : Nat)))) = .ok (.ret (.d (.bl false))) (ftS rs gs M a (.d (.int (k : Nat)))) := by
        unfold bo_law_fits_1
        rw [sIfB t, if_pos (by simp; omega)]
        rfl
      rw [bnd_ok eb]
      refine ⟨.d (.int (k : Nat)), ?_, pln_d _⟩
      rw [List.all_cons, decide_eq_false h, Bool.false_and]
      rfl
theorem e_law_fits {rs : List Row} (g : Good rs) {gs : List (Int × Int)} (gg : GOk gs) {M : Int} {a : Nat → Nat} (ha : ∀ k, k < rs.length → a k < gs.length) : fn_law_fits [.d (rowsD rs), .d (gsD gs), .d (.int M), .d (.tup (asgD rs.length a))] = .ok (.d (.bl (fitB rs gs a M))) [] := by
  have h10 := g.l10
  have s1 : sSet 4 (mFz (mCall 1 fn_law_flows [] (aCons (mV 0) (aNil)))) [.d (rowsD rs), .d (gsD gs), .d (.int M), .d (.tup (asgD rs.length a)), .no, .no, .no] = .ok .nx (ftS rs gs M a .no) := setD (fzo (mcall1 (m := mV 0) (mVd (i := 0) rfl) (e_law_flows g))) rfl rfl
  obtain ⟨b5, e, q5⟩ := ft_loop g gg (M := M) ha (List.range rs.length) .no (fun k hk => List.mem_range.mp hk) (.inl rfl)
  have s2 : fo_law_fits_2 (ftS rs gs M a .no) = .ok (if fitB rs gs a M then .nx else .ret (.d (.bl false))) (ftS rs gs M a b5) := by
    unfold fo_law_fits_2 sFor
    have len := lenT (m := mV 0) (st := ftS rs gs M a .no) (ds := rs.map rowD) (mVd rfl)
    rw [List.length_map] at len
    rw [bnd_ok (rngN len (by omega))]
    exact e
  have q : m_law_fits [.d (rowsD rs), .d (gsD gs), .d (.int M), .d (.tup (asgD rs.length a)), .no, .no, .no] = .ok (.ret (.d (.bl (fitB rs gs a M)))) (ftS rs gs M a b5) := by
    refine seq_nx s1 ?_
    unfold sSeq
    rw [bnd_ok s2]
    cases fitB rs gs a M <;> rfl
  generalize fitB rs gs a M = B at q ⊢
  generalize asgD rs.length a = AD at q ⊢
  unfold fn_law_fits
  rw [fn_of_m (st := [.d (rowsD rs), .d (gsD gs), .d (.int M), .d (.tup AD), .no, .no, .no]) rfl q]
  rfl
end k15
end DP
end
section
set_option Elab.async false
set_option linter.all false
set_option maxRecDepth 100000
set_option maxHeartbeats 1000000
namespace DP
namespace k15
open PySem PySem.Spec PyProof.Rows L2
/-! ### the least limit -/
def mx (f : Nat → Int) : Nat → Int
  | 0 => 0
  | k + 1 => if mx f k < f k then f k else mx f k
theorem mx_le {f : Nat → Int} {M : Int} : ∀ n, mx f n ≤ M ↔ (0 ≤ M ∧ ∀ k, k < n → f k ≤ M)
  | 0 => by simp [mx]
  | n + 1 => by
    have ih := mx_le (f := f) (M := M) n
    constructor
    · intro h
      have h1 : mx f n ≤ M ∧ f n ≤ M := by
        unfold mx at h
        split at h <;> omega
      obtain ⟨a, b⟩ := ih.mp h1.1
      refine ⟨a, fun k hk => ?_⟩
      by_cases e : k = n
      · subst e; exact h1.2
      · exact b k (by omega)
    · rintro ⟨a, b⟩
      have h1 := ih.mpr ⟨a, fun k hk => b k (by omega)⟩
      have h2 := b n (by omega)
      unfold mx
      split <;> omega
theorem mx_nn (f : Nat → Int) : ∀ n, 0 ≤ mx f n
  | 0 => Int.le_refl 0
  | n + 1 => by
    have := mx_nn f n
    unfold mx
    split <;> omega
def thin (gs : List (Int × Int)) : Nat → Nat := fun _ => gs.length - 1
def limS (h : Har) (gs : List (Int × Int)) (k : Nat) (a5 a6 : Sl) : St := [.d h.d, .d (gsD gs), .d (.int (gAt gs (gs.length - 1)).1), .o none (.dic (dicL h.rows 0 (drop h.rows gs (thin gs)) k)), .d (.int (mx (drop h.rows gs (thin gs)) k)), a5, a6]
theorem lim_turn {h : Har} (g : Good h.rows) {gs : List (Int × Int)} (gg : GOk gs) {k : Nat} (hk : k < h.rows.length) :
    bo_least_limit_0 (limS h gs k (.d (rowD (rowAt h.rows k))) (.d (.int (flow h.rows k)))) = .ok .nx (limS h gs (k + 1) (.d (rowD (rowAt h.rows k))) (.d (.int (flow h.rows k)))) := by
  have h10 := g.l10
  have gr := gAt_rg gg (gs.length - 1)
  obtain ⟨v, hv⟩ : ∃ v : Int, v = (match upI h.rows k with | none => 0 | some j => drop h.rows gs (thin gs) j) := ⟨_, rfl⟩
  have dg : getK (dicL h.rows 0 (drop h.rows gs (thin gs)) k) (.inr (rowAt h.rows k).fr) = some (.int v) := by rw [hv]; exact dic_get g hk
  have left : m2 (rd2 gDx) (mV 3) (m2 (rd2 gIx) (mV 5) (mC (.int 1))) (limS h gs k (.d (rowD (rowAt h.rows k))) (.d (.int (flow h.rows k)))) = .ok (.d (.int v)) (limS h gs k (.d (rowD (rowAt h.rows k))) (.d (.int (flow h.rows k)))) := dget_o (t := none) (kvs := dicL h.rows 0 (drop h.rows gs (thin gs)) k) rfl (rowS rfl at_1) rfl dg
  have ed : v + (gAt gs (gs.length - 1)).1 * flow h.rows k = drop h.rows gs (thin gs) k := by
    rw [hv]
    cases e : upI h.rows k with
    | none => rw [drop_root e]; simp [thin]
    | some j => rw [drop_step g hk e]; rfl
  have e3 := addV left (mulV (a := mV 2) (b := mV 6) (x := (gAt gs (gs.length - 1)).1) (y := flow h.rows k) (st := limS h gs k (.d (rowD (rowAt h.rows k))) (.d (.int (flow h.rows k)))) (mVd rfl) (mVd rfl) (by omega))
  rw [ed] at e3
  have e4 := dput_v (i := 3) (t := none) (kvs := dicL h.rows 0 (drop h.rows gs (thin gs)) k) (mk := m2 (rd2 gIx) (mV 5) (mC (.int 0))) (k := .inr (rowAt h.rows k).nm) e3 rfl (rowS rfl at_0) rfl (by rw [dic_len]; omega)
  rw [← nmAt_row hk, dic_set g hk] at e4
  refine seq_nx e4 ?_
  obtain ⟨S1, hS1⟩ : ∃ S1 : St, S1 = [.d h.d, .d (gsD gs), .d (.int (gAt gs (gs.length - 1)).1), .o none (.dic (dicL h.rows 0 (drop h.rows gs (thin gs)) (k + 1))), .d (.int (mx (drop h.rows gs (thin gs)) k)), .d (rowD (rowAt h.rows k)), .d (.int (flow h.rows k))] := ⟨_, rfl⟩
  have l2 : m2 (rd2 gDx) (mV 3) (m2 (rd2 gIx) (mV 5) (mC (.int 0))) S1 = .ok (.d (.int (drop h.rows gs (thin gs) k))) S1 := dget_o (t := none) (kvs := dicL h.rows 0 (drop h.rows gs (thin gs)) (k + 1)) (by rw [hS1]; rfl) (rowS (by rw [hS1]; rfl) at_0) rfl (by rw [← nmAt_row hk]; exact dic_at g (by omega) (by omega))
  have m4 : mV 4 S1 = .ok (.d (.int (mx (drop h.rows gs (thin gs)) k))) S1 := mVd (by rw [hS1]; rfl)
  have q : aCons (mV 4) (aCons (m2 (rd2 gDx) (mV 3) (m2 (rd2 gIx) (mV 5) (mC (.int 0)))) (aNil)) S1 = .ok [.d (.int (mx (drop h.rows gs (thin gs)) k)), .d (.int (drop h.rows gs (thin gs) k))] S1 := (aC2 m4 l2).trans rfl
  have e5 : bnd (aCons (mV 4) (aCons (m2 (rd2 gDx) (mV 3) (m2 (rd2 gIx) (mV 5) (mC (.int 0)))) (aNil))) (rdL2 gMax2) S1 = .ok (.d (.int (mx (drop h.rows gs (thin gs)) (k + 1)))) S1 := by
    rw [bnd_ok q]
    show rdL2 gMax2 _ S1 = _
    simp only [rdL2, rd, gI, mx]
  have e6 := setD (i := 4) (s := .d (.int (mx (drop h.rows gs (thin gs)) k))) e5 (by rw [hS1]; rfl) rfl
  rw [hS1] at e6
  exact e6
theorem e_least_limit {h : Har} (g : Good h.rows) {gs : List (Int × Int)} (gg : GOk gs) : fn_least_limit [.d h.d, .d (gsD gs)] = .ok (.d (optD (if mx (drop h.rows gs (thin gs)) h.rows.length ≤ 300 then some (mx (drop h.rows gs (thin gs)) h.rows.length) else none))) [] := by
  have h10 := g.l10
  have l1 := gg.l1
  have r := e_require_gauges gg (L := 0) (by omega) (by omega)
  have s0 : sDrop (mCall 2 fn_require_gauges [] (aCons (mV 1) (aCons (mC (.int 0)) (aNil)))) [.d h.d, .d (gsD gs), .no, .no, .no, .no, .no] = .ok .nx [.d h.d, .d (gsD gs), .no, .no, .no, .no, .no] := (bnd_ok (mcall2 (mVd rfl) rfl r)).trans rfl
  have lst : L2.atI (gs.map gD) (-1) = some (gD (gAt gs (gs.length - 1))) := by
    rw [atI_last, List.getLast?_map]
    have : gs.getLast? = some (gAt gs (gs.length - 1)) := by
      rw [List.getLast?_eq_getElem?]
      unfold gAt
      rw [List.getD_eq_getElem?_getD, List.getElem?_eq_getElem (by omega)]
      rfl
    rw [this]; rfl
  have s1 : sPar3 2 3 4 (m2 (rd2 gIx) (m2 (rd2 gIx) (mV 1) (mNeg (mC (.int 1)))) (mC (.int 0))) (mDic1 (mC (.str "source")) (mC (.int 0))) (mC (.int 0)) [.d h.d, .d (gsD gs), .no, .no, .no, .no, .no] = .ok .nx (limS h gs 0 .no .no) := by
    refine (bnd_ok (ixC (X := gD (gAt gs (gs.length - 1))) (.inl rfl) (ixE (X := gsD gs) (.inl rfl) (mVd rfl) (show mNeg (mC (.int 1)) _ = .ok (.d (.int (-1))) _ from rfl) lst) at_0)).trans ?_
    rfl
  obtain ⟨s', e, a5, a6, q5, q6, rfl⟩ := forL_all (t := tgT [5, 6]) (b := bo_least_limit_0) (fun k s => ∃ a5 a6, pln a5 ∧ pln a6 ∧ s = limS h gs k a5 a6) (its := (List.range h.rows.length).map fun k => Item.many [rowD (rowAt h.rows k), .int (flow h.rows k)]) (i := 0) (st := limS h gs 0 .no .no) ⟨.no, .no, .inl rfl, .inl rfl, rfl⟩ (fun j it s hit w => by
    obtain ⟨a5, a6, q5, q6, rfl⟩ := w
    rw [List.getElem?_map] at hit
    by_cases hj : j < h.rows.length
    · rw [List.getElem?_range hj] at hit
      simp only [Option.map_some, Option.some.injEq] at hit
      subst hit
      rw [Nat.zero_add]
      exact ⟨limS h gs j (.d (rowD (rowAt h.rows j))) (.d (.int (flow h.rows j))), _, by simp [tgT, setNs, setN, bnd, ret, limS, q5.free, q6.free], .inl (lim_turn g gg hj), _, _, pln_d _, pln_d _, rfl⟩
    · rw [List.getElem?_eq_none (by simp; omega)] at hit
      cases hit)
  rw [List.length_map, List.length_range, Nat.zero_add] at e
  have s2 : fo_least_limit_1 (limS h gs 0 .no .no) = .ok .nx (limS h gs h.rows.length a5 a6) := by
    unfold fo_least_limit_1 sFor
    have e1 : mZipT (aCons (mFld ["Harness"] "rows" (mV 0)) (aCons (mCall 1 fn_currents [] (aCons (mV 0) (aNil))) (aNil))) (limS h gs 0 .no .no) = .ok (.fz ((List.range h.rows.length).map fun k => Item.many [rowD (rowAt h.rows k), .int (flow h.rows k)])) (limS h gs 0 .no .no) := by
      unfold mZipT
      rw [bnd_ok (aC2 (rows_v (h := h) rfl) (mcall1 (m := mV 0) (mVd (i := 0) rfl) (e_currents g)))]
      simp only [argW, rowsD]
      rw [← zip_rows]
      rfl
    rw [bnd_ok e1]
    exact e
  obtain ⟨m, hm⟩ : ∃ m, m = mx (drop h.rows gs (thin gs)) h.rows.length := ⟨_, rfl⟩
  have s3 : sRet (mIf (mB (m2 fLe (mV 4) (mC (.int (300))))) (mV 4) (mC .non)) (limS h gs h.rows.length a5 a6) = .ok (.ret (.d (optD (if m ≤ 300 then some m else none)))) (limS h gs h.rows.length a5 a6) := by
    have t : mB (m2 fLe (mV 4) (mC (.int (300)))) (limS h gs h.rows.length a5 a6) = .ok (decide (m ≤ 300)) (limS h gs h.rows.length a5 a6) := mBd (leV (by rw [hm]; exact mVd rfl) rfl)
    have e : mIf (mB (m2 fLe (mV 4) (mC (.int (300))))) (mV 4) (mC .non) (limS h gs h.rows.length a5 a6) = .ok (.d (optD (if m ≤ 300 then some m else none))) (limS h gs h.rows.length a5 a6) := by
      rw [mIfB t]
      by_cases h3 : m ≤ 300
      · rw [if_pos (decide_eq_true h3), if_pos h3, hm]
        exact mVd rfl
      · rw [if_neg (by simpa using h3), if_neg h3]
        rfl
    exact (bnd_ok e).trans rfl
  have q : m_least_limit [.d h.d, .d (gsD gs), .no, .no, .no, .no, .no] = .ok (.ret (.d (optD (if m ≤ 300 then some m else none)))) (limS h gs h.rows.length a5 a6) := seq_nx s0 (seq_nx s1 (seq_nx s2 s3))
  rw [← hm]
  generalize optD (if m ≤ 300 then some m else none) = R at q ⊢
  unfold fn_least_limit
  rw [fn_of_m (st := [.d h.d, .d (gsD gs), .no, .no, .no, .no, .no]) rfl q]
  rfl
end k15
end DP
end
section
set_option Elab.async false
set_option linter.all false
set_option maxRecDepth 100000
set_option maxHeartbeats 1000000
namespace DP
namespace k15
open PySem PySem.Spec PyProof.Rows L2
/-! ### gauges drawn -/
structure GP (gs : List (Int × Int)) (ohms : Int) : Prop where
  rg : ∀ g ∈ gs, (0 ≤ g.1 ∧ g.1 ≤ 99) ∧ (0 ≤ g.2 ∧ g.2 ≤ 99)
  dec : ∀ (i : Nat) (a b : Int × Int), gs[i]? = some a → gs[i + 1]? = some b → b.1 < a.1
  last : ∀ a, gs.getLast? = some a → ohms < a.1
  top : ohms ≤ 99
theorem GP.low {gs : List (Int × Int)} {ohms m : Int} (p : GP gs ohms) (h : m ≤ ohms) : GP gs m := ⟨p.rg, p.dec, fun a ha => Int.lt_of_le_of_lt h (p.last a ha), Int.le_trans h p.top⟩
theorem GP.add {gs : List (Int × Int)} {ohms c m : Int} (p : GP gs ohms) (h0 : 0 ≤ ohms) (hc : 0 ≤ c ∧ c ≤ 99) (hm : m < ohms) : GP (gs ++ [(ohms, c)]) m where
  rg := fun g hg => by
    rcases List.mem_append.mp hg with hg | hg
    · exact p.rg g hg
    · have : g = (ohms, c) := by simpa using hg
      subst this
      exact ⟨⟨h0, p.top⟩, hc⟩
  dec := fun i a b ha hb => by
    have hb1 := (List.getElem?_eq_some_iff.mp hb).1
    rw [List.length_append, List.length_singleton] at hb1
    by_cases h : i + 1 < gs.length
    · rw [List.getElem?_append_left (by omega)] at ha
      rw [List.getElem?_append_left h] at hb
      exact p.dec i a b ha hb
    · have e : i + 1 = gs.length := by omega
      rw [List.getElem?_append_left (by omega)] at ha
      rw [List.getElem?_append_right (by omega), e, Nat.sub_self] at hb
      have eb : (ohms, c) = b := by simpa using hb
      rw [← eb]
      refine p.last a ?_
      rw [List.getLast?_eq_getElem?, ← e]
      exact ha
  last := fun a ha => by
    rw [List.getLast?_append] at ha
    have : (ohms, c) = a := by simpa using ha
    rw [← this]
    exact hm
  top := by have := p.top; omega
theorem app_w {i : Nat} {t : Option Nat} {acc : List D} {x : D} {m : M W} {st st1 : St} (h0 : st[i]? = some (.o t (.lst acc))) (hi : st1[i]? = some (.o t (.lst acc))) (hl : acc.length < 1000000) (hm : m st = .ok (.d x) st1) : sAppend (mV i) (aCons m aNil) st = .ok .nx (st1.set i (.o t (.lst (acc ++ [x])))) := by
  have e2 : mV i st = .ok (.b i) st := by unfold mV; rw [h0]
  unfold sAppend sAppL
  rw [bnd_ok e2]
  have e3 : isL (.b i) st = true := by simp [isL, h0]
  rw [if_pos e3, bnd_ok (aC1 hm)]
  simp [argW, hi, okApp, hl]
def lgS (o : OD) (a1 : Sl) (gs : List (Int × Int)) (ohms : Int) : St := [.o (some 0) o, a1, .o none (.lst (gs.map gD)), .d (.int ohms)]
theorem lg_turn {o : OD} (ok : RowOk o) {a1 : Sl} {gs : List (Int × Int)} {ohms : Int} (p : GP gs ohms) (hl : gs.length ≤ 100) :
    ∃ o' gs' ohms', bo_law_gauges_0 (lgS o a1 gs ohms) = .ok .nx (lgS o' a1 gs' ohms') ∧ RowOk o' ∧ GP gs' ohms' ∧ gs.length ≤ gs'.length ∧ gs'.length ≤ gs.length + 1 ∧ (0 ≤ ohms → 1 ≤ gs'.length) := by
  have t : ∀ {o}, mB (m2 fGe (mV 3) (mC (.int 0))) (lgS o a1 gs ohms) = .ok (decide (0 ≤ ohms)) (lgS o a1 gs ohms) := fun {o} => mBd (geV (a := mV 3) (b := mC (.int 0)) (x := ohms) (y := 0) (mVd rfl) rfl)
  have fin : ∀ {o : OD} (ok : RowOk o) (gs : List (Int × Int)), ∃ (v : Int) (o' : OD), sSet 3 (mFz (m2 fSub (m2 fSub (mV 3) (mC (.int 1))) (mCall 2 fn_law_taken [] (aCons (mV 0) (aCons (mC (.int 4)) (aNil)))))) (lgS o a1 gs ohms) = .ok .nx (lgS o' a1 gs (ohms - 1 - v)) ∧ 0 ≤ v ∧ RowOk o' := fun {o} ok gs => by
    obtain ⟨v, o', e, v0, _, ok'⟩ := taken_ok ok (many := 4) (by decide) (by decide)
    have c := mcallR2 (i := 0) (t := some 0) (m := mC (.int 4)) (st := lgS o a1 gs ohms) (o0 := o) rfl (show mC (.int 4) _ = .ok (.d (.int 4)) _ from rfl) rfl e
    have s : m2 fSub (m2 fSub (mV 3) (mC (.int 1))) (mCall 2 fn_law_taken [] (aCons (mV 0) (aCons (mC (.int 4)) (aNil)))) (lgS o a1 gs ohms) = .ok (.d (.int (ohms - 1 - v))) (lgS o' a1 gs ohms) :=
      (bnd_ok (subV (x := ohms) (y := 1) (mVd rfl) rfl)).trans ((bnd_ok c).trans rfl)
    exact ⟨v, o', setD (i := 3) (s := .d (.int ohms)) (fzd s) rfl rfl, v0, ok'⟩
  by_cases h : 0 ≤ ohms
  · obtain ⟨v, o1, e1, hv, ok1⟩ := tkPk (st := lgS o a1 gs ohms) (a := 5) (b := 100) rfl ok (by decide) (by decide) (by decide)
    have tp : mTup (aCons (mV 3) (aCons (mCall 2 fn_law_taken [] (aCons (mV 0) (aCons (Pk2 5 100) (aNil)))) (aNil))) (lgS o a1 gs ohms) = .ok (.d (gD (ohms, (v : Int)))) (lgS o1 a1 gs ohms) := by
      have q : aCons (mV 3) (aCons (mCall 2 fn_law_taken [] (aCons (mV 0) (aCons (Pk2 5 100) (aNil)))) (aNil)) (lgS o a1 gs ohms) = .ok [.d (.int ohms), .d (.int (v : Nat))] (lgS o1 a1 gs ohms) := (aC2 (mVd rfl) e1).trans rfl
      unfold mTup
      rw [bnd_ok q]
      rfl
    have s1 := app_w (i := 2) (t := none) (acc := gs.map gD) (st := lgS o a1 gs ohms) (st1 := lgS o1 a1 gs ohms) rfl rfl (by rw [List.length_map]; omega) tp
    have s1 : sAppend (mV 2) (aCons (mTup (aCons (mV 3) (aCons (mCall 2 fn_law_taken [] (aCons (mV 0) (aCons (Pk2 5 100) (aNil)))) (aNil)))) (aNil)) (lgS o a1 gs ohms) = .ok .nx (lgS o1 a1 (gs ++ [(ohms, (v : Int))]) ohms) := by
      refine s1.trans ?_
      unfold lgS
      rw [List.map_append]
      rfl
    obtain ⟨u, o2, e2, u0, ok2⟩ := fin ok1 (gs ++ [(ohms, (v : Int))])
    refine ⟨o2, gs ++ [(ohms, (v : Int))], ohms - 1 - u, ?_, ok2, p.add h (by omega) (by omega), by simp, by simp, fun _ => by simp⟩
    unfold bo_law_gauges_0
    refine seq_nx (st1 := lgS o1 a1 (gs ++ [(ohms, (v : Int))]) ohms) ?_ e2
    rw [sIfB t, if_pos (decide_eq_true h)]
    exact s1
  · obtain ⟨u, o2, e2, u0, ok2⟩ := fin ok gs
    refine ⟨o2, gs, ohms - 1 - u, ?_, ok2, p.low (by omega), Nat.le_refl _, by omega, fun z => absurd z h⟩
    unfold bo_law_gauges_0
    refine seq_nx (st1 := lgS o a1 gs ohms) ?_ e2
    rw [sIfB t, if_neg (by simpa using h)]
    rfl
theorem lg_loop : ∀ (its : List Nat) (o : OD) (a1 : Sl) (gs : List (Int × Int)) (ohms : Int), RowOk o → GP gs ohms → gs.length + its.length ≤ 100 → pln a1 →
    ∃ o' b1 gs' ohms', forL (tgN 1) bo_law_gauges_0 (its.map fun k => .one (.int ((k : Nat) : Int))) (lgS o a1 gs ohms) = .ok .nx (lgS o' b1 gs' ohms') ∧ RowOk o' ∧ GP gs' ohms' ∧ gs.length ≤ gs'.length ∧ gs'.length ≤ gs.length + its.length ∧ (0 ≤ ohms → its ≠ [] → 1 ≤ gs'.length)
  | [], o, a1, gs, ohms, ok, p, hl, f1 => ⟨o, a1, gs, ohms, rfl, ok, p, Nat.le_refl _, by simp, fun _ z => absurd rfl z⟩
  | k :: its, o, a1, gs, ohms, ok, p, hl, f1 => by
    simp only [List.length_cons] at hl
    obtain ⟨o1, g1, h1, e1, ok1, p1, l1, l2, l3⟩ := lg_turn (a1 := .d (.int ((k : Nat) : Int))) ok p (by omega)
    obtain ⟨o2, b1, g2, h2, e2, ok2, p2, m1, m2, m3⟩ := lg_loop its o1 (.d (.int ((k : Nat) : Int))) g1 h1 ok1 p1 (by omega) (pln_d _)
    have et : tgN 1 (.one (.int ((k : Nat) : Int))) (lgS o a1 gs ohms) = .ok () (lgS o (.d (.int ((k : Nat) : Int))) gs ohms) := by simp [tgN, setN, lgS, f1.free]
    refine ⟨o2, b1, g2, h2, ?_, ok2, p2, by omega, by simp only [List.length_cons]; omega, fun z _ => by have := l3 z; omega⟩
    rw [List.map_cons]
    unfold forL
    rw [et]
    dsimp only
    rw [bnd_ok e1]
    exact e2
theorem gauges_ok {o : OD} (ok : RowOk o) : ∃ (gs : List (Int × Int)) (o' : OD), fn_law_gauges [.r o] = .ok (.d (gsD gs)) [o'] ∧ GOk gs ∧ RowOk o' := by
  obtain ⟨d, o1, e1, hd, ok1⟩ := pick_ok ok (ds := [.int 4, .int 12, .int 99]) (by simp) (by simp)
  obtain ⟨v, hv, hv2⟩ : ∃ v : Int, d = .int v ∧ (v = 4 ∨ v = 12 ∨ v = 99) := by
    simp only [List.mem_cons, List.not_mem_nil, or_false] at hd
    rcases hd with rfl | rfl | rfl
    · exact ⟨4, rfl, .inl rfl⟩
    · exact ⟨12, rfl, .inr (.inl rfl)⟩
    · exact ⟨99, rfl, .inr (.inr rfl)⟩
  subst hv
  have q1 := mcallR2w (i := 0) (t := some 0) (o0 := o) (st := [.o (some 0) o, .no, .no, .no]) (m := mLst (aCons (mC (.int 4)) (aCons (mC (.int 12)) (aCons (mC (.int 99)) (aNil))))) rfl (show mLst _ _ = .ok (.o (.lst [.int 4, .int 12, .int 99])) _ from rfl) rfl rfl e1
  have s1 : sPar 2 3 (mLst (aNil)) (mCall 2 fn_law_pick [] (aCons (mV 0) (aCons (mLst (aCons (mC (.int 4)) (aCons (mC (.int 12)) (aCons (mC (.int 99)) (aNil))))) (aNil)))) [.o (some 0) o, .no, .no, .no] = .ok .nx (lgS o1 .no [] v) := by
    refine (bnd_ok (show mLst aNil _ = .ok (.o (.lst [])) _ from rfl)).trans ((bnd_ok q1).trans rfl)
  obtain ⟨u, o2, e2, u0, u1, ok2⟩ := taken_ok ok1 (many := 5) (by decide) (by decide)
  obtain ⟨k, rfl⟩ := Int.eq_ofNat_of_zero_le u0
  have q2 := mcallR2 (i := 0) (t := some 0) (m := mC (.int 5)) (st := lgS o1 .no [] v) (o0 := o1) rfl (show mC (.int 5) _ = .ok (.d (.int 5)) _ from rfl) rfl e2
  have q3 := addOne q2
  obtain ⟨o3, b1, gs, ohms, e3, ok3, p3, _, l2, l3⟩ := lg_loop (List.range (1 + k)) o2 .no [] v ok2 ⟨by simp, by simp, by simp, by omega⟩ (by simp; omega) (.inl rfl)
  have s2 : fo_law_gauges_1 (lgS o1 .no [] v) = .ok .nx (lgS o3 b1 gs ohms) := by
    unfold fo_law_gauges_1 sFor
    have hb : b62 (1 + (k : Int)) = true := by unfold b62; rw [decide_eq_true_iff]; omega
    have r : mRng1 (aCons (m2 fAdd (mC (.int 1)) (mCall 2 fn_law_taken [] (aCons (mV 0) (aCons (mC (.int 5)) (aNil))))) (aNil)) (lgS o1 .no [] v) = .ok (.fz ((List.range (1 + k)).map fun j => .one (.int ((j : Nat) : Int)))) (lgS o2 .no [] v) := by
      unfold mRng1
      rw [bnd_ok (aC1 q3)]
      simp only [argW]
      rw [if_pos hb]
      have : (1 + (k : Int)).toNat = 1 + k := by omega
      rw [this]
      simp only [Int.zero_add]
      rfl
    rw [bnd_ok r]
    exact e3
  have s3 : sRet (bnd (aCons (mV 2) (aNil)) fTupOf) (lgS o3 b1 gs ohms) = .ok (.ret (.d (gsD gs))) (lgS o3 b1 gs ohms) := (bnd_ok (tupB (i := 2) (t := none) rfl)).trans rfl
  have q : m_law_gauges [.o (some 0) o, .no, .no, .no] = .ok (.ret (.d (gsD gs))) (lgS o3 b1 gs ohms) := seq_nx s1 (seq_nx s2 s3)
  refine ⟨gs, o3, ?_, ⟨l3 (by omega) (fun z => by
    have := congrArg List.length z
    simp at this), by simp at l2; omega, p3.rg, p3.dec⟩, ok3⟩
  exact (fn_of_m rfl q).trans rfl
end k15
end DP
end
section
set_option Elab.async false
set_option linter.all false
set_option maxRecDepth 100000
set_option maxHeartbeats 1000000
namespace DP
namespace k15
open PySem PySem.Spec PyProof.Rows L2
/-! ### all lots -/
def lotsL (m : Nat) : Nat → List (List Nat)
  | 0 => [[]]
  | i + 1 => (lotsL m i).flatMap fun lot => (List.range m).map fun k => lot ++ [k]
theorem lots_ok {m : Nat} : ∀ {i : Nat} {lot : List Nat}, lot ∈ lotsL m i → lot.length = i ∧ ∀ k ∈ lot, k < m
  | 0, lot, h => by
    have : lot = [] := by simpa [lotsL] using h
    subst this
    exact ⟨rfl, fun k hk => by cases hk⟩
  | i + 1, lot, h => by
    unfold lotsL at h
    obtain ⟨l, hl, h⟩ := List.mem_flatMap.mp h
    obtain ⟨k, hk, rfl⟩ := List.mem_map.mp h
    obtain ⟨a, b⟩ := lots_ok hl
    refine ⟨by rw [List.length_append, a]; rfl, fun j hj => ?_⟩
    rcases List.mem_append.mp hj with hj | hj
    · exact b j hj
    · have : j = k := by simpa using hj
      rw [this]
      exact List.mem_range.mp hk
theorem lots_in {m : Nat} {a : Nat → Nat} : ∀ {i : Nat}, (∀ k, k < i → a k < m) → (List.range i).map a ∈ lotsL m i
  | 0, _ => by simp [lotsL]
  | i + 1, h => by
    unfold lotsL
    rw [List.mem_flatMap]
    refine ⟨(List.range i).map a, lots_in fun k hk => h k (by omega), ?_⟩
    rw [List.mem_map]
    exact ⟨a i, List.mem_range.mpr (h i (by omega)), by rw [List.range_succ, List.map_append]; rfl⟩
theorem lots_len {m : Nat} : ∀ i, (lotsL m i).length = m ^ i
  | 0 => by simp [lotsL]
  | i + 1 => by
    unfold lotsL
    rw [List.length_flatMap]
    have : ∀ ls : List (List Nat), (ls.map fun lot => ((List.range m).map fun k => lot ++ [k]).length).sum = ls.length * m := fun ls => by
      induction ls with
      | nil => simp
      | cons x xs ih =>
        rw [List.map_cons, List.sum_cons, ih, List.length_cons, Nat.succ_mul, List.length_map, List.length_range, Nat.add_comm]
    rw [this, lots_len i, Nat.pow_succ]
def asL (lot : List Nat) : Nat → Nat := fun j => lot.getD j 0
theorem asgD_lot {lot : List Nat} {n : Nat} (h : lot.length = n) : asgD n (asL lot) = nsD lot := by
  unfold asgD nsD asL
  refine List.ext_getElem? fun i => ?_
  by_cases hi : i < n
  · rw [List.getElem?_map, List.getElem?_range hi, List.getElem?_map, List.getElem?_eq_getElem (by omega)]
    simp [List.getD_eq_getElem?_getD, List.getElem?_eq_getElem (show i < lot.length by omega)]
  · rw [List.getElem?_eq_none (by simp; omega), List.getElem?_eq_none (by simp; omega)]
theorem asL_lt {lot : List Nat} {n m : Nat} (h : lot.length = n) (hm : ∀ k ∈ lot, k < m) : ∀ k, k < n → asL lot k < m := fun k hk => by
  unfold asL
  rw [List.getD_eq_getElem?_getD, List.getElem?_eq_getElem (by omega)]
  exact hm _ (List.getElem_mem _)
theorem asL_map {n k : Nat} {a : Nat → Nat} (hk : k < n) : asL ((List.range n).map a) k = a k := by
  unfold asL
  rw [List.getD_eq_getElem?_getD, List.getElem?_map, List.getElem?_range hk]
  rfl
theorem drop_congr {rs : List Row} (g : Good rs) {gs : List (Int × Int)} {a b : Nat → Nat} {k : Nat} (hk : k < rs.length) (h : ∀ j, j < rs.length → a j = b j) : drop rs gs a k = drop rs gs b k := by
  unfold drop
  congr 1
  refine List.map_congr_left fun j hj => ?_
  rw [h j (Nat.lt_of_le_of_lt (mem_pth g hk hj) hk)]
theorem fitB_iff {rs : List Row} {gs : List (Int × Int)} {a : Nat → Nat} {M : Int} : fitB rs gs a M = true ↔ ∀ k, k < rs.length → drop rs gs a k ≤ M := by
  unfold fitB
  rw [List.all_eq_true]
  constructor
  · intro h k hk
    exact of_decide_eq_true (h k (List.mem_range.mpr hk))
  · intro h k hk
    exact decide_eq_true (h k (List.mem_range.mp hk))
def costL (gs : List (Int × Int)) (lot : List Nat) : Int := (lot.map fun i => (gAt gs i).2).sum
theorem costL_S {gs : List (Int × Int)} {lot : List Nat} {n : Nat} (h : lot.length = n) : costL gs lot = S n fun j => (gAt gs (asL lot j)).2 := by
  unfold costL
  rw [← S_eq]
  congr 1
  refine List.ext_getElem? fun i => ?_
  by_cases hi : i < n
  · rw [List.getElem?_map, List.getElem?_map, List.getElem?_range hi, List.getElem?_eq_getElem (by omega)]
    simp [asL, List.getD_eq_getElem?_getD, List.getElem?_eq_getElem (show i < lot.length by omega)]
  · rw [List.getElem?_eq_none (by simp; omega), List.getElem?_eq_none (by simp; omega)]
/-- the least of all lots that fit is the least cost -/
theorem brute {rs : List Row} (g : Good rs) {gs : List (Int × Int)} {L : Nat} : minI (((lotsL gs.length rs.length).filter fun lot => fitB rs gs (asL lot) (L : Int)).map (costL gs)) = leastO rs gs L := by
  have low : ∀ lot ∈ (lotsL gs.length rs.length).filter (fun lot => fitB rs gs (asL lot) (L : Int)), ∃ t, leastO rs gs L = some t ∧ t ≤ costL gs lot := fun lot hlot => by
    obtain ⟨h1, h2⟩ := List.mem_filter.mp hlot
    obtain ⟨h3, h4⟩ := lots_ok h1
    rw [costL_S h3]
    exact least_lower g (asL_lt h3 h4) (fitB_iff.mp h2)
  cases e : leastO rs gs L with
  | none =>
    have : (lotsL gs.length rs.length).filter (fun lot => fitB rs gs (asL lot) (L : Int)) = [] := by
      rw [List.eq_nil_iff_forall_not_mem]
      intro lot hlot
      obtain ⟨t, h, _⟩ := low lot hlot
      rw [e] at h
      cases h
    rw [this]
    rfl
  | some t =>
    refine minI_of ?_ fun y hy => ?_
    · rw [List.mem_map]
      refine ⟨(List.range rs.length).map (nA rs gs L), ?_, ?_⟩
      · rw [List.mem_filter]
        refine ⟨lots_in fun k hk => (pick g hk (all_fit g e k hk)).1, ?_⟩
        rw [fitB_iff]
        intro k hk
        rw [drop_congr g hk (b := nA rs gs L) fun j hj => asL_map hj, drop_A g k hk]
        have := (pick g hk (all_fit g e k hk)).2.1
        omega
      · rw [costL_S (n := rs.length) (by simp), cost_A g e]
        exact S_congr fun k hk => by rw [asL_map hk]
    · obtain ⟨lot, hlot, rfl⟩ := List.mem_map.mp hy
      obtain ⟨t', h, h2⟩ := low lot hlot
      rw [e] at h
      cases h
      exact h2
/-! ### the first limit with which the thinnest fit -/
theorem thin_fit {rs : List Row} (g : Good rs) {gs : List (Int × Int)} {M : Nat} : fitB rs gs (thin gs) (M : Int) = decide (mx (drop rs gs (thin gs)) rs.length ≤ (M : Int)) := by
  rw [Bool.eq_iff_iff, fitB_iff, decide_eq_true_iff, mx_le]
  exact ⟨fun h => ⟨by omega, h⟩, fun h => h.2⟩
theorem first_range {m : Int} (h0 : 0 ≤ m) (N : Nat) : ((List.range N).filter fun M : Nat => decide (m ≤ (M : Int))).head? = if m < N then some m.toNat else none := by
  induction N with
  | zero => rw [if_neg (by omega)]; rfl
  | succ N ih =>
    rw [List.range_succ, List.filter_append, List.head?_append, ih]
    by_cases h : m < N
    · rw [if_pos h, if_pos (by omega)]; rfl
    · rw [if_neg h]
      by_cases h2 : m < (N + 1 : Nat)
      · have : m.toNat = N := by omega
        rw [if_pos h2, this]
        have h3 : m ≤ (N : Int) := by omega
        simp [h3]
      · rw [if_neg h2]
        have h3 : ¬ m ≤ (N : Int) := by omega
        simp [h3]
/-! ### a part of the rows -/
theorem Good.take {rs : List Row} (g : Good rs) {m : Nat} (hm : 1 ≤ m) : Good (rs.take m) where
  l1 := by have := g.l1; rw [List.length_take]; omega
  l10 := by have := g.l10; rw [List.length_take]; omega
  nd := by
    have : nms_ (rs.take m) = (nms_ rs).take m := by unfold nms_; rw [List.map_take]
    rw [this]
    exact g.nd.sublist (List.take_sublist _ _)
  nm := fun r hr => g.nm r (List.mem_of_mem_take hr)
  up := fun i r h => by
    have hi := (List.getElem?_eq_some_iff.mp h).1
    rw [List.length_take] at hi
    rw [List.getElem?_take, if_pos (by omega)] at h
    rcases g.up i r h with e | ⟨j, hj, q, e1, e2⟩
    · exact .inl e
    · exact .inr ⟨j, hj, q, by rw [List.getElem?_take, if_pos (by omega)]; exact e1, e2⟩
  rg := fun r hr => g.rg r (List.mem_of_mem_take hr)
theorem cut_all {α : Type} {xs : List α} {m : Nat} : cutG xs none (some (m : Int)) = xs.take m := by
  by_cases h : m ≤ xs.length
  · exact cut_take h
  · unfold cutG
    have e1 : HT.sIx xs.length 0 none = 0 := rfl
    have e2 : HT.sIx xs.length xs.length (some (m : Int)) = xs.length := by
      rw [HT.sIx_nat]
      omega
    rw [e1, e2]
    simp
    rw [List.take_of_length_le (by omega)]
end k15
end DP
end
section
set_option Elab.async false
set_option linter.all false
set_option maxRecDepth 100000
set_option maxHeartbeats 1000000
namespace DP
namespace k15
open PySem PySem.Spec PyProof.Rows L2
/-- how the law stands behind its draws -/
structure LB (h : Har) (gs : List (Int × Int)) (L : Nat) (o : OD) (st : St) : Prop where
  s1 : st[1]? = some (.o none o)
  s9 : st[9]? = some (.d (gsD gs))
  s10 : st[10]? = some (.d (rowsD h.rows))
  s11 : st[11]? = some (.d (.int (L : Nat)))
  s12 : st[12]? = some (.d h.d)
  s13 : st[13]? = some (.d (tabsD h.rows gs L))
  f : ∀ i, 2 ≤ i → i < 22 → i ≠ 19 → fre st i
  s19 : ∃ s, st[19]? = some s ∧ freeS s = true
def okI (i : Nat) : Prop := 2 ≤ i ∧ i < 22 ∧ i ≠ 9 ∧ i ≠ 10 ∧ i ≠ 11 ∧ i ≠ 12 ∧ i ≠ 13 ∧ i ≠ 19
instance (i : Nat) : Decidable (okI i) := by unfold okI; infer_instance
theorem LB.set {h : Har} {gs : List (Int × Int)} {L : Nat} {o : OD} {st : St} {i : Nat} {x : D} (v : LB h gs L o st) (hi : okI i) : LB h gs L o (st.set i (.d x)) := by
  obtain ⟨a, b, c, d, e, f, g, k⟩ := hi
  exact {
    s1 := by rw [List.getElem?_set_ne (by omega), v.s1]
    s9 := by rw [List.getElem?_set_ne (by omega), v.s9]
    s10 := by rw [List.getElem?_set_ne (by omega), v.s10]
    s11 := by rw [List.getElem?_set_ne (by omega), v.s11]
    s12 := by rw [List.getElem?_set_ne (by omega), v.s12]
    s13 := by rw [List.getElem?_set_ne (by omega), v.s13]
    f := fun j h1 h2 h3 => (v.f j h1 h2 h3).set
    s19 := by
      obtain ⟨s, h1, h2⟩ := v.s19
      exact ⟨s, by rw [List.getElem?_set_ne (by omega), h1], h2⟩ }
theorem LB.at {h : Har} {gs : List (Int × Int)} {L : Nat} {o : OD} {st : St} {i : Nat} {x : D} (v : LB h gs L o st) (hi : okI i) : (st.set i (.d x))[i]? = some (.d x) := by
  obtain ⟨s, h1, _⟩ := v.f i hi.1 hi.2.1 hi.2.2.2.2.2.2.2
  exact List.getElem?_set_self (List.getElem?_eq_some_iff.mp h1).1
theorem LB.setD {h : Har} {gs : List (Int × Int)} {L : Nat} {o : OD} {st : St} {i : Nat} {x : D} {m : M W} (v : LB h gs L o st) (hi : okI i) (hm : m st = .ok (.d x) st) : sSet i m st = .ok .nx (st.set i (.d x)) := by
  obtain ⟨s, h3, h4⟩ := (v.f i hi.1 hi.2.1 hi.2.2.2.2.2.2.2).free
  exact DP.k15.setD hm h3 h4
/-- the ends at the source -/
theorem ends_v {h : Har} (g : Good h.rows) {gs : List (Int × Int)} {L : Nat} {o : OD} {st : St} (v : LB h gs L o st) : lc_law_0 st = .ok (.o (.lst (((kidsL h.rows none).map fun j => E h.rows gs j (L : Int)).map optD))) st := by
  obtain ⟨s, f1, f2⟩ := v.f 18 (by decide) (by decide) (by decide)
  have hlt : 18 < st.length := (List.getElem?_eq_some_iff.mp f1).1
  have ek := e_law_kids g (k := none) trivial
  have src : mSeq (mCall 2 fn_law_kids [] (aCons (mV 10) (aCons (mNeg (mC (.int 1))) (aNil)))) st = .ok (.fz ((kidsL h.rows none).map fun j => .one (.int (j : Nat)))) st := by
    rw [srcO (mcall2 (mVd v.s10) (show mNeg (mC (.int 1)) st = .ok (.d (.int (-1))) st from rfl) ek)]
    unfold natsD
    rw [List.map_map]
    rfl
  rw [List.map_map]
  refine lcT (f := fun j => .int (j : Nat)) src f1 f2 (fun j hj => ⟨.d (optD (E h.rows gs j (L : Int))), tabs_at (kids_lt j hj) (Nat.le_refl L) (by rw [List.getElem?_set_ne (by decide), v.s13]) (List.getElem?_set_self hlt) (by rw [List.getElem?_set_ne (by decide), v.s11]), rfl⟩) (by have := kids_len g (k := none); omega)
/-- their sum, or None -/
theorem least_v {os : List (Option Int)} {st : St} (h3 : st[3]? = some (.d (.lst (os.map optD)))) : mIf (mB (m2 fIn (mC .non) (mV 3))) (mC .non) (bnd (aCons (mV 3) (aNil)) (rd1 gSum)) st = .ok (.d (optD (sumO os))) st := by
  have t : mB (m2 fIn (mC .non) (mV 3)) st = .ok (os.any Option.isNone) st := by
    refine mBd ((bnd_ok (show mC .non st = .ok (.d .non) st from rfl)).trans ((bnd_ok (mVd h3)).trans ?_))
    simp [rd2, rd, gIn, non_in]
  rw [mIfB t]
  cases ha : os.any Option.isNone with
  | true =>
    have : sumO os = none := by unfold sumO; rw [ha]; rfl
    rw [this]; rfl
  | false =>
    have : sumO os = some (os.map fun o => o.getD 0).sum := by unfold sumO; rw [ha]; rfl
    rw [this, if_neg Bool.false_ne_true, bnd_ok (aC1 (mVd h3))]
    simp [argW, rd1, rd, gSum, asInts_opt ha, optD]
theorem alk_opt (o : Option Int) (n : Nat) : alk (n + 1) (optD o) := by
  cases o <;> trivial
theorem alk_tabs {rs : List Row} (g : Good rs) {gs : List (Int × Int)} {L : Nat} (hL : L ≤ 300) (n : Nat) : alk (n + 3) (tabsD rs gs L) := by
  have h10 := g.l10
  refine ⟨by unfold tabL; rw [List.length_map, List.length_range]; omega, fun x hx => ?_⟩
  rw [tab0] at hx
  obtain ⟨j, _, rfl⟩ := List.mem_map.mp hx
  refine ⟨by unfold rowT; rw [List.length_map, List.length_range]; omega, fun y hy => ?_⟩
  unfold rowT at hy
  obtain ⟨l, _, rfl⟩ := List.mem_map.mp hy
  exact alk_opt _ n
theorem orB {a b : M Bool} {st : St} (ha : a st = .ok false st) (hb : b st = .ok false st) : mOr a b st = .ok false st := by
  rw [show mOr a b = mIf a (ret true) b from rfl, mIfB ha]
  exact hb
theorem ifN {t : M Bool} {a : M Fl} {st : St} (h : t st = .ok false st) : sIf t a (sNx) st = .ok .nx st := by
  rw [sIfB h]; rfl
/-- told and due of one kind are alike -/
theorem alikeN {a b : M W} {x : D} {st : St} (ha : a st = .ok (.d x) st) (hb : b st = .ok (.d x) st) (hx : alk 5 x) : mNot (mB (mCall 2 (fn_law_alike 5) [] (aCons a (aCons b (aNil))))) st = .ok false st := notT (mcall2 ha hb (e_alike 5 x hx))
theorem ne_same {a b : M W} {x : D} {st : St} (ha : a st = .ok (.d x) st) (hb : b st = .ok (.d x) st) (e : eqD x x = some true) : mB (m2 fNe a b) st = .ok false st := neN ha hb e
theorem eq_opt (o : Option Int) : eqD (optD o) (optD o) = some true := by
  cases o with
  | none => exact eqD_non
  | some v => show eqD (.int v) (.int v) = _; rw [eqD_int]; simp
theorem alk_two {x y : D} {n : Nat} (hx : alk n x) (hy : alk n y) : alk (n + 1) (.tup [x, y]) := by
  refine ⟨by simp, fun z hz => ?_⟩
  simp only [List.mem_cons, List.not_mem_nil, or_false] at hz
  rcases hz with rfl | rfl
  · exact hx
  · exact hy
def foundD (rs : List Row) (gs : List (Int × Int)) (L : Nat) : D := match leastO rs gs L with
  | none => .non
  | some _ => .tup (numsD rs gs L rs.length)
theorem isN_found {rs : List Row} {gs : List (Int × Int)} {L i : Nat} {st : St} {ng : Bool} (h : st[i]? = some (.d (foundD rs gs L))) : mNone ng (mV i) st = .ok (.d (.bl ((leastO rs gs L).isNone != ng))) st := by
  unfold mNone
  rw [bnd_ok (mVd h)]
  unfold foundD
  cases leastO rs gs L <;> rfl
/-- the first test -/
theorem test1 {h : Har} (g : Good h.rows) {gs : List (Int × Int)} (gg : GOk gs) {L : Nat} (hL : L ≤ 300) {o : OD} {st : St} (v : LB h gs L o st) (h4 : st[4]? = some (.d (optD (leastO h.rows gs L)))) (h5 : st[5]? = some (.d (foundD h.rows gs L))) :
    sIf (mOr (mNot (mB (mCall 2 (fn_law_alike 5) [] (aCons (mTup (aCons (mCall 3 fn_least_cost [] (aCons (mV 12) (aCons (mV 9) (aCons (mV 11) (aNil))))) (aCons (mCall 3 fn_tables [] (aCons (mV 12) (aCons (mV 9) (aCons (mV 11) (aNil))))) (aNil)))) (aCons (mTup (aCons (mV 4) (aCons (mV 13) (aNil)))) (aNil)))))) (mB (m2 fNe (mNone false (mV 5)) (mNone false (mV 4))))) (sRet (mC (.bl false))) (sNx) st = .ok .nx st := by
  refine ifN (orB (alikeN (tup2 (mcall3 (mVd v.s12) (mVd v.s9) (mVd v.s11) (e_least_cost g gg hL)) (mcall3 (mVd v.s12) (mVd v.s9) (mVd v.s11) (e_tables g gg hL))) (tup2 (mVd h4) (mVd v.s13)) (alk_two (alk_opt _ 3) (alk_tabs g hL 1))) (ne_same (x := .bl (leastO h.rows gs L).isNone) ?_ (optD_isN _ h4) (by rw [eqD_bl]; simp)))
  have := isN_found (ng := false) h5
  simpa using this
end k15
end DP
end
section
set_option Elab.async false
set_option linter.all false
set_option maxRecDepth 100000
set_option maxHeartbeats 1000000
namespace DP
namespace k15
open PySem PySem.Spec PyProof.Rows L2
theorem foundT {rs : List Row} {gs : List (Int × Int)} {L : Nat} {t : Int} (h : leastO rs gs L = some t) : foundD rs gs L = .tup (numsD rs gs L rs.length) := by unfold foundD; rw [h]
theorem isT_v {i : Nat} {ds : List D} {st : St} (h : st[i]? = some (.d (.tup ds))) : bnd (aCons (mV i) (aCons (mC (.ty "tuple")) (aNil))) (rdL2 gIsi) st = .ok (.d (.bl true)) st := by
  have e : gIsi (.tup ds) (.ty "tuple") = some (.bl (tyM "tuple" "tuple")) := isi_ty rfl (by decide)
  exact isi2 i h e
/-- no gauge is told that is not there -/
theorem none_out {h : Har} (g : Good h.rows) {gs : List (Int × Int)} {L : Nat} {o : OD} {st : St} {t : Int} (v : LB h gs L o st) (hl : leastO h.rows gs L = some t) (h5 : st[5]? = some (.d (foundD h.rows gs L))) : lc_law_1 st = .ok (.o (.lst [])) st := by
  have h10 := g.l10
  rw [foundT hl] at h5
  obtain ⟨s, f1, f2⟩ := v.f 16 (by decide) (by decide) (by decide)
  have hlt : 16 < st.length := (List.getElem?_eq_some_iff.mp f1).1
  have q := lcS (i := 16) (ks := List.range h.rows.length) (f := fun k => .int (nA h.rows gs L k : Nat)) (st := st) (ms := mSeq (mV 5)) (test := mNot (mB (mCh fLe fLt (mC (.int 0)) (mV 16) (bnd (aCons (mV 9) (aNil)) (rd1 gLen))))) (el := mV 16) (pr := fun _ => false) (dd := fun _ => .non) (by rw [srcT (mVd h5)]; unfold numsD; rw [List.map_map]; rfl) f1 f2 (fun k hk => by
    rw [List.mem_range] at hk
    obtain ⟨p1, _⟩ := pick g hk (all_fit g hl k hk)
    have m9 : mV 16 (st.set 16 (.d (.int (nA h.rows gs L k : Nat)))) = .ok (.d (.int (nA h.rows gs L k : Nat))) (st.set 16 (.d (.int (nA h.rows gs L k : Nat)))) := mVd (List.getElem?_set_self hlt)
    have m1 : bnd (aCons (mV 9) (aNil)) (rd1 gLen) (st.set 16 (.d (.int (nA h.rows gs L k : Nat)))) = .ok (.d (.int (gs.length : Nat))) (st.set 16 (.d (.int (nA h.rows gs L k : Nat)))) := by
      have := lenT (m := mV 9) (st := st.set 16 (.d (.int (nA h.rows gs L k : Nat)))) (ds := gs.map gD) (mVd (by rw [List.getElem?_set_ne (by decide), v.s9]; rfl))
      rw [List.length_map] at this
      exact this
    refine notT ?_
    refine (bnd_ok (show mC (.int 0) _ = .ok (.d (.int 0)) _ from rfl)).trans ((bnd_ok m9).trans ?_)
    have a1 : fLe (.d (.int 0)) (.d (.int (nA h.rows gs L k : Nat))) (st.set 16 (.d (.int (nA h.rows gs L k : Nat)))) = .ok (.d (.bl true)) (st.set 16 (.d (.int (nA h.rows gs L k : Nat)))) := by
      simp [rd2, rd, gI]
    refine (bnd_ok a1).trans ?_
    simp only [rd]
    rw [bnd_ok m1]
    simp [rd2, rd, gI, p1]) (fun k _ z => by cases z) (by simp; omega)
  rw [List.filter_eq_nil_iff.mpr (by simp)] at q
  exact q
theorem cost_v {h : Har} (g : Good h.rows) {gs : List (Int × Int)} {L : Nat} {o : OD} {st : St} {t : Int} (v : LB h gs L o st) (hl : leastO h.rows gs L = some t) (h5 : st[5]? = some (.d (foundD h.rows gs L))) : bnd (aCons (lc_law_2) (aNil)) (rd1 gSum) st = .ok (.d (.int t)) st := by
  have h10 := g.l10
  rw [foundT hl] at h5
  obtain ⟨s, f1, f2⟩ := v.f 16 (by decide) (by decide) (by decide)
  have hlt : 16 < st.length := (List.getElem?_eq_some_iff.mp f1).1
  have q : lc_law_2 st = .ok (.o (.lst (((List.range h.rows.length).map fun k => (gAt gs (nA h.rows gs L k)).2).map .int))) st := by
    rw [List.map_map]
    refine lcT (i := 16) (ks := List.range h.rows.length) (f := fun k => .int (nA h.rows gs L k : Nat)) (by rw [srcT (mVd h5)]; unfold numsD; rw [List.map_map]; rfl) f1 f2 (fun k hk => ?_) (by simp; omega)
    rw [List.mem_range] at hk
    obtain ⟨p1, _⟩ := pick g hk (all_fit g hl k hk)
    exact ⟨_, ixC (X := gD (gAt gs (nA h.rows gs L k))) (.inl rfl) (ixV (X := gsD gs) (.inl rfl) (by rw [List.getElem?_set_ne (by decide), v.s9]) (List.getElem?_set_self hlt) (gs_at p1)) at_1, rfl⟩
  rw [bnd_ok (aC1 q)]
  simp only [argW, fz]
  unfold rd1
  simp only [rd, gSum, asInts_map]
  rw [cost_A g hl, ← S_eq]
  rfl
theorem nums_asg {rs : List Row} {gs : List (Int × Int)} {L : Nat} : numsD rs gs L rs.length = asgD rs.length (nA rs gs L) := rfl
theorem fits_A {rs : List Row} (g : Good rs) {gs : List (Int × Int)} {L : Nat} {t : Int} (h : leastO rs gs L = some t) : fitB rs gs (nA rs gs L) (L : Int) = true := by
  rw [fitB_iff]
  intro k hk
  rw [drop_A g k hk]
  have := (pick g hk (all_fit g h k hk)).2.1
  omega
theorem len10 {h : Har} {gs : List (Int × Int)} {L : Nat} {o : OD} {st : St} (v : LB h gs L o st) : bnd (aCons (mV 10) (aNil)) (rd1 gLen) st = .ok (.d (.int (h.rows.length : Nat))) st := by
  have := lenT (m := mV 10) (st := st) (ds := h.rows.map rowD) (mVd v.s10)
  rw [List.length_map] at this
  exact this
theorem trues : eqD (.tup [.bl true, .bl true, .bl true]) (.tup [.bl true, .bl true, .bl true]) = some true := by
  simp [eqD, toP, toPs, SeqAt.shaped, PyData.canLay0, PyData.canLayAll0, PyData.depth, PyData.depthAll, PyData.eqv, PyData.eqvAll]
/-- what is told of the cheapest -/
theorem found_v {h : Har} (g : Good h.rows) {gs : List (Int × Int)} (gg : GOk gs) {L : Nat} (hL : L ≤ 300) {o : OD} {st : St} (v : LB h gs L o st) (h4 : st[4]? = some (.d (optD (leastO h.rows gs L)))) (h5 : st[5]? = some (.d (foundD h.rows gs L))) :
    ∃ st', sIf (mB (mNone true (mV 5))) (sSeq (sIf (mOr (mNot (mB (bnd (aCons (mV 5) (aCons (mC (.ty "tuple")) (aNil))) (rdL2 gIsi)))) (mOr (mB (m2 fNe (bnd (aCons (mV 5) (aNil)) (rd1 gLen)) (bnd (aCons (mV 10) (aNil)) (rd1 gLen)))) (mOr (mB (m2 fNe (lc_law_1) (mLst (aNil)))) (mNot (mB (mCall 4 fn_law_fits [] (aCons (mV 10) (aCons (mV 9) (aCons (mV 11) (aCons (mV 5) (aNil))))))))))) (sRet (mC (.bl false))) (sNx)) (sSeq (sIf (mOr (mB (m2 fNe (bnd (aCons (lc_law_2) (aNil)) (rd1 gSum)) (mV 4))) (mNot (mB (mCall 2 (fn_law_alike 5) [] (aCons (mCall 2 fn_cost_of [] (aCons (mV 9) (aCons (mV 5) (aNil)))) (aCons (mV 4) (aNil))))))) (sRet (mC (.bl false))) (sNx)) (sSeq (sSet 14 (mTup (aCons (mCall 4 fn_are_gauges [] (aCons (mV 12) (aCons (mV 9) (aCons (mV 11) (aCons (mV 5) (aNil)))))) (aCons (mCall 4 fn_are_lower [] (aCons (mV 12) (aCons (mV 9) (aCons (mV 11) (aCons (mV 13) (aNil)))))) (aCons (mCall 5 fn_shows_cheapest [] (aCons (mV 12) (aCons (mV 9) (aCons (mV 11) (aCons (mV 5) (aCons (mV 13) (aNil))))))) (aNil)))))) (sIf (mB (m2 fNe (mV 14) (mTup (aCons (mC (.bl true)) (aCons (mC (.bl true)) (aCons (mC (.bl true)) (aNil))))))) (sRet (mC (.bl false))) (sNx))))) (sNx) st = .ok .nx st' ∧ LB h gs L o st' ∧ st'[4]? = some (.d (optD (leastO h.rows gs L))) := by
  have t0 : mB (mNone true (mV 5)) st = .ok ((leastO h.rows gs L).isNone != true) st := mBd (isN_found (ng := true) h5)
  cases hl : leastO h.rows gs L with
  | none =>
    rw [hl] at t0 h4
    exact ⟨st, by rw [sIfB t0]; rfl, v, h4⟩
  | some t =>
    rw [hl] at t0 h4
    have h5' := h5
    rw [foundT hl] at h5'
    have len5 : bnd (aCons (mV 5) (aNil)) (rd1 gLen) st = .ok (.d (.int (h.rows.length : Nat))) st := by
      have := lenT (m := mV 5) (st := st) (mVd h5')
      rw [show (numsD h.rows gs L h.rows.length).length = h.rows.length by unfold numsD; simp] at this
      exact this
    have ft : mCall 4 fn_law_fits [] (aCons (mV 10) (aCons (mV 9) (aCons (mV 11) (aCons (mV 5) (aNil))))) st = .ok (.d (.bl true)) st := by
      have f := e_law_fits g gg (M := (L : Int)) (a := nA h.rows gs L) (fun k hk => (pick g hk (all_fit g hl k hk)).1)
      rw [fits_A g hl] at f
      exact mcall4 (mVd v.s10) (mVd v.s9) (mVd v.s11) (mVd h5') f
    have ne1 : mB (m2 fNe (lc_law_1) (mLst (aNil))) st = .ok false st := mBd ((bnd_ok (none_out g v hl h5)).trans rfl)
    have e1 := orB (notT (isT_v h5')) (orB (ne_same (x := .int (h.rows.length : Nat)) len5 (len10 v) (by rw [eqD_int]; simp)) (orB ne1 (notT ft)))
    have e2 := orB (ne_same (x := .int t) (cost_v g v hl h5) (mVd h4) (by rw [eqD_int]; simp)) (alikeN (x := .int t) (mcall2 (mVd v.s9) (mVd h5') (cost_nums g hl)) (mVd h4) trivial)
    have e3 := v.setD (i := 14) (by decide) (tup3v (mcall4 (mVd v.s12) (mVd v.s9) (mVd v.s11) (mVd h5') (e_are_gauges g gg hL hl)) (mcall4 (mVd v.s12) (mVd v.s9) (mVd v.s11) (mVd v.s13) (e_are_lower g gg hL)) (mcall5 (mVd v.s12) (mVd v.s9) (mVd v.s11) (mVd h5') (mVd v.s13) (e_shows g gg hL hl)))
    have v2 := v.set (i := 14) (x := .tup [.bl true, .bl true, .bl true]) (by decide)
    have q14 := v.at (i := 14) (x := .tup [.bl true, .bl true, .bl true]) (by decide)
    have e4 := ifN (a := sRet (mC (.bl false))) (ne_same (a := mV 14) (b := mTup (aCons (mC (.bl true)) (aCons (mC (.bl true)) (aCons (mC (.bl true)) (aNil))))) (mVd q14) rfl trues)
    refine ⟨st.set 14 (.d (.tup [.bl true, .bl true, .bl true])), ?_, v2, by rw [List.getElem?_set_ne (by decide), h4]⟩
    rw [sIfB t0]
    exact seq_nx (ifN e1) (seq_nx (ifN e2) (seq_nx e3 e4))
end k15
end DP
end
section
set_option Elab.async false
set_option linter.all false
set_option maxRecDepth 100000
set_option maxHeartbeats 1000000
namespace DP
namespace k15
open PySem PySem.Spec PyProof.Rows L2
/-! ### all lots, tried -/
theorem LB.set19 {h : Har} {gs : List (Int × Int)} {L : Nat} {o : OD} {st : St} {x : Sl} (v : LB h gs L o st) (hx : freeS x = true) : LB h gs L o (st.set 19 x) where
  s1 := by rw [List.getElem?_set_ne (by decide), v.s1]
  s9 := by rw [List.getElem?_set_ne (by decide), v.s9]
  s10 := by rw [List.getElem?_set_ne (by decide), v.s10]
  s11 := by rw [List.getElem?_set_ne (by decide), v.s11]
  s12 := by rw [List.getElem?_set_ne (by decide), v.s12]
  s13 := by rw [List.getElem?_set_ne (by decide), v.s13]
  f := fun j h1 h2 h3 => by
    obtain ⟨s, g1, g2⟩ := v.f j h1 h2 h3
    exact ⟨s, by rw [List.getElem?_set_ne (Ne.symm h3), g1], g2⟩
  s19 := by
    obtain ⟨s, h1, _⟩ := v.s19
    exact ⟨x, List.getElem?_set_self (List.getElem?_eq_some_iff.mp h1).1, hx⟩
def lotD (lot : List Nat) : D := .tup (nsD lot)
theorem len9 {h : Har} {gs : List (Int × Int)} {L : Nat} {o : OD} {st : St} (v : LB h gs L o st) : bnd (aCons (mV 9) (aNil)) (rd1 gLen) st = .ok (.d (.int (gs.length : Nat))) st := by
  have := lenT (m := mV 9) (st := st) (ds := gs.map gD) (mVd v.s9)
  rw [List.length_map] at this
  exact this
theorem longer_v {h : Har} {gs : List (Int × Int)} (gg : GOk gs) {L : Nat} {o : OD} {st : St} {lot : List Nat} (v : LB h gs L o st) (h20 : st[20]? = some (.d (lotD lot))) (hl : lot.length ≤ 100) : lc_law_3 st = .ok (.o (.lst (((List.range gs.length).map fun k => lot ++ [k]).map lotD))) st := by
  have l5 := gg.l5
  obtain ⟨s, f1, f2⟩ := v.f 18 (by decide) (by decide) (by decide)
  have hlt : 18 < st.length := (List.getElem?_eq_some_iff.mp f1).1
  rw [List.map_map]
  refine lcT (i := 18) (f := fun k => .int ((k : Nat) : Int)) (rngN (len9 v) (by omega)) f1 f2 (fun k hk => ⟨.d (lotD (lot ++ [k])), ?_, rfl⟩) (by simp; omega)
  have m20 : mV 20 (st.set 18 (.d (.int ((k : Nat) : Int)))) = .ok (.d (lotD lot)) (st.set 18 (.d (.int ((k : Nat) : Int)))) := mVd (by rw [List.getElem?_set_ne (by decide), h20])
  have m18 : mTup (aCons (mV 18) (aNil)) (st.set 18 (.d (.int ((k : Nat) : Int)))) = .ok (.d (.tup [.int (k : Nat)])) (st.set 18 (.d (.int ((k : Nat) : Int)))) := by
    unfold mTup
    rw [bnd_ok (aC1 (mVd (List.getElem?_set_self hlt)))]
    rfl
  have z : (nsD lot).length + 1 ≤ sizeLine := leSz (by unfold nsD; rw [List.length_map]; omega)
  refine (bnd_ok m20).trans ((bnd_ok m18).trans ?_)
  simp [fAdd, rd, lotD, z, nsD]
  exact leSz (by omega)
theorem lots_loop {h : Har} {gs : List (Int × Int)} (gg : GOk gs) {L : Nat} {o : OD} : ∀ (ls : List (List Nat)) (acc : List (List Nat)) (st : St), LB h gs L o st → st[19]? = some (.o none (.lst (acc.map lotD))) → (∀ lot ∈ ls, lot.length ≤ 100) → acc.length + ls.length * 5 ≤ 100000 →
    ∃ st', forL (tgN 20) bo_law_4 (ls.map fun lot => .one (lotD lot)) st = .ok .nx st' ∧ LB h gs L o st' ∧ st'[19]? = some (.o none (.lst ((acc ++ ls.flatMap fun lot => (List.range gs.length).map fun k => lot ++ [k]).map lotD))) ∧ ∀ i, i ≠ 19 → i ≠ 20 → st'[i]? = st[i]?
  | [], acc, st, v, h19, _, _ => ⟨st, rfl, v, by simpa using h19, fun _ _ _ => rfl⟩
  | lot :: ls, acc, st, v, h19, hl, hn => by
    have l5 := gg.l5
    simp only [List.length_cons] at hn
    obtain ⟨s, f1, f2⟩ := (v.f 20 (by decide) (by decide) (by decide)).free
    have et : tgN 20 (.one (lotD lot)) st = .ok () (st.set 20 (.d (lotD lot))) := by simp [tgN, setN, f1, f2]
    have v1 := v.set (i := 20) (x := lotD lot) (by decide)
    have q20 := v.at (i := 20) (x := lotD lot) (by decide)
    have e := longer_v gg v1 q20 (hl lot List.mem_cons_self)
    have k19 : (st.set 20 (.d (lotD lot)))[19]? = some (.o none (.lst (acc.map lotD))) := by rw [List.getElem?_set_ne (by decide), h19]
    have e2 := ext2 (i := 19) k19 (by simp; omega) e
    rw [← List.map_append] at e2
    have e2 : bo_law_4 (st.set 20 (.d (lotD lot))) = .ok .nx ((st.set 20 (.d (lotD lot))).set 19 (.o none (.lst ((acc ++ (List.range gs.length).map fun k => lot ++ [k]).map lotD)))) := e2
    have v2 := v1.set19 (x := .o none (.lst ((acc ++ (List.range gs.length).map fun k => lot ++ [k]).map lotD))) rfl
    obtain ⟨st', e3, v3, q3, k3⟩ := lots_loop gg ls (acc ++ (List.range gs.length).map fun k => lot ++ [k]) _ v2 (List.getElem?_set_self (List.getElem?_eq_some_iff.mp k19).1) (fun x hx => hl x (List.mem_cons_of_mem _ hx)) (by simp; omega)
    refine ⟨st', ?_, v3, ?_, fun i h1 h2 => by rw [k3 i h1 h2, List.getElem?_set_ne (Ne.symm h1), List.getElem?_set_ne (Ne.symm h2)]⟩
    · rw [List.map_cons]
      unfold forL
      rw [et]
      dsimp only
      rw [bnd_ok e2]
      exact e3
    · rw [q3, List.flatMap_cons, List.append_assoc]
theorem lots_row {h : Har} {gs : List (Int × Int)} (gg : GOk gs) {L i : Nat} {o : OD} {st : St} (hi : i ≤ 4) (v : LB h gs L o st) (h15 : st[15]? = some (.d (.lst ((lotsL gs.length i).map lotD)))) :
    ∃ st', bo_law_6 st = .ok .nx st' ∧ LB h gs L o st' ∧ st'[15]? = some (.d (.lst ((lotsL gs.length (i + 1)).map lotD))) ∧ st'[4]? = st[4]? := by
  have l5 := gg.l5
  obtain ⟨s, f1, f2⟩ := v.s19
  have s1 := setO (i := 19) (show mLst aNil st = .ok (.o (.lst [])) st from rfl) f1 f2
  have v1 := v.set19 (x := .o none (.lst [])) rfl
  have hlt : 19 < st.length := (List.getElem?_eq_some_iff.mp f1).1
  have k19 : (st.set 19 (.o none (.lst [])))[19]? = some (.o none (.lst (([] : List (List Nat)).map lotD))) := List.getElem?_set_self hlt
  have k15 : (st.set 19 (.o none (.lst [])))[15]? = some (.d (.lst ((lotsL gs.length i).map lotD))) := by rw [List.getElem?_set_ne (by decide), h15]
  have hlen : (lotsL gs.length i).length ≤ 625 := by
    rw [lots_len]
    calc gs.length ^ i ≤ 5 ^ i := Nat.pow_le_pow_left l5 i
      _ ≤ 5 ^ 4 := Nat.pow_le_pow_right (by decide) hi
  obtain ⟨st2, e2, v2, q19, k2⟩ := lots_loop gg (lotsL gs.length i) [] _ v1 k19 (fun lot hlot => by rw [(lots_ok hlot).1]; omega) (by simp; omega)
  have s2 : fo_law_5 (st.set 19 (.o none (.lst []))) = .ok .nx st2 := by
    unfold fo_law_5 sFor
    rw [bnd_ok (srcD (mVd k15)), List.map_map]
    exact e2
  rw [List.nil_append] at q19
  have e3 : mFz (mV 19) st2 = .ok (.d (.lst ((lotsL gs.length (i + 1)).map lotD))) (st2.set 19 (.d (.lst ((lotsL gs.length (i + 1)).map lotD)))) := by
    have em : mV 19 st2 = .ok (.b 19) st2 := by unfold mV; rw [q19]
    unfold mFz
    rw [bnd_ok em]
    simp only [q19, fz]
    rfl
  have v3 := v2.set19 (x := .d (.lst ((lotsL gs.length (i + 1)).map lotD))) rfl
  obtain ⟨s15, g1, g2⟩ := (v3.f 15 (by decide) (by decide) (by decide)).free
  have s3 := DP.k15.setD (i := 15) e3 g1 g2
  refine ⟨(st2.set 19 (.d (.lst ((lotsL gs.length (i + 1)).map lotD)))).set 15 (.d (.lst ((lotsL gs.length (i + 1)).map lotD))), seq_nx s1 (seq_nx s2 s3), v3.set (by decide), v3.at (by decide), ?_⟩
  rw [List.getElem?_set_ne (by decide), List.getElem?_set_ne (by decide), k2 4 (by decide) (by decide), List.getElem?_set_ne (by decide)]
theorem lots_rows {h : Har} (g : Good h.rows) {gs : List (Int × Int)} (gg : GOk gs) {L : Nat} {o : OD} {st : St} (hn : h.rows.length ≤ 4) (v : LB h gs L o st) (h15 : st[15]? = some (.d (.lst ((lotsL gs.length 0).map lotD)))) :
    ∃ st', fo_law_7 st = .ok .nx st' ∧ LB h gs L o st' ∧ st'[15]? = some (.d (.lst ((lotsL gs.length h.rows.length).map lotD))) ∧ st'[4]? = st[4]? := by
  obtain ⟨s', e, q⟩ := forL_all (t := tgN 16) (b := bo_law_6) (fun i s => LB h gs L o s ∧ (i ≤ h.rows.length → s[15]? = some (.d (.lst ((lotsL gs.length i).map lotD)))) ∧ s[4]? = st[4]?) (its := (h.rows.map rowD).map .one) (i := 0) (st := st) ⟨v, fun _ => h15, rfl⟩ (fun j it s hit w => by
    obtain ⟨w1, w2, w3⟩ := w
    have hj : j < h.rows.length := by
      have := (List.getElem?_eq_some_iff.mp hit).1
      simpa using this
    rw [List.getElem?_map, List.getElem?_map] at hit
    obtain ⟨x, hx, rfl⟩ := Option.map_eq_some_iff.mp hit
    rw [Nat.zero_add] at w2 ⊢
    obtain ⟨s16, g1, g2⟩ := (w1.f 16 (by decide) (by decide) (by decide)).free
    obtain ⟨s2, e2, w4, w5, w6⟩ := lots_row gg (i := j) (by omega) (w1.set (i := 16) (x := x) (by decide)) (by rw [List.getElem?_set_ne (by decide), w2 (by omega)])
    exact ⟨s.set 16 (.d x), s2, by simp [tgN, setN, g1, g2], .inl e2, w4, fun _ => w5, by rw [w6, List.getElem?_set_ne (by decide), w3]⟩)
  rw [List.length_map, List.length_map, Nat.zero_add] at q
  refine ⟨s', ?_, q.1, q.2.1 (Nat.le_refl _), q.2.2⟩
  unfold fo_law_7 sFor
  rw [bnd_ok (srcT (l := h.rows.map rowD) (mVd v.s10))]
  exact e
end k15
end DP
end
section
set_option Elab.async false
set_option linter.all false
set_option maxRecDepth 100000
set_option maxHeartbeats 1000000
namespace DP
namespace k15
open PySem PySem.Spec PyProof.Rows L2
theorem lotcost_v {h : Har} {gs : List (Int × Int)} {L : Nat} {o : OD} {st : St} {lot : List Nat} (v : LB h gs L o st) (h20 : st[20]? = some (.d (lotD lot))) (hl : lot.length ≤ 100) (hm : ∀ k ∈ lot, k < gs.length) : bnd (aCons (lc_law_8) (aNil)) (rd1 gSum) st = .ok (.d (.int (costL gs lot))) st := by
  obtain ⟨s, f1, f2⟩ := v.f 18 (by decide) (by decide) (by decide)
  have hlt : 18 < st.length := (List.getElem?_eq_some_iff.mp f1).1
  have q : lc_law_8 st = .ok (.o (.lst ((lot.map fun i => (gAt gs i).2).map .int))) st := by
    rw [List.map_map]
    exact lcT (i := 18) (ks := lot) (f := fun i => .int (i : Nat)) (by rw [srcT (l := nsD lot) (mVd h20)]; unfold nsD; rw [List.map_map]; rfl) f1 f2 (fun k hk => ⟨_, ixC (X := gD (gAt gs k)) (.inl rfl) (ixV (X := gsD gs) (.inl rfl) (by rw [List.getElem?_set_ne (by decide), v.s9]) (List.getElem?_set_self hlt) (gs_at (hm k hk))) at_1, rfl⟩) (by omega)
  rw [bnd_ok (aC1 q)]
  simp only [argW, fz]
  unfold rd1
  simp only [rd, gSum, asInts_map]
  rfl
theorem costs_v {h : Har} (g : Good h.rows) {gs : List (Int × Int)} (gg : GOk gs) {L : Nat} {o : OD} {st : St} (hn : h.rows.length ≤ 4) (v : LB h gs L o st) (h15 : st[15]? = some (.d (.lst ((lotsL gs.length h.rows.length).map lotD)))) :
    lc_law_9 st = .ok (.o (.lst ((((lotsL gs.length h.rows.length).filter fun lot => fitB h.rows gs (asL lot) (L : Int)).map (costL gs)).map .int))) st := by
  have l5 := gg.l5
  obtain ⟨s, f1, f2⟩ := v.f 20 (by decide) (by decide) (by decide)
  have hlt : 20 < st.length := (List.getElem?_eq_some_iff.mp f1).1
  have hlen : (lotsL gs.length h.rows.length).length ≤ 625 := by
    rw [lots_len]
    calc gs.length ^ h.rows.length ≤ 5 ^ h.rows.length := Nat.pow_le_pow_left l5 _
      _ ≤ 5 ^ 4 := Nat.pow_le_pow_right (by decide) hn
  rw [List.map_map]
  refine lcS (i := 20) (ks := lotsL gs.length h.rows.length) (f := lotD) (by rw [srcD (mVd h15), List.map_map]; rfl) f1 f2 (fun lot hlot => ?_) (fun lot hlot _ => ?_) (by omega)
  · obtain ⟨a, b⟩ := lots_ok hlot
    have e := e_law_fits g gg (M := (L : Int)) (a := asL lot) (asL_lt a b)
    rw [asgD_lot a] at e
    exact mBd (mcall4 (mVd (by rw [List.getElem?_set_ne (by decide), v.s10])) (mVd (by rw [List.getElem?_set_ne (by decide), v.s9])) (mVd (by rw [List.getElem?_set_ne (by decide), v.s11])) (mVd (List.getElem?_set_self hlt)) e)
  · obtain ⟨a, b⟩ := lots_ok hlot
    exact ⟨_, lotcost_v (v.set (i := 20) (x := lotD lot) (by decide)) (List.getElem?_set_self hlt) (by omega) b, rfl⟩
/-- few wires: all lots tried -/
theorem brute_v {h : Har} (g : Good h.rows) {gs : List (Int × Int)} (gg : GOk gs) {L : Nat} {o : OD} {st : St} (v : LB h gs L o st) (h4 : st[4]? = some (.d (optD (leastO h.rows gs L)))) :
    ∃ st', sIf (mB (m2 fLe (bnd (aCons (mV 10) (aNil)) (rd1 gLen)) (mC (.int 4)))) (sSeq (sSet 15 (mFz (mLst (aCons (mTup (aNil)) (aNil))))) (sSeq (fo_law_7) (sSeq (sSet 17 (mFz (lc_law_9))) (sIf (mB (m2 fNe (mIf (mB (m2 fNe (mV 17) (mLst (aNil)))) (bnd (aCons (mV 17) (aNil)) (rd1 gMinL)) (mC .non)) (mV 4))) (sRet (mC (.bl false))) (sNx))))) (sNx) st = .ok .nx st' ∧ LB h gs L o st' := by
  have t : mB (m2 fLe (bnd (aCons (mV 10) (aNil)) (rd1 gLen)) (mC (.int 4))) st = .ok (decide ((h.rows.length : Int) ≤ 4)) st := mBd (leV (len10 v) rfl)
  by_cases hn : h.rows.length ≤ 4
  · have s1 := v.setD (i := 15) (x := .lst ((lotsL gs.length 0).map lotD)) (by decide) (show mFz (mLst (aCons (mTup (aNil)) (aNil))) st = _ from rfl)
    have v1 := v.set (i := 15) (x := .lst ((lotsL gs.length 0).map lotD)) (by decide)
    obtain ⟨st2, e2, v2, q15, q4⟩ := lots_rows g gg hn v1 (v.at (by decide))
    rw [List.getElem?_set_ne (by decide), h4] at q4
    have e3 := fzo (costs_v g gg hn v2 q15)
    have s3 := v2.setD (i := 17) (by decide) e3
    have v3 := v2.set (i := 17) (x := .lst ((((lotsL gs.length h.rows.length).filter fun lot => fitB h.rows gs (asL lot) (L : Int)).map (costL gs)).map .int)) (by decide)
    have q17 := v2.at (i := 17) (x := .lst ((((lotsL gs.length h.rows.length).filter fun lot => fitB h.rows gs (asL lot) (L : Int)).map (costL gs)).map .int)) (by decide)
    have e4 := entryI (a := 17) (.inl q17)
    rw [brute g] at e4
    have s4 := ifN (a := sRet (mC (.bl false))) (ne_same e4 (mVd (i := 4) (by rw [List.getElem?_set_ne (by decide), q4])) (eq_opt _))
    refine ⟨_, ?_, v3⟩
    rw [sIfB t, if_pos (by simp; omega)]
    exact seq_nx s1 (seq_nx e2 (seq_nx s3 s4))
  · refine ⟨st, ?_, v⟩
    rw [sIfB t, if_neg (by simp; omega)]
    rfl
theorem rep_asg {rs : List Row} {gs : List (Int × Int)} : (List.replicate rs.length [D.int ((gs.length - 1 : Nat) : Int)]).flatten = asgD rs.length (thin gs) := by
  have : ∀ n, (List.replicate n [D.int ((gs.length - 1 : Nat) : Int)]).flatten = asgD n (thin gs) := fun n => by
    induction n with
    | zero => rfl
    | succ n ih =>
      rw [List.replicate_succ', List.flatten_append, ih]
      unfold asgD
      rw [List.range_succ, List.map_append]
      rfl
  exact this _
theorem thin_v {h : Har} (g : Good h.rows) {gs : List (Int × Int)} (gg : GOk gs) {L : Nat} {o : OD} {st : St} (v : LB h gs L o st) : m2 fMulB (mTup (aCons (m2 fSub (bnd (aCons (mV 9) (aNil)) (rd1 gLen)) (mC (.int 1))) (aNil))) (bnd (aCons (mV 10) (aNil)) (rd1 gLen)) st = .ok (.d (.tup (asgD h.rows.length (thin gs)))) st := by
  have l1 := gg.l1
  have l10 := g.l10
  have g1 := g.l1
  have e1 : m2 fSub (bnd (aCons (mV 9) (aNil)) (rd1 gLen)) (mC (.int 1)) st = .ok (.d (.int ((gs.length - 1 : Nat) : Int))) st := by
    rw [show ((gs.length - 1 : Nat) : Int) = (gs.length : Int) - 1 by omega]
    exact subV (len9 v) rfl
  have e2 : mTup (aCons (m2 fSub (bnd (aCons (mV 9) (aNil)) (rd1 gLen)) (mC (.int 1))) (aNil)) st = .ok (.d (.tup [.int ((gs.length - 1 : Nat) : Int)])) st := by
    unfold mTup
    rw [bnd_ok (aC1 e1)]
    rfl
  refine (bnd_ok e2).trans ((bnd_ok (len10 v)).trans ?_)
  rw [← rep_asg]
  by_cases h1 : h.rows.length = 1
  · rw [h1]
    rfl
  · have c1 : (2 : Int) ≤ (h.rows.length : Int) := by omega
    have c2 : (h.rows.length : Int) ≤ 1000 := by omega
    have c3 : ¬ (h.rows.length : Int) = 1 := by omega
    unfold fMulB
    simp only [rd]
    split
    · rename_i heq
      injection heq with heq
      injection heq with heq
      exact absurd heq c3
    · simp [fMul, rd, c1, c2]
/-- the thinnest: from which limit on they fit -/
theorem need_v {h : Har} (g : Good h.rows) {gs : List (Int × Int)} (gg : GOk gs) {L : Nat} {o : OD} {st : St} (v : LB h gs L o st) (h6 : st[6]? = some (.d (.tup (asgD h.rows.length (thin gs))))) :
    mFz (mSl (lc_law_10) (oNone) (oSome (mC (.int 1)))) st = .ok (.d (.lst ((((List.range 301).filter fun M : Nat => decide (mx (drop h.rows gs (thin gs)) h.rows.length ≤ (M : Int))).take 1).map fun M => .int (M : Nat)))) st := by
  have l1 := gg.l1
  obtain ⟨s, f1, f2⟩ := v.f 21 (by decide) (by decide) (by decide)
  have hlt : 21 < st.length := (List.getElem?_eq_some_iff.mp f1).1
  have q : lc_law_10 st = .ok (.o (.lst (((List.range 301).filter fun M : Nat => decide (mx (drop h.rows gs (thin gs)) h.rows.length ≤ (M : Int))).map fun M => .int (M : Nat)))) st := by
    refine lcS (i := 21) (ks := List.range 301) (f := fun M => .int ((M : Nat) : Int)) (rngN (n := 301) rfl (by decide)) f1 f2 (fun M hM => ?_) (fun M hM _ => ⟨.d (.int (M : Nat)), mVd (List.getElem?_set_self hlt), rfl⟩) (by simp)
    have e := e_law_fits g gg (M := (M : Int)) (a := thin gs) (fun k hk => by unfold thin; omega)
    rw [thin_fit g] at e
    exact mBd (mcall4 (mVd (by rw [List.getElem?_set_ne (by decide), v.s10])) (mVd (by rw [List.getElem?_set_ne (by decide), v.s9])) (mVd (List.getElem?_set_self hlt)) (mVd (by rw [List.getElem?_set_ne (by decide), h6])) e)
  have e2 : mSl (lc_law_10) (oNone) (oSome (mC (.int 1))) st = .ok (.o (.lst ((((List.range 301).filter fun M : Nat => decide (mx (drop h.rows gs (thin gs)) h.rows.length ≤ (M : Int))).take 1).map fun M => .int (M : Nat)))) st := by
    unfold mSl
    rw [bnd_ok q, bnd_ok (show oNone st = .ok none st from rfl), bnd_ok (show oSome (mC (.int 1)) st = .ok (some 1) st from rfl)]
    generalize ((List.range 301).filter fun M : Nat => decide (mx (drop h.rows gs (thin gs)) h.rows.length ≤ (M : Int))) = Z
    have : cutG (Z.map fun M : Nat => D.int (M : Nat)) none (some ((1 : Nat) : Int)) = (Z.map fun M : Nat => D.int (M : Nat)).take 1 := cut_all
    simp only [fSl, rd, fz]
    rw [show (some (1 : Int)) = some ((1 : Nat) : Int) from rfl, this, List.map_take]
  exact fzo e2
theorem last_v {h : Har} (g : Good h.rows) {gs : List (Int × Int)} (gg : GOk gs) {L : Nat} {o : OD} {st : St} (v : LB h gs L o st) (h7 : st[7]? = some (.d (.lst ((((List.range 301).filter fun M : Nat => decide (mx (drop h.rows gs (thin gs)) h.rows.length ≤ (M : Int))).take 1).map fun M => .int (M : Nat))))) :
    sIf (mNot (mB (mCall 2 (fn_law_alike 5) [] (aCons (mCall 2 fn_least_limit [] (aCons (mV 12) (aCons (mV 9) (aNil)))) (aCons (mIf (mB (m2 fNe (mV 7) (mLst (aNil)))) (m2 (rd2 gIx) (mV 7) (mC (.int 0))) (mC .non)) (aNil)))))) (sRet (mC (.bl false))) (sNx) st = .ok .nx st := by
  have e1 := mcall2 (mVd v.s12) (mVd v.s9) (e_least_limit g gg)
  obtain ⟨m, hm⟩ : ∃ m, m = mx (drop h.rows gs (thin gs)) h.rows.length := ⟨_, rfl⟩
  have m0 : 0 ≤ m := by rw [hm]; exact mx_nn _ _
  rw [← hm] at e1 h7
  have fr := first_range m0 301
  obtain ⟨Z, hZ⟩ : ∃ Z, Z = (List.range 301).filter fun M : Nat => decide (m ≤ (M : Int)) := ⟨_, rfl⟩
  rw [← hZ] at fr h7
  have e2 : mIf (mB (m2 fNe (mV 7) (mLst (aNil)))) (m2 (rd2 gIx) (mV 7) (mC (.int 0))) (mC .non) st = .ok (.d (optD (if m ≤ 300 then some m else none))) st := by
    have ez : (Z.take 1).map (fun M : Nat => D.int (M : Nat)) = ((Z.take 1).map fun M : Nat => (M : Int)).map D.int := by rw [List.map_map]; rfl
    have t : mB (m2 fNe (mV 7) (mLst (aNil))) st = .ok (!((Z.take 1).map fun M : Nat => (M : Int)).isEmpty) st := by
      rw [ez] at h7
      have := ints_nil (cs := (Z.take 1).map fun M : Nat => (M : Int))
      generalize ((Z.take 1).map fun M : Nat => (M : Int)) = cs at h7 this ⊢
      refine mBd ((bnd_ok (mVd h7)).trans ((bnd_ok (show mLst aNil st = .ok (.o (.lst [])) st from rfl)).trans ?_))
      generalize cs.map D.int = z at this ⊢
      simp [rd2, rd, fz, gNe, this]
    rw [mIfB t]
    cases Z with
    | nil =>
      simp only [List.head?_nil] at fr
      by_cases h3 : m ≤ 300
      · rw [if_pos (by omega)] at fr
        cases fr
      · rw [if_neg h3]
        rfl
    | cons z zs =>
      simp only [List.head?_cons] at fr
      by_cases h3 : m ≤ 300
      · rw [if_pos (by omega)] at fr
        have ez : z = m.toNat := Option.some.inj fr
        rw [if_pos h3]
        show m2 (rd2 gIx) (mV 7) (mC (.int 0)) st = _
        have : (z : Int) = m := by omega
        refine ixC (X := .lst [.int (z : Nat)]) (.inr rfl) (mVd h7) ?_
        rw [this]
        exact at_0
      · rw [if_neg (by omega)] at fr
        cases fr
  exact ifN (alikeN e1 e2 (alk_opt _ 4))
end k15
end DP
end
section
set_option Elab.async false
set_option linter.all false
set_option maxRecDepth 100000
set_option maxHeartbeats 1000000
namespace DP
namespace k15
open PySem PySem.Spec PyProof.Rows L2
/-! ### a turn of the law -/
structure Top (o : OD) (st : St) : Prop where
  s1 : st[1]? = some (.o none o)
  f : ∀ i, 2 ≤ i → i < 22 → i ≠ 19 → fre st i
  s19 : ∃ s, st[19]? = some s ∧ freeS s = true
theorem Top.set {o : OD} {st : St} {i : Nat} {x : D} (v : Top o st) (h1 : 2 ≤ i) : Top o (st.set i (.d x)) where
  s1 := by rw [List.getElem?_set_ne (by omega), v.s1]
  f := fun j a b c => (v.f j a b c).set
  s19 := by
    obtain ⟨s, g1, g2⟩ := v.s19
    by_cases e : i = 19
    · subst e
      exact ⟨.d x, List.getElem?_set_self (List.getElem?_eq_some_iff.mp g1).1, rfl⟩
    · exact ⟨s, by rw [List.getElem?_set_ne e, g1], g2⟩
theorem Top.own {o o' : OD} {st : St} (v : Top o st) : Top o' (st.set 1 (.o none o')) where
  s1 := List.getElem?_set_self (List.getElem?_eq_some_iff.mp v.s1).1
  f := fun j h1 h2 h3 => by
    obtain ⟨s, g1, g2⟩ := v.f j h1 h2 h3
    exact ⟨s, by rw [List.getElem?_set_ne (by omega), g1], g2⟩
  s19 := by
    obtain ⟨s, g1, g2⟩ := v.s19
    exact ⟨s, by rw [List.getElem?_set_ne (by omega), g1], g2⟩
theorem LB.top {h : Har} {gs : List (Int × Int)} {L : Nat} {o : OD} {st : St} (v : LB h gs L o st) : Top o st := ⟨v.s1, v.f, v.s19⟩
theorem parW {i j : Nat} {a b : M W} {x y : D} {st st1 st2 : St} (ha : a st = .ok (.d x) st1) (hb : b st1 = .ok (.d y) st2) (fi : fre st2 i) (fj : fre st2 j) : sPar i j a b st = .ok .nx ((st2.set i (.d x)).set j (.d y)) := by
  obtain ⟨s, h1, h2⟩ := fi.free
  obtain ⟨t, h3, h4⟩ := (fj.set (j := i) (x := x)).free
  unfold sPar
  rw [bnd_ok ha, bnd_ok hb]
  simp [asgW, h1, h2, h3, h4, endS]
/-- one of some numbers, drawn by slot 1 -/
theorem pickL {o : OD} (ok : RowOk o) {st : St} {m : M W} {ns : List Int} (hn : ns ≠ []) (hl : ns.length ≤ 1000) (h1 : st[1]? = some (.o none o)) (hm : m st = .ok (.o (.lst (ns.map .int))) st) : ∃ (v : Int) (o' : OD), mCall 2 fn_law_pick [] (aCons (mV 1) (aCons m (aNil))) st = .ok (.d (.int v)) (st.set 1 (.o none o')) ∧ v ∈ ns ∧ RowOk o' := by
  obtain ⟨d, o', e, hd, ok'⟩ := pick_ok ok (ds := ns.map .int) (by simpa using hn) (by rw [List.length_map]; exact hl)
  obtain ⟨v, hv, rfl⟩ := List.mem_map.mp hd
  exact ⟨v, o', mcallR2w (i := 1) (t := none) h1 hm rfl h1 e, hv, ok'⟩
theorem draw_v {o : OD} {st : St} (v : Top o st) (ok : RowOk o) : ∃ (h : Har) (gs : List (Int × Int)) (L : Nat) (o' : OD) (s1 s2 s3 : St), HOk h ∧ GOk gs ∧ L ≤ 300 ∧ RowOk o' ∧ LB h gs L o' s3 ∧
    sPar 8 9 (mCall 1 fn_law_harness [] (aCons (mV 1) (aNil))) (mCall 1 fn_law_gauges [] (aCons (mV 1) (aNil))) st = .ok .nx s1 ∧
    sPar 10 11 (mFz (mSl (m2 (rd2 gIx) (mV 8) (mC (.int 0))) (oNone) (oSome (mCall 2 fn_law_pick [] (aCons (mV 1) (aCons (mLst (aCons (mC (.int 3)) (aCons (mC (.int 10)) (aNil)))) (aNil))))))) (mCall 2 fn_law_pick [] (aCons (mV 1) (aCons (mLst (aCons (mC (.int 0)) (aCons (mC (.int 9)) (aCons (mC (.int 60)) (aNil))))) (aNil)))) s1 = .ok .nx s2 ∧
    sPar 12 13 (mFz (mMake "Harness" 4 fn_Harness_init [] (aCons (mV 10) (aCons (m2 (rd2 gIx) (mV 8) (mC (.int 1))) (aCons (m2 (rd2 gIx) (mV 8) (mC (.int 2))) (aNil)))))) (mCall 3 fn_law_least_tables [] (aCons (mV 10) (aCons (mV 9) (aCons (mV 11) (aNil))))) s2 = .ok .nx s3 := by
  obtain ⟨h0, o1, e1, k0, ok1⟩ := harness_ok ok
  obtain ⟨gs, o2, e2, gg, ok2⟩ := gauges_ok ok1
  have v1 : Top o1 (st.set 1 (.o none o1)) := v.own
  have c1 := mcallR1 v.s1 e1
  have c2 := mcallR1 v1.s1 e2
  have v2 : Top o2 ((st.set 1 (.o none o1)).set 1 (.o none o2)) := v1.own
  generalize (st.set 1 (.o none o1)).set 1 (.o none o2) = t2 at c2 v2
  have a1 := parW c1 c2 (v2.f 8 (by decide) (by decide) (by decide)) (v2.f 9 (by decide) (by decide) (by decide))
  have v3 := (v2.set (i := 8) (x := h0.p) (by decide)).set (i := 9) (x := gsD gs) (by decide)
  have lt : ∀ {i} {s : St} {o}, Top o s → 2 ≤ i → i < 22 → i ≠ 19 → i < s.length := fun w a b c => by
    obtain ⟨s, g1, _⟩ := w.f _ a b c
    exact (List.getElem?_eq_some_iff.mp g1).1
  have q9 : ((t2.set 8 (.d h0.p)).set 9 (.d (gsD gs)))[9]? = some (.d (gsD gs)) := List.getElem?_set_self (lt (v2.set (i := 8) (x := h0.p) (by decide)) (by decide) (by decide) (by decide))
  have q8 : ((t2.set 8 (.d h0.p)).set 9 (.d (gsD gs)))[8]? = some (.d h0.p) := by rw [List.getElem?_set_ne (by decide)]; exact List.getElem?_set_self (lt v2 (by decide) (by decide) (by decide))
  generalize (t2.set 8 (.d h0.p)).set 9 (.d (gsD gs)) = s1 at a1 v3 q8 q9
  -- the part of the rows, the limit
  obtain ⟨m, o3, e3, hm, ok3⟩ := pickL ok2 (st := s1) (m := mLst (aCons (mC (.int 3)) (aCons (mC (.int 10)) (aNil)))) (ns := [3, 10]) (by simp) (by simp) v3.s1 rfl
  have v4 : Top o3 (s1.set 1 (.o none o3)) := v3.own
  obtain ⟨l, o4, e4, hl, ok4⟩ := pickL ok3 (st := s1.set 1 (.o none o3)) (m := mLst (aCons (mC (.int 0)) (aCons (mC (.int 9)) (aCons (mC (.int 60)) (aNil))))) (ns := [0, 9, 60]) (by simp) (by simp) v4.s1 rfl
  obtain ⟨M, rfl, hM⟩ : ∃ M : Nat, m = M ∧ 1 ≤ M := by
    simp only [List.mem_cons, List.not_mem_nil, or_false] at hm
    rcases hm with rfl | rfl
    · exact ⟨3, rfl, by decide⟩
    · exact ⟨10, rfl, by decide⟩
  obtain ⟨L, rfl, hL⟩ : ∃ L : Nat, l = L ∧ L ≤ 300 := by
    simp only [List.mem_cons, List.not_mem_nil, or_false] at hl
    rcases hl with rfl | rfl | rfl
    · exact ⟨0, rfl, by decide⟩
    · exact ⟨9, rfl, by decide⟩
    · exact ⟨60, rfl, by decide⟩
  have sl : mFz (mSl (m2 (rd2 gIx) (mV 8) (mC (.int 0))) (oNone) (oSome (mCall 2 fn_law_pick [] (aCons (mV 1) (aCons (mLst (aCons (mC (.int 3)) (aCons (mC (.int 10)) (aNil)))) (aNil)))))) s1 = .ok (.d (rowsD (h0.rows.take M))) (s1.set 1 (.o none o3)) := by
    refine fzd ?_
    unfold mSl
    have f0 : m2 (rd2 gIx) (mV 8) (mC (.int 0)) s1 = .ok (.d (rowsD h0.rows)) s1 := ixC (X := h0.p) (.inl rfl) (mVd q8) at_0
    have f1 : oSome (mCall 2 fn_law_pick [] (aCons (mV 1) (aCons (mLst (aCons (mC (.int 3)) (aCons (mC (.int 10)) (aNil)))) (aNil)))) s1 = .ok (some (M : Int)) (s1.set 1 (.o none o3)) := (bnd_ok e3).trans rfl
    rw [bnd_ok f0, bnd_ok (show oNone s1 = .ok none s1 from rfl), bnd_ok f1]
    have : cutG (h0.rows.map rowD) none (some (M : Int)) = (h0.rows.take M).map rowD := by rw [cut_all, List.map_take]
    simp only [fSl, rd, rowsD]
    rw [this]
  have v5 : Top o4 ((s1.set 1 (.o none o3)).set 1 (.o none o4)) := v4.own
  have q8 : ((s1.set 1 (.o none o3)).set 1 (.o none o4))[8]? = some (.d h0.p) := by rw [List.getElem?_set_ne (by decide), List.getElem?_set_ne (by decide), q8]
  have q9 : ((s1.set 1 (.o none o3)).set 1 (.o none o4))[9]? = some (.d (gsD gs)) := by rw [List.getElem?_set_ne (by decide), List.getElem?_set_ne (by decide), q9]
  generalize (s1.set 1 (.o none o3)).set 1 (.o none o4) = t5 at e4 v5 q8 q9
  have a2 := parW sl e4 (v5.f 10 (by decide) (by decide) (by decide)) (v5.f 11 (by decide) (by decide) (by decide))
  have w1 := v5.set (i := 10) (x := rowsD (h0.rows.take M)) (by decide)
  have v6 := w1.set (i := 11) (x := .int (L : Nat)) (by decide)
  have r11 : ((t5.set 10 (.d (rowsD (h0.rows.take M)))).set 11 (.d (.int (L : Nat))))[11]? = some (.d (.int (L : Nat))) := List.getElem?_set_self (lt w1 (by decide) (by decide) (by decide))
  have r10 : ((t5.set 10 (.d (rowsD (h0.rows.take M)))).set 11 (.d (.int (L : Nat))))[10]? = some (.d (rowsD (h0.rows.take M))) := by rw [List.getElem?_set_ne (by decide)]; exact List.getElem?_set_self (lt v5 (by decide) (by decide) (by decide))
  have r9 : ((t5.set 10 (.d (rowsD (h0.rows.take M)))).set 11 (.d (.int (L : Nat))))[9]? = some (.d (gsD gs)) := by rw [List.getElem?_set_ne (by decide), List.getElem?_set_ne (by decide), q9]
  have r8 : ((t5.set 10 (.d (rowsD (h0.rows.take M)))).set 11 (.d (.int (L : Nat))))[8]? = some (.d h0.p) := by rw [List.getElem?_set_ne (by decide), List.getElem?_set_ne (by decide), q8]
  generalize (t5.set 10 (.d (rowsD (h0.rows.take M)))).set 11 (.d (.int (L : Nat))) = s2 at a2 v6 r8 r9 r10 r11
  -- the harness, the tables that are due
  obtain ⟨h, hh⟩ : ∃ h : Har, h = ⟨h0.rows.take M, h0.volts, h0.limit⟩ := ⟨_, rfl⟩
  have hr : h.rows = h0.rows.take M := by rw [hh]
  have ho : HOk h := by rw [hh]; exact ⟨k0.g.take hM, k0.v, k0.l⟩
  rw [← hr] at r10
  have mk : mFz (mMake "Harness" 4 fn_Harness_init [] (aCons (mV 10) (aCons (m2 (rd2 gIx) (mV 8) (mC (.int 1))) (aCons (m2 (rd2 gIx) (mV 8) (mC (.int 2))) (aNil))))) s2 = .ok (.d h.d) s2 := by
    have f1 : m2 (rd2 gIx) (mV 8) (mC (.int 1)) s2 = .ok (.d (.int h.volts)) s2 := by rw [hh]; exact ixC (X := h0.p) (.inl rfl) (mVd r8) at_1
    have f2 : m2 (rd2 gIx) (mV 8) (mC (.int 2)) s2 = .ok (.d (.int h.limit)) s2 := by rw [hh]; exact ixC (X := h0.p) (.inl rfl) (mVd r8) at_2
    have q : aCons (mV 10) (aCons (m2 (rd2 gIx) (mV 8) (mC (.int 1))) (aCons (m2 (rd2 gIx) (mV 8) (mC (.int 2))) (aNil))) s2 = .ok [.d (rowsD h.rows), .d (.int h.volts), .d (.int h.limit)] s2 := by
      simp [aCons, aNil, bnd, ret, mVd r10, f1, f2, argW]
    have e := e_init ho
    have mm : mMake "Harness" 4 fn_Harness_init [] (aCons (mV 10) (aCons (m2 (rd2 gIx) (mV 8) (mC (.int 1))) (aCons (m2 (rd2 gIx) (mV 8) (mC (.int 2))) (aNil)))) s2 = .ok (.o (.ins "Harness" h.fs)) s2 := by
      unfold mMake
      rw [bnd_ok q]
      generalize fn_Harness_init = F at e ⊢
      generalize rowsD h.rows = R at e ⊢
      unfold makeW
      simp [argsOf, slotsOf, e, putBack]
    exact (bnd_ok mm).trans rfl
  have tb := mcall3 (mVd r10) (mVd r9) (mVd r11) (e_law_least_tables ho.g gg hL)
  have a3 := parW mk tb (v6.f 12 (by decide) (by decide) (by decide)) (v6.f 13 (by decide) (by decide) (by decide))
  have w2 := v6.set (i := 12) (x := h.d) (by decide)
  have v7 := w2.set (i := 13) (x := tabsD h.rows gs L) (by decide)
  refine ⟨h, gs, L, o4, s1, s2, (s2.set 12 (.d h.d)).set 13 (.d (tabsD h.rows gs L)), ho, gg, hL, ok4, ?_, a1, a2, a3⟩
  exact {
    s1 := v7.s1
    s9 := by rw [List.getElem?_set_ne (by decide), List.getElem?_set_ne (by decide), r9]
    s10 := by rw [List.getElem?_set_ne (by decide), List.getElem?_set_ne (by decide), r10]
    s11 := by rw [List.getElem?_set_ne (by decide), List.getElem?_set_ne (by decide), r11]
    s12 := by rw [List.getElem?_set_ne (by decide)]; exact List.getElem?_set_self (lt v6 (by decide) (by decide) (by decide))
    s13 := List.getElem?_set_self (lt w2 (by decide) (by decide) (by decide))
    f := v7.f
    s19 := v7.s19 }
theorem turn_v {o : OD} {st : St} (v : Top o st) (ok : RowOk o) : ∃ (o' : OD) (st' : St), bo_law_11 st = .ok .nx st' ∧ RowOk o' ∧ Top o' st' := by
  obtain ⟨h, gs, L, o', s1, s2, s3, ho, gg, hL, ok', b, a1, a2, a3⟩ := draw_v v ok
  have g := ho.g
  have a4 := b.setD (i := 3) (by decide) (fzo (ends_v g b))
  have b4 := b.set (i := 3) (x := .lst (((kidsL h.rows none).map fun j => E h.rows gs j (L : Int)).map optD)) (by decide)
  have q3 := b.at (i := 3) (x := .lst (((kidsL h.rows none).map fun j => E h.rows gs j (L : Int)).map optD)) (by decide)
  generalize s3.set 3 (.d (.lst (((kidsL h.rows none).map fun j => E h.rows gs j (L : Int)).map optD))) = s4 at a4 b4 q3
  have a5 := b4.setD (i := 4) (x := optD (leastO h.rows gs L)) (by decide) (least_v q3)
  have b5 := b4.set (i := 4) (x := optD (leastO h.rows gs L)) (by decide)
  have q4 := b4.at (i := 4) (x := optD (leastO h.rows gs L)) (by decide)
  generalize s4.set 4 (.d (optD (leastO h.rows gs L))) = s5 at a5 b5 q4
  have a6 := b5.setD (i := 5) (x := foundD h.rows gs L) (by decide) (mcall3 (mVd b5.s12) (mVd b5.s9) (mVd b5.s11) (e_cheapest g gg hL))
  have b6 := b5.set (i := 5) (x := foundD h.rows gs L) (by decide)
  have q5 := b5.at (i := 5) (x := foundD h.rows gs L) (by decide)
  have q4 : (s5.set 5 (.d (foundD h.rows gs L)))[4]? = some (.d (optD (leastO h.rows gs L))) := by rw [List.getElem?_set_ne (by decide), q4]
  generalize s5.set 5 (.d (foundD h.rows gs L)) = s6 at a6 b6 q4 q5
  have a7 := test1 g gg hL b6 q4 q5
  obtain ⟨s8, a8, b8, q8⟩ := found_v g gg hL b6 q4 q5
  obtain ⟨s9, a9, b9⟩ := brute_v g gg b8 q8
  have a10 := b9.setD (i := 6) (by decide) (thin_v g gg b9)
  have b10 := b9.set (i := 6) (x := .tup (asgD h.rows.length (thin gs))) (by decide)
  have q6 := b9.at (i := 6) (x := .tup (asgD h.rows.length (thin gs))) (by decide)
  generalize s9.set 6 (.d (.tup (asgD h.rows.length (thin gs)))) = s10 at a10 b10 q6
  have a11 := b10.setD (i := 7) (by decide) (need_v g gg b10 q6)
  have b11 := b10.set (i := 7) (x := .lst ((((List.range 301).filter fun M : Nat => decide (mx (drop h.rows gs (thin gs)) h.rows.length ≤ (M : Int))).take 1).map fun M => .int (M : Nat))) (by decide)
  have q7 := b10.at (i := 7) (x := .lst ((((List.range 301).filter fun M : Nat => decide (mx (drop h.rows gs (thin gs)) h.rows.length ≤ (M : Int))).take 1).map fun M => .int (M : Nat))) (by decide)
  have a12 := last_v g gg b11 q7
  exact ⟨o', _, seq_nx a1 (seq_nx a2 (seq_nx a3 (seq_nx a4 (seq_nx a5 (seq_nx a6 (seq_nx a7 (seq_nx a8 (seq_nx a9 (seq_nx a10 (seq_nx a11 a12)))))))))), ok', b11.top⟩
theorem two_v {st : St} (h : ∃ p, RowOk p ∧ Top p st) : ∃ st', fo_law_12 st = .ok .nx st' := by
  obtain ⟨s', e, _⟩ := forL_all (t := tgN 2) (b := bo_law_11) (fun _ s => ∃ p, RowOk p ∧ Top p s) (its := (List.range 2).map fun k => Item.one (.int (0 + (k : Nat)))) (i := 0) (st := st) h (fun j it s hit w => by
    obtain ⟨p, ok, t⟩ := w
    rw [List.getElem?_map] at hit
    obtain ⟨k, _, rfl⟩ := Option.map_eq_some_iff.mp hit
    obtain ⟨z, f1, f2⟩ := (t.f 2 (by decide) (by decide) (by decide)).free
    obtain ⟨p', s2, e2, ok', t'⟩ := turn_v (t.set (i := 2) (x := .int (0 + (k : Nat))) (by decide)) ok
    exact ⟨_, s2, by simp [tgN, setN, f1, f2], .inl e2, p', ok', t'⟩)
  refine ⟨s', ?_⟩
  unfold fo_law_12 sFor
  rw [bnd_ok (show mRng1 (aCons (mC (.int 2)) (aNil)) st = .ok (.fz ((List.range 2).map fun k => Item.one (.int (0 + (k : Nat))))) st from rfl)]
  exact e
theorem top0 {ns : List Int} : Top (.lst [.scr ns, .int 0, .int 3151, .int 0]) (.d (.scr ns) :: .o none (.lst [.scr ns, .int 0, .int 3151, .int 0]) :: List.replicate 20 .no) where
  s1 := rfl
  f := fun i h1 h2 _ => ⟨.no, by
    obtain ⟨j, rfl⟩ : ∃ j, i = j + 2 := ⟨i - 2, by omega⟩
    rw [List.getElem?_cons_succ, List.getElem?_cons_succ, List.getElem?_replicate, if_pos (by omega)], .inl rfl⟩
  s19 := ⟨.no, rfl, rfl⟩
theorem law_ok (ns : List Int) (_ : ns.length ≤ 63) : fn_law [.d (.scr ns)] = .ok (.d (.bl true)) [] := by
  obtain ⟨st', e⟩ := two_v ⟨_, ⟨ns, 0, 3151, 0, rfl, by decide⟩, top0 (ns := ns)⟩
  have a1 : sSet 1 (mLst (aCons (mV 0) (aCons (mC (.int 0)) (aCons (mC (.int 3151)) (aCons (mC (.int 0)) (aNil)))))) (.d (.scr ns) :: List.replicate 21 .no) = .ok .nx (.d (.scr ns) :: .o none (.lst [.scr ns, .int 0, .int 3151, .int 0]) :: List.replicate 20 .no) := by rfl
  have q : m_law (.d (.scr ns) :: List.replicate 21 .no) = .ok (.ret (.d (.bl true))) st' := seq_nx a1 (seq_nx e rfl)
  unfold fn_law
  rw [fn_of_m (st := .d (.scr ns) :: List.replicate 21 .no) rfl q]
  rfl
end k15
end DP
end
theorem PySem.Challenge.cw_carwires_k15_whole_cheapest_gauges_holds : PySem.Challenge.rw_carwires_k15_whole_cheapest_gauges.Holds :=
  DP.k15.holds_of DP.k15.law_ok
