import PyProof.Rows.All
import Wide.All
import OpenK.AllK
import Wide.FinOn
import HandS.ForMost
import HandS.IsInst
import HandS.TupAny
import HandS.Zip
import HandS.Style
import HandS.Lambda
import HandS.Exc
import HandS.Deep
import HandS.RaiseMore
import HandS.Text
import HandS.More
import HandS.Star
import HandS.ExcOwn
import HandS.Flow
import HandS.Small
import HandS.ForExc
import HandS.ExcInit
import HandS.ExcField
import HandS.Nested
import HandS.Words
import KE.KExcSuper
import KE.KSuper
import KE.KExcIs
import HandS.ExcIs
import HandS.TryOnly
import KE.KDictZip
import PyProof.ListNew
import HandS.OwnEq
import KE.KNest
import PyProof.StrLaws
import PyProof.ReprText
import PyProof.Rows.ReprOcc
import PyProof.Rows.StrAscii
import PyProof.StrLawsRepr
import PySem.Challenge.RW_lateforms_k18_plain_steps_done
set_option Elab.async false
set_option linter.all false
set_option maxRecDepth 1000000
set_option maxHeartbeats 20000000
/-! Md1: dict(t) of a tuple of pairs; tuples whose object is known. -/
namespace Mj
open PySem PySem.Spec PyProof.Rows L2
section
variable {prog : Program} {w : World} {A : Around} {E : Value → Shared → Prop}
/-- a tuple has no attribute 'keys' -/
theorem miss_tup {s : Shared} {a : Addr} {ot : Obj} {its : Array Value} {k : Nat} {Q : Option Value → Shared → Prop} (ha : s.heap.get? a = some ot) (hcl : ot.cls = .type "tuple") (hda : ot.data = .seq its k) (hno : ot.dict = none) (hA : A.handled = none)
    (fin : ∀ h' tk, (∀ b ob, s.heap.get? b = some ob → h'.get? b = some ob) → Q none { s with heap := h', toks := tk }) : wpAny (model prog w) A (getAttr? (.ref a) "keys") Q E s := by
  obtain ⟨cls0, dict0, data0, slots0⟩ := ot
  simp only at hcl hda hno
  subst hcl hda hno
  obtain ⟨hp, ge, dr, tks, oss⟩ := s
  have hT : ∀ t1, (⟨hp, ge, dr, t1, oss⟩ : Shared).TypeIs (.ref a) "tuple" := fun _ => ⟨_, ha, rfl⟩
  have missing : typeLookup (.type "tuple") "keys" = pure none := am_miss_of_fast (by first | decide +kernel | rfl)
  have notOwn : (["__module__", "__name__", "__qualname__", "__doc__", "__annotations__"] : List Str).contains "keys" = false := by decide +kernel
  have short : ("keys" : Str).length + 100 ≤ sizeLine := by first | size_fits | decide +kernel
  have a1 := sub_AttributeError
  have a2 := PySem.F.slot_tuple_getattribute.lookup
  have a3 := PySem.F.slot_tuple_getattribute.bind (.ref a)
  have a4 := am_tuple_getattr_none
  unfold getAttr? getAttrBy? getAttrBy
  repeat (any_goals (first | assumption | exact hT _ | ((with_reducible show wpAny _ _ (call (Value.builtin "tuple.__getattribute__") _ _) _ _ _); refine call_meets PySem.F.slot_tuple_getattribute (hT _) am_entry_tuple_getattribute (PySem.F.args_tuple_getattribute_2 _ _) (meets_getattribute_miss_tuple a its k slots0 "keys" _ missing notOwn short) ⟨ha, hA, fun h' tk' e made => ?_⟩) | wp_step))
  obtain ⟨t9, u9, he9⟩ := made.there
  show wpAny _ _ (getattributeRaised _ _ _ _ _ _ _) _ _ _
  unfold getattributeRaised
  repeat (any_goals (first | assumption | wp_step))
  all_goals first | exact fin _ _ made.keeps | (dsimp only; repeat (any_goals (first | assumption | exact fin _ _ made.keeps | wp_step)))
/-- the walk over the pairs of the tuple at l -/
theorem updT {R : Result → Shared → Prop} {S I l : Addr} {its : Array Value} {res : Value} (hh : A.handled = none) (nlI : l ≠ I) (nSI : S ≠ I) (nSl : S ≠ l) :
    ∀ (rest : List (Key × Value)) (i : Nat) (acc : List (Key × Value)) (ix : Int) (t : Tok) (s : Shared), its.size = i + rest.length → acc.length + rest.length ≤ sizeLine →
      (∀ (j : Nat) (q : Key × Value), rest[j]? = some q → ∃ (b : Addr) (u : Value), its[i + j]? = some (.ref b) ∧ b ≠ S ∧ b ≠ I ∧ IsTup s.heap b #[u, q.2] ∧ keyIs q.1 u = true) →
      s.heap.IsTupleIter I l i → s.heap.IsTuple l its → s.heap.DictOf (mixKind prog w) S acc →
      (∀ h' tk, h'.DictOf (mixKind prog w) S (merged acc rest) → (∀ b o, b ≠ S → b ≠ I → s.heap.get? b = some o → h'.get? b = some o) → R (.ok (.ret res)) { s with heap := h', toks := tk }) →
      codeAny (model prog w) A (.builtin "dict.update.loop" ⟨[.ref S, .ref I, .int ix t, res], []⟩) R s := by
  intro rest
  induction rest with
  | nil =>
    intro i acc ix t s size _ _ iter tup dic fin
    refine codeAny_builtin ud_entry (by
      rw [Around.under_plainId ud_plain]
      show wpAny _ A.in1 (pyNext (.ref I) >>= _) _ _ s
      refine wpAny_bind (wpAny_pyNext_tuple_end (A := A.in1) hh iter tup (Array.getElem?_eq_none (Nat.le_of_eq size)) fun h' keep => ?_)
      show wpAny _ A.in1 (Builtin.Dict.addKeywords S [] >>= _) _ _ _
      exact wpAny_bind (wpAny_pure (wpAny_pure (fin h' s.toks (dic.extBut keep nSI) fun b o _ hb e => keep b o hb e))))
  | cons q rest ih =>
    intro i acc ix t s size few pairs iter tup dic fin
    obtain ⟨b, u, hb, hbS, hbI, htup, hk⟩ := pairs 0 q rfl
    rw [List.length_cons] at size few
    refine codeAny_builtin ud_entry ?_
    rw [Around.under_plainId ud_plain]
    show wpAny _ A.in1 (pyNext (.ref I) >>= _) _ _ s
    refine wpAny_bind (wpAny_pyNext_tuple_item (x := .ref b) iter tup (by simpa using hb) fun h1 iter1 same1 => ?_)
    have pair1 : IsTup h1 b #[u, q.2] := htup.extBut same1.extBut hbI
    have dic1 : h1.DictOf (mixKind prog w) S acc := dic.extBut same1.extBut nSI
    obtain ⟨ob, hob, hcb, nb, hdb⟩ := id pair1
    show wpAny _ A.in1 (holding [Value.ref b] _ >>= _) _ _ _
    refine wpAny_bind (wpAny_holding (wpAny_bind (wpAny_tryCatch ?_)))
    unfold Builtin.Dict.pairItems
    refine wpAny_bind (wpAny_typeOf (T := "tuple") ⟨ob, hob, hcb⟩ ?_)
    rw [if_pos (by first | decide | rfl | simp)]
    refine wpAny_bind (wpAny_seqItems hob hdb (wpAny_pure ?_))
    show wpAny _ A.in1 (holding [u, q.2] (dictSet S u q.2)) _ _ _
    refine wpAny_holding (wpAny_dictSet_pairs (knd := mixKind prog w) (k := q.1) hk dic1 (fun h2 dic2 same2 => wpAny_pure ⟨plainId_quiet ud_plain _, ?_⟩) (by omega))
    have short := stored_length_le acc q.1 q.2
    refine ih (i + 1) (stored acc q.1 q.2) (ix + 1) 0 _ (by omega) (by omega) (fun j q' e => ?_) (iter1.extBut same2.extBut (Ne.symm nSI)) ((tup.extBut same1.extBut nlI).extBut same2.extBut (Ne.symm nSl)) dic2 fun h' tk hd' kk => fin h' tk hd' fun c oc h3 h4 e => kk c oc h3 h4 (same2.extBut c oc h3 (same1.extBut c oc h4 e))
    obtain ⟨b', u', w1, w2, w3, w4, w5⟩ := pairs (j + 1) q' (by simpa using e)
    exact ⟨b', u', by rw [show i + 1 + j = i + (j + 1) by omega]; exact w1, w2, w3, (w4.extBut same1.extBut w3).extBut same2.extBut w2, w5⟩
/-- dict(t) -/
theorem dict_of_tup {s : Shared} {l : Addr} {ol : Obj} {its : Array Value} {n : Nat} {prs : List (Key × Value)} {Q : Value → Shared → Prop} (hh : A.handled = none) (hl : s.heap.get? l = some ol) (hc : ol.cls = .type "tuple") (hd : ol.dict = none)
    (hdat : ol.data = .seq its n) (hsz : its.size = prs.length) (few : prs.length ≤ sizeLine)
    (pairs : ∀ (j : Nat) (q : Key × Value), prs[j]? = some q → ∃ (b : Addr) (u : Value), its[j]? = some (.ref b) ∧ IsTup s.heap b #[u, q.2] ∧ keyIs q.1 u = true)
    (fin : ∀ h' tk, h'.DictOf (mixKind prog w) s.heap.objs.size (merged [] prs) → (∀ b o, s.heap.get? b = some o → h'.get? b = some o) → Q (.ref s.heap.objs.size) { s with heap := h', toks := tk }) :
    wpAny (model prog w) A (call (.type "dict") [.ref l]) Q E s := by
  refine callType_codes (Q₁ := fun obj s₁ => obj = .ref s.heap.objs.size ∧ s₁ = { s with heap := s.heap.push { cls := .type "dict", data := .dict #[] } }) PySem.F.kt_called_dict (PySem.F.kt_typeCall_dict_1 _) PySem.F.entry_dict_init (kt_code_dict_new _ ⟨rfl, rfl⟩) fun obj s₁ ⟨eo, es⟩ => ?_
  subst eo es
  have fresh : (s.heap.push { cls := .type "dict", data := .dict #[] }).DictOf (mixKind prog w) s.heap.objs.size [] := Heap.DictOf.new s.heap
  have kp0 : ∀ b o, s.heap.get? b = some o → (s.heap.push { cls := .type "dict", data := .dict #[] }).get? b = some o := fun b o e => Heap.get?_push_of_some _ e
  refine ⟨fresh.typeIs, PySem.F.args_dict_init_2 _ _, ?_⟩
  unfold Builtin.«dict.__init__»
  refine wpAny_bind ?_
  unfold Builtin.Dict.selfAndRest
  refine wpAny_bind (wpAny_notOrdered_dict fresh.typeIs ?_)
  show wpAny _ _ (pure (s.heap.objs.size, [Value.ref l])) _ _ _
  refine wpAny_pure ?_
  show wpAny _ _ (Builtin.Dict.updateFrom "dict.__init__" s.heap.objs.size (.ref l) [] .none) _ _ _
  unfold Builtin.Dict.updateFrom
  refine wpAny_bind (wpAny_typeOf (T := "tuple") ⟨ol, kp0 _ _ hl, hc⟩ ?_)
  rw [if_pos (by first | decide | rfl | simp)]
  refine wpAny_bind (miss_tup (kp0 _ _ hl) hc hdat hd hh fun h1 tk1 kp1 => ?_)
  rw [if_pos (show (none : Option Value).isNone = true from rfl)]
  refine wpAny_bind (wpAny_rule ?_)
  have tup1 : h1.IsTuple l its := ⟨ol, kp1 _ _ (kp0 _ _ hl), hc, n, hdat⟩
  have lt1 : s.heap.objs.size < h1.objs.size := Heap.lt_size (kp1 _ _ (show (s.heap.push { cls := .type "dict", data := .dict #[] }).get? s.heap.objs.size = some { cls := .type "dict", data := .dict #[] } from Heap.get?_push_size _ rfl))
  refine wpAny_bind (wpAny_pyIter_tuple tup1 ?_)
  have kp2 : ∀ b o, h1.get? b = some o → (h1.push { cls := .type "tuple_iterator", data := .fields #[.ref l, .int 0 0] }).get? b = some o := fun b o e => Heap.get?_push_of_some _ e
  have lt0 : l < s.heap.objs.size := Heap.lt_size hl
  have key := updT (prog := prog) (w := w) (A := A.in1) (R := wants (fun r s₂ => r = .none ∧ Q (.ref s.heap.objs.size) s₂) E) (S := s.heap.objs.size) (I := h1.objs.size) (l := l) (its := its) (res := Value.none) hh
    (Nat.ne_of_lt (Nat.lt_trans lt0 lt1)) (Nat.ne_of_lt lt1) (Nat.ne_of_gt lt0) prs 0 [] 0 0
    { s with heap := h1.push { cls := .type "tuple_iterator", data := .fields #[.ref l, .int 0 0] }, toks := tk1 } (by rw [hsz, Nat.zero_add]) (by rw [List.length_nil, Nat.zero_add]; exact few)
    (fun j q e => by
      obtain ⟨b, u, e1, e2, e3⟩ := pairs j q e
      have ltb : b < s.heap.objs.size := e2.lt
      exact ⟨b, u, by rw [Nat.zero_add]; exact e1, Nat.ne_of_lt ltb, Nat.ne_of_lt (Nat.lt_trans ltb lt1), e2.keeps fun c o z => kp2 _ _ (kp1 _ _ (kp0 _ _ z)), e3⟩)
    ⟨_, Heap.get?_push_size _ rfl, rfl, rfl⟩ (tup1.push _) ((fresh.at fun o e => kp1 _ _ e).at fun o e => kp2 _ _ e)
    (fun h' tk hd' kk => ⟨rfl, fin h' tk hd' fun b o e => kk b o (Nat.ne_of_lt (Heap.lt_size e)) (Nat.ne_of_lt (Nat.lt_trans (Heap.lt_size e) lt1)) (kp2 _ _ (kp1 _ _ (kp0 _ _ e)))⟩)
  first
    | exact wpAny_pure ⟨plainId_quiet ud_plain _, key⟩
    | exact wpAny_bind (wpAny_pure (wpAny_pure ⟨plainId_quiet ud_plain _, key⟩))
end
/-! ### tuples whose object is known -/
/-- the object of a tuple made by the text: it has no dict -/
def TupO (o : Obj) : Prop := o.cls = .type "tuple" ∧ o.dict = none ∧ ∃ its n, o.data = .seq its n
theorem SqT.ofF {K : PySem.W.Frag} {H : Hp} {a : Addr} {o : Obj} {vs : List V} (e : H a = some (.frz o (.tup vs))) : SqT K H a vs := .inl (.inr ⟨o, e⟩)
section
variable {X : Cx}
/-- a new tuple lies at the heap's end -/
theorem laidT {pins : List (Addr × Obj)} {σ : L2.St} {H : Hp} {s : Shared} {Q : VK} {vs : List V} {us : List Value} {tk : Nat} (I : Inv X pins σ H s) (r : Vals vs us) (few : vs.length ≤ sizeLine) (q : ∀ p o, H p = none → TupO o → Q (.ref p) (upd H p (.frz o (.tup vs)))) :
    EP X pins σ Q (.ref s.heap.objs.size) { s with heap := s.heap.push { cls := .type "tuple", data := .seq us.toArray }, toks := tk } :=
  ⟨.ref s.heap.objs.size, _, I.laid (t' := tk) (o := .frz { cls := .type "tuple", data := .seq us.toArray } (.tup vs)) (fun b ob z => Heap.get?_push_of_some _ z) (Nat.le_refl _) ⟨Heap.get?_push_size _ rfl, few, us, r, IsTup.new _ _⟩, rfl, q _ _ (I.hok.fresh (Nat.le_refl _)) ⟨rfl, rfl, _, _, rfl⟩⟩
theorem pe_tupF {es : List Expr} {t : TA} {n : Nat} {pos : Pos} (h : PA X es t) : PE X (.Tuple es n pos) (fun σ H Q => t σ H fun xs H1 => xs.length ≤ sizeLine ∧ ∀ p o, H1 p = none → TupO o → Q (.ref p) (upd H1 p (.frz o (.tup xs)))) :=
  ⟨fun pins s σ H Q I hq => wpAny_Tuple_spliced (thn (h.run pos pins s σ H _ I hq) fun us s1 ⟨xs, H1, I1, r, z, q⟩ => ⟨by rw [← r.length]; exact z, laidT I1 r z q⟩)⟩
theorem op_catF : OpR X (binaryOp .Add) (fun x y H Q => ∃ a b xs ys, x = .ref a ∧ y = .ref b ∧ SqT X.K H a xs ∧ SqT X.K H b ys ∧ xs.length + ys.length ≤ sizeLine ∧
    (xs = [] → Q (.ref b) H) ∧ (xs ≠ [] → ys = [] → Q (.ref a) H) ∧ (xs ≠ [] → ys ≠ [] → ∀ p o, H p = none → TupO o → Q (.ref p) (upd H p (.frz o (.tup (xs ++ ys)))))) := by
  intro pins s σ H x y v u Q I rx ry h
  obtain ⟨a, b, xs, ys, rfl, rfl, ha, hb, hz, q0, q1, q2⟩ := h
  cases rx; cases ry
  obtain ⟨i1, r1, p1, z1⟩ := I.tuple ha
  obtain ⟨i2, r2, p2, z2⟩ := I.tuple hb
  by_cases hx : xs = []
  · subst hx
    cases r1
    exact cat_tup0 p1 p2 ⟨.ref b, H, I, rfl, q0 rfl⟩
  · exact HT.cat_tup p1 p2 (fun z => hx (r1.nil_iff.mp z)) (fun z => ⟨.ref a, H, I, rfl, q1 hx (r2.nil_iff.mp z)⟩) (fun z => laidT I (r1.append r2) (by rw [List.length_append]; exact hz) (q2 hx fun w => z (r2.nil_iff.mpr w))) (by rw [← r1.length, ← r2.length]; exact hz)
theorem sl_tupF : SlR X (fun x lo hi H Q => ∃ a xs, x = .ref a ∧ SqT X.K H a xs ∧ (HT.sIx xs.length 0 lo = 0 ∧ HT.sIx xs.length xs.length hi = xs.length → Q (.ref a) H) ∧
    (¬ (HT.sIx xs.length 0 lo = 0 ∧ HT.sIx xs.length xs.length hi = xs.length) → ∀ p o, H p = none → TupO o → Q (.ref p) (upd H p (.frz o (.tup (cutV xs lo hi)))))) := by
  intro pins s σ H x v vl vu lo hi sl Q I rx hs pl pu h
  obtain ⟨a, xs, rfl, hx, q1, q2⟩ := h
  cases rx
  obtain ⟨its, r, ht, hz⟩ := I.tuple hx
  have size : its.toArray.size = xs.length := by rw [List.size_toArray, r.length]
  refine ⟨"tuple", _, PyProof.Rows.slot_tuple_getitem.lookup, ht.typeIs, ?_⟩
  by_cases hw : HT.sIx xs.length 0 lo = 0 ∧ HT.sIx xs.length xs.length hi = xs.length
  · exact getItem_tuple_whole ht hs pl pu (by rw [size]; exact hw) ⟨.ref a, H, I, rfl, q1 hw⟩
  · refine HT.getItem_tuple_cut ht hs pl pu (by rw [size]; exact hw) ?_ (by rw [size]; exact hz)
    rw [size]
    exact laidT (tk := s.toks) I ((r.drop (HT.sIx xs.length 0 lo)).take (HT.sIx xs.length xs.length hi - HT.sIx xs.length 0 lo)) (Nat.le_trans (cutV_length xs lo hi) hz) (q2 hw)
theorem call_tupleF : CallR X (.type "tuple") (fun xs H Q => ∃ p ys, xs = [.ref p] ∧ ((SqL X.K H p ys ∧ ∀ l o, H l = none → TupO o → Q (.ref l) (upd H l (.frz o (.tup ys)))) ∨ (SqT X.K H p ys ∧ Q (.ref p) H))) := by
  intro pins s σ H xs us Q I r h
  obtain ⟨p, ys, rfl, h⟩ := h
  obtain ⟨u, rfl, rx⟩ := vals1 r
  cases rx
  rcases h with ⟨hq, q⟩ | ⟨hq, q⟩
  · obtain ⟨its, r', pl, hz⟩ := I.list hq
    have len := r'.length
    refine call_tuple_list pl.isList (fun h' kp => ?_) (by rw [List.size_toArray]; omega)
    have I1 : Inv X pins σ H { s with heap := h' } := I.kept (t' := s.toks) kp
    exact laidT (tk := s.toks) I1 r' hz q
  · obtain ⟨its, r', pl, hz⟩ := I.tuple hq
    exact call_tuple_same pl ⟨.ref p, H, I, rfl, q⟩
theorem call_dictT (hcalm : X.calm = true) : CallR X (.type "dict") (fun xs H Q => ∃ (a : Addr) (o : Obj) (ps : List Addr) (kvs : List (Key × V)), xs = [.ref a] ∧ H a = some (.frz o (.tup (ps.map V.ref))) ∧ TupO o ∧ Paired (fun p kv => SqT X.K H p [kV kv.1, kv.2]) ps kvs ∧
    ∀ p, H p = none → Q (.ref p) (upd H p (.dK (mergeK [] kvs)))) := by
  intro pins s σ H xs us Q I r h
  obtain ⟨a, o, ps, kvs, rfl, hq, pt, hp, q⟩ := h
  obtain ⟨u, rfl, rx⟩ := vals1 r
  cases rx
  obtain ⟨hc, hd, its0, n, hdat⟩ := pt
  obtain ⟨its, rv, pl, hz⟩ := I.tuple (SqT.ofF hq)
  obtain ⟨ho, _⟩ := I.hok a _ hq
  obtain ⟨o', ho', hc', n', hdat'⟩ := pl
  rw [ho] at ho'
  cases ho'
  rw [hdat] at hdat'
  cases hdat'
  obtain rfl := refs_at rv
  rw [List.length_map] at hz
  obtain ⟨prs, rel, len, hpr⟩ := pairs_of I hp
  refine dict_of_tup (prs := prs) (I.ok.hd hcalm) ho hc hd hdat (by simp [len]) (by rw [len]; exact hz) (fun j q' e => ?_) fun h' tk hd' k => ?_
  · obtain ⟨b, u, e1, e2, e3⟩ := hpr j q' e
    exact ⟨b, u, by simp [e1], e2, e3⟩
  · have big : (s.heap.objs.size == sysModules) = false := beq_eq_false_iff_ne.mpr (Nat.ne_of_gt I.big)
    have hlen : (mergeK [] kvs).length ≤ sizeLine := Nat.le_trans (length_mergeK kvs []) (by rw [List.length_nil, Nat.zero_add, rel.length, len]; exact hz)
    exact ⟨.ref s.heap.objs.size, upd H s.heap.objs.size (.dK (mergeK [] kvs)), I.laid (t' := tk) k (Nat.le_refl _) (show ObjOk X.prog X.w _ _ _ (.dK (mergeK [] kvs)) from ⟨hlen, big, merged [] prs, KV.merge rel .nil, hd'⟩), rfl, q _ (I.hok.fresh (Nat.le_refl _))⟩
end
end Mj
/-! Mj1: pure data, the small heap, how both lie in the abstract heap. -/
namespace Mj
open PySem PySem.Spec PyProof.Rows L2

/-- pure data: tuples and lists that nobody changes are trees; ref n: the n-th object that may change; fn k: the k-th def; scr: the script itself -/
inductive D where
  | non | bl (b : Bool) | int (i : Int) | str (x : Str) | tup (xs : List D) | lst (xs : List D) | ptup (xs : List D) | ref (n : Nat) | fn (k : Nat) | ty (t : String) | scr (ns : List Int)

/-- where the defs stand, and the written part -/
structure FA where
  ad : Nat → Addr
  K : PySem.W.Frag
  cv : Nat → Value
instance : CoeFun FA (fun _ => Nat → Addr) := ⟨FA.ad⟩
/-- what a frame knows beside: tables of code objects, slots that stay, objects that stay, values that stay -/
structure FB extends FA where
  T : List (Addr × Str)
  fix : List (Nat × V)
  fixH : List (Addr × HO)
  kn : List (D × V)
instance : CoeOut FB FA := ⟨FB.toFA⟩
instance : CoeFun FB (fun _ => Nat → Addr) := ⟨fun f => f.ad⟩
def NoTbl (o : HO) : Prop := ∀ ps, o ≠ .tbl ps
/-- a list or a dict -/
def Pl (o : HO) : Prop := (∃ xs, o = .lst xs) ∨ ∃ kvs, o = .dK kvs
theorem Pl.noTbl {o : HO} (h : Pl o) : NoTbl o := fun ps z => by
  rcases h with ⟨_, h⟩ | ⟨_, h⟩ <;> rw [h] at z <;> cases z
theorem Pl.noExt {o : HO} (h : Pl o) (φ : Heap → Prop) : o ≠ .ext φ := fun z => by
  rcases h with ⟨_, h⟩ | ⟨_, h⟩ <;> rw [h] at z <;> cases z
theorem tabs_upd {T : List (Addr × Str)} {H : Hp} {a : Addr} {o : HO} (t : LamX.Tabs T H) (h : ∀ u, H a = some u → Pl u) : LamX.Tabs T (upd H a o) := fun p hp => by
  obtain ⟨ps, h1, h2, h3⟩ := t p hp
  have na : ∀ {b : Addr} {u : HO}, H b = some u → ¬ Pl u → b ≠ a := fun {b u} e n z => n (h u (by rw [← z]; exact e))
  refine ⟨ps, by rw [upd_ne (na h1 fun z => z.noTbl ps rfl)]; exact h1, h2, fun pos cv hc => ?_⟩
  obtain ⟨c, e1, e2⟩ := h3 pos cv hc
  exact ⟨c, e1, by rw [upd_ne (na e2 fun z => z.noExt _ rfl)]; exact e2⟩
/-- an exception: its class by number, its attributes -/
structure XV where
  k : Nat
  fs : List (Str × D)
/-- an object that may change -/
inductive MO where
  | lst (xs : List D) | dict (kvs : List (Key × D))
abbrev MH := List MO
abbrev Rho := List (Option D)

inductive Res (α : Type) where
  | ok (a : α) (M : MH) | bad
def Res.bind {α β : Type} (r : Res α) (f : α → MH → Res β) : Res β := match r with
  | .ok a M => f a M
  | .bad => .bad
inductive Rx (α : Type) where
  | ok (a : α) (M : MH) | exc (x : XV) (M : MH) | bad
def Rx.bind {α β : Type} (r : Rx α) (f : α → MH → Rx β) : Rx β := match r with
  | .ok a M => f a M
  | .exc x M => .exc x M
  | .bad => .bad
def up {α : Type} : Res α → Rx α
  | .ok a M => .ok a M
  | .bad => .bad
theorem Res.bind_ok {α β : Type} {r : Res α} {f : α → MH → Res β} {b : β} {M : MH} (h : r.bind f = .ok b M) : ∃ a M1, r = .ok a M1 ∧ f a M1 = .ok b M := by
  cases r with
  | ok a M1 => exact ⟨a, M1, rfl, h⟩
  | bad => cases h

section
variable (fa : FA) (K : PySem.W.Frag)
mutual
inductive Rep (β res : List Addr) (H : Hp) : D → V → Prop where
  | non : Rep β res H .non .non
  | bl (b : Bool) : Rep β res H (.bl b) (.bl b)
  | int (i : Int) : Rep β res H (.int i) (.int i)
  | str (x : Str) : Rep β res H (.str x) (.str x)
  | ty (t : String) : Rep β res H (.ty t) (.ty t)
  | fn (k : Nat) : Rep β res H (.fn k) (.ref (fa k))
  | ref {n : Nat} {a : Addr} : β[n]? = some a → Rep β res H (.ref n) (.ref a)
  | tup {a : Addr} {o : Obj} {ds : List D} {vs : List V} : H a = some (.frz o (.tup vs)) → TupO o → a ∉ β → a ∉ res → Reps β res H ds vs → Rep β res H (.tup ds) (.ref a)
  | ptup {a : Addr} {ds : List D} {vs : List V} : H a = some (.tup vs) → a ∉ β → a ∉ res → Reps β res H ds vs → Rep β res H (.ptup ds) (.ref a)
  | lst {a : Addr} {ds : List D} {vs : List V} : H a = some (.lst vs) → a ∉ β → a ∉ res → Reps β res H ds vs → Rep β res H (.lst ds) (.ref a)
  | scr {a : Addr} {o : Obj} {ns : List Int} : H a = some (.frz o (.lst (ns.map V.int))) → a ∉ β → a ∉ res → Rep β res H (.scr ns) (.ref a)
  | scrK {a : Addr} {ns : List Int} : SqL fa.K (fun _ => none) a (ns.map V.int) → Rep β res H (.scr ns) (.ref a)
inductive Reps (β res : List Addr) (H : Hp) : List D → List V → Prop where
  | nil : Reps β res H [] []
  | cons {d : D} {v : V} {ds : List D} {vs : List V} : Rep β res H d v → Reps β res H ds vs → Reps β res H (d :: ds) (v :: vs)
end
end

/-- what may have happened: fr the list of addresses (beyond β) that may have changed too -/
structure Step (mv β : List Addr) (H : Hp) (β' : List Addr) (H' : Hp) : Prop where
  pre : ∃ γ, β' = β ++ γ ∧ ∀ a ∈ γ, H a = none
  keep : ∀ a o, H a = some o → a ∉ β → a ∉ mv → NoTbl o → H' a = some o
  dom : ∀ a, H a ≠ none → H' a ≠ none

theorem Step.refl {mv β : List Addr} {H : Hp} : Step mv β H β H := ⟨⟨[], by simp, fun _ h => by cases h⟩, fun _ _ e _ _ _ => e, fun _ h => h⟩
theorem Step.trans {mv β β1 β2 : List Addr} {H H1 H2 : Hp} (a : Step mv β H β1 H1) (b : Step mv β1 H1 β2 H2) : Step mv β H β2 H2 := by
  obtain ⟨⟨γ, rfl, f1⟩, k1, d1⟩ := a
  obtain ⟨⟨γ2, rfl, f2⟩, k2, d2⟩ := b
  refine ⟨⟨γ ++ γ2, by simp, fun x hx => ?_⟩, fun x o e nb nm nt => ?_, fun x h => d2 x (d1 x h)⟩
  · rcases List.mem_append.mp hx with h | h
    · exact f1 x h
    · have := f2 x h
      cases q : H x with
      | none => rfl
      | some o => exact absurd this (d1 x (by rw [q]; simp))
  · refine k2 x o (k1 x o e nb nm nt) (fun h => ?_) nm nt
    rcases List.mem_append.mp h with h | h
    · exact nb h
    · rw [f1 x h] at e; cases e
theorem Step.more {mv β β' : List Addr} {H H' : Hp} (a : Step [] β H β' H') : Step mv β H β' H' := ⟨a.pre, fun x o e nb _ nt => a.keep x o e nb (by simp) nt, a.dom⟩
theorem Step.notin {mv β β' : List Addr} {H H' : Hp} (s : Step mv β H β' H') {a : Addr} (h : H a ≠ none) (nb : a ∉ β) : a ∉ β' := by
  obtain ⟨γ, rfl, f⟩ := s.pre
  intro q
  rcases List.mem_append.mp q with q | q
  · exact nb q
  · exact h (f a q)

section
variable {fa : FA} {K : PySem.W.Frag}
mutual
theorem Rep.step {mv β res β' : List Addr} {H H' : Hp} {d : D} {v : V} : Rep fa β res H d v → Step mv β H β' H' → (∀ a ∈ mv, a ∈ res) → Rep fa β' res H' d v
  | .non, _, _ => .non
  | .bl b, _, _ => .bl b
  | .int i, _, _ => .int i
  | .str x, _, _ => .str x
  | .ty t, _, _ => .ty t
  | .fn k, _, _ => .fn k
  | .ref e, s, _ => by
    obtain ⟨γ, rfl, _⟩ := s.pre
    refine .ref ?_
    rw [List.getElem?_append_left (List.getElem?_eq_some_iff.mp e).1]
    exact e
  | .tup e pt nb nr r, s, hm => .tup (s.keep _ _ e nb (fun q => nr (hm _ q)) (fun _ z => nomatch z)) pt (s.notin (by rw [e]; simp) nb) nr (Reps.step r s hm)
  | .ptup e nb nr r, s, hm => .ptup (s.keep _ _ e nb (fun q => nr (hm _ q)) (fun _ z => nomatch z)) (s.notin (by rw [e]; simp) nb) nr (Reps.step r s hm)
  | .lst e nb nr r, s, hm => .lst (s.keep _ _ e nb (fun q => nr (hm _ q)) (fun _ z => nomatch z)) (s.notin (by rw [e]; simp) nb) nr (Reps.step r s hm)
  | .scr e nb nr, s, hm => .scr (s.keep _ _ e nb (fun q => nr (hm _ q)) (fun _ z => nomatch z)) (s.notin (by rw [e]; simp) nb) nr
  | .scrK h, _, _ => .scrK h
theorem Reps.step {mv β res β' : List Addr} {H H' : Hp} {ds : List D} {vs : List V} : Reps fa β res H ds vs → Step mv β H β' H' → (∀ a ∈ mv, a ∈ res) → Reps fa β' res H' ds vs
  | .nil, _, _ => .nil
  | .cons r q, s, hm => .cons (Rep.step r s hm) (Reps.step q s hm)
end
mutual
/-- a new reserved address -/
theorem Rep.reserve {β res : List Addr} {H : Hp} {p : Addr} (hp : H p = none) {d : D} {v : V} : Rep fa β res H d v → Rep fa β (p :: res) H d v
  | .non => .non
  | .bl b => .bl b
  | .int i => .int i
  | .str x => .str x
  | .ty t => .ty t
  | .fn k => .fn k
  | .ref e => .ref e
  | .tup e pt nb nr r => .tup e pt nb (fun q => by
      rcases List.mem_cons.mp q with q | q
      · rw [q, hp] at e; cases e
      · exact nr q) (Reps.reserve hp r)
  | .ptup e nb nr r => .ptup e nb (fun q => by
      rcases List.mem_cons.mp q with q | q
      · rw [q, hp] at e; cases e
      · exact nr q) (Reps.reserve hp r)
  | .lst e nb nr r => .lst e nb (fun q => by
      rcases List.mem_cons.mp q with q | q
      · rw [q, hp] at e; cases e
      · exact nr q) (Reps.reserve hp r)
  | .scr e nb nr => .scr e nb (fun q => by
      rcases List.mem_cons.mp q with q | q
      · rw [q, hp] at e; cases e
      · exact nr q)
  | .scrK h => .scrK h
theorem Reps.reserve {β res : List Addr} {H : Hp} {p : Addr} (hp : H p = none) {ds : List D} {vs : List V} : Reps fa β res H ds vs → Reps fa β (p :: res) H ds vs
  | .nil => .nil
  | .cons r q => .cons (Rep.reserve hp r) (Reps.reserve hp q)
end
mutual
theorem Rep.unreserve {β res : List Addr} {H : Hp} {p : Addr} {d : D} {v : V} : Rep fa β (p :: res) H d v → Rep fa β res H d v
  | .non => .non
  | .bl b => .bl b
  | .int i => .int i
  | .str x => .str x
  | .ty t => .ty t
  | .fn k => .fn k
  | .ref e => .ref e
  | .tup e pt nb nr r => .tup e pt nb (fun q => nr (List.mem_cons_of_mem _ q)) (Reps.unreserve r)
  | .ptup e nb nr r => .ptup e nb (fun q => nr (List.mem_cons_of_mem _ q)) (Reps.unreserve r)
  | .lst e nb nr r => .lst e nb (fun q => nr (List.mem_cons_of_mem _ q)) (Reps.unreserve r)
  | .scr e nb nr => .scr e nb (fun q => nr (List.mem_cons_of_mem _ q))
  | .scrK h => .scrK h
theorem Reps.unreserve {β res : List Addr} {H : Hp} {p : Addr} {ds : List D} {vs : List V} : Reps fa β (p :: res) H ds vs → Reps fa β res H ds vs
  | .nil => .nil
  | .cons r q => .cons (Rep.unreserve r) (Reps.unreserve q)
end
theorem Reps.length {β res : List Addr} {H : Hp} : ∀ {ds : List D} {vs : List V}, Reps fa β res H ds vs → ds.length = vs.length
  | _, _, .nil => rfl
  | _, _, .cons _ q => by simp [q.length]
theorem Reps.get {β res : List Addr} {H : Hp} : ∀ {ds : List D} {vs : List V} {i : Nat} {d : D}, Reps fa β res H ds vs → ds[i]? = some d → ∃ v, vs[i]? = some v ∧ Rep fa β res H d v
  | _, _, _, _, .nil, h => by simp at h
  | _, _, 0, _, .cons r _, h => by simp at h; subst h; exact ⟨_, rfl, r⟩
  | _, _, i + 1, d, .cons _ q, h => by
    obtain ⟨v, h1, h2⟩ := Reps.get (i := i) (d := d) q (by simpa using h)
    exact ⟨v, by simpa using h1, h2⟩
theorem Reps.getV {β res : List Addr} {H : Hp} : ∀ {ds : List D} {vs : List V} {i : Nat} {v : V}, Reps fa β res H ds vs → vs[i]? = some v → ∃ d, ds[i]? = some d ∧ Rep fa β res H d v
  | _, _, _, _, .nil, h => by simp at h
  | _, _, 0, _, .cons r _, h => by simp at h; subst h; exact ⟨_, rfl, r⟩
  | _, _, i + 1, v, .cons _ q, h => by
    obtain ⟨d, h1, h2⟩ := Reps.getV (i := i) (v := v) q (by simpa using h)
    exact ⟨d, by simpa using h1, h2⟩
theorem Reps.append {β res : List Addr} {H : Hp} : ∀ {ds es : List D} {vs ws : List V}, Reps fa β res H ds vs → Reps fa β res H es ws → Reps fa β res H (ds ++ es) (vs ++ ws)
  | _, _, _, _, .nil, s => s
  | _, _, _, _, .cons r t, s => .cons r (Reps.append t s)
theorem Reps.take {β res : List Addr} {H : Hp} : ∀ {ds : List D} {vs : List V} (n : Nat), Reps fa β res H ds vs → Reps fa β res H (ds.take n) (vs.take n)
  | _, _, 0, _ => by simp; exact .nil
  | _, _, _ + 1, .nil => by simp; exact .nil
  | _, _, n + 1, .cons r t => .cons r (Reps.take n t)
theorem Reps.drop {β res : List Addr} {H : Hp} : ∀ {ds : List D} {vs : List V} (n : Nat), Reps fa β res H ds vs → Reps fa β res H (ds.drop n) (vs.drop n)
  | _, _, 0, r => r
  | _, _, _ + 1, .nil => by simp; exact .nil
  | _, _, n + 1, .cons _ t => Reps.drop n t
theorem Reps.reverse {β res : List Addr} {H : Hp} : ∀ {ds : List D} {vs : List V}, Reps fa β res H ds vs → Reps fa β res H ds.reverse vs.reverse
  | _, _, .nil => .nil
  | _, _, .cons r t => by
    rw [List.reverse_cons, List.reverse_cons]
    exact (Reps.reverse t).append (.cons r .nil)
theorem Reps.set {β res : List Addr} {H : Hp} {d : D} {v : V} (r : Rep fa β res H d v) : ∀ {ds : List D} {vs : List V} (i : Nat), Reps fa β res H ds vs → Reps fa β res H (ds.set i d) (vs.set i v)
  | _, _, _, .nil => .nil
  | _, _, 0, .cons _ t => .cons r t
  | _, _, i + 1, .cons q t => .cons q (Reps.set r i t)
theorem Reps.eraseIdx {β res : List Addr} {H : Hp} : ∀ {ds : List D} {vs : List V} (i : Nat), Reps fa β res H ds vs → Reps fa β res H (ds.eraseIdx i) (vs.eraseIdx i)
  | _, _, _, .nil => .nil
  | _, _, 0, .cons _ t => t
  | _, _, i + 1, .cons q t => .cons q (Reps.eraseIdx i t)
theorem Reps.dropLast {β res : List Addr} {H : Hp} : ∀ {ds : List D} {vs : List V}, Reps fa β res H ds vs → Reps fa β res H ds.dropLast vs.dropLast
  | _, _, .nil => .nil
  | _, _, .cons q .nil => .nil
  | _, _, .cons q (.cons r t) => .cons q (Reps.dropLast (.cons r t))
end

section
variable (fa : FA)
inductive RepKV (β res : List Addr) (H : Hp) : List (Key × D) → List (Key × V) → Prop where
  | nil : RepKV β res H [] []
  | cons {k : Key} {d : D} {v : V} {ds : List (Key × D)} {vs : List (Key × V)} : Rep fa β res H d v → RepKV β res H ds vs → RepKV β res H ((k, d) :: ds) ((k, v) :: vs)
inductive RepO (β res : List Addr) (H : Hp) : MO → HO → Prop where
  | lst {ds : List D} {vs : List V} : Reps fa β res H ds vs → RepO β res H (.lst ds) (.lst vs)
  | dict {ds : List (Key × D)} {vs : List (Key × V)} : RepKV fa β res H ds vs → RepO β res H (.dict ds) (.dK vs)
theorem RepO.pl {β res : List Addr} {H : Hp} {o : MO} {ho : HO} (r : RepO fa β res H o ho) : Pl ho := by
  cases r with
  | lst _ => exact .inl ⟨_, rfl⟩
  | dict _ => exact .inr ⟨_, rfl⟩
variable (fa : FB)
structure Sim (β res : List Addr) (M : MH) (H : Hp) : Prop where
  len : β.length = M.length
  nd : β.Nodup
  nr : ∀ a ∈ β, a ∉ res
  rt : ∀ a ∈ res, H a ≠ none
  rp : ∀ a ∈ res, ∀ o, H a = some o → Pl o
  tabs : LamX.Tabs fa.T H
  fx : ∀ p ∈ fa.fixH, H p.1 = some p.2 ∧ p.1 ∉ β ∧ p.1 ∉ res ∧ NoTbl p.2
  kn : ∀ p ∈ fa.kn, Rep fa β res H p.1 p.2
  at_ : ∀ (n : Nat) (a : Addr) (o : MO), β[n]? = some a → M[n]? = some o → ∃ ho, H a = some ho ∧ RepO fa β res H o ho
/-- the frame's slots -/
structure RepS (β res : List Addr) (H : Hp) (ρ : Rho) (σ : L2.St) : Prop where
  len : ρ.length = σ.length
  fx : ∀ p ∈ fa.fix, σ[p.1]? = some (some p.2)
  at_ : ∀ (i : Nat) (d : D), ρ[i]? = some (some d) → ∃ v, σ[i]? = some (some v) ∧ Rep fa β res H d v
end
section
variable {fa : FA}
theorem RepKV.step {mv β res β' : List Addr} {H H' : Hp} : ∀ {ds : List (Key × D)} {vs : List (Key × V)}, RepKV fa β res H ds vs → Step mv β H β' H' → (∀ a ∈ mv, a ∈ res) → RepKV fa β' res H' ds vs
  | _, _, .nil, _, _ => .nil
  | _, _, .cons r q, s, hm => .cons (r.step s hm) (RepKV.step q s hm)
theorem RepO.step {mv β res β' : List Addr} {H H' : Hp} {o : MO} {ho : HO} (r : RepO fa β res H o ho) (s : Step mv β H β' H') (hm : ∀ a ∈ mv, a ∈ res) : RepO fa β' res H' o ho := by
  cases r with
  | lst r => exact .lst (r.step s hm)
  | dict r => exact .dict (r.step s hm)
theorem RepKV.reserve {β res : List Addr} {H : Hp} {p : Addr} (hp : H p = none) : ∀ {ds : List (Key × D)} {vs : List (Key × V)}, RepKV fa β res H ds vs → RepKV fa β (p :: res) H ds vs
  | _, _, .nil => .nil
  | _, _, .cons r q => .cons (r.reserve hp) (RepKV.reserve hp q)
theorem RepKV.unreserve {β res : List Addr} {H : Hp} {p : Addr} : ∀ {ds : List (Key × D)} {vs : List (Key × V)}, RepKV fa β (p :: res) H ds vs → RepKV fa β res H ds vs
  | _, _, .nil => .nil
  | _, _, .cons r q => .cons r.unreserve (RepKV.unreserve q)
end
section
variable {fa : FB}
theorem RepS.step {mv β res β' : List Addr} {H H' : Hp} {ρ : Rho} {σ : L2.St} (r : RepS fa β res H ρ σ) (s : Step mv β H β' H') (hm : ∀ a ∈ mv, a ∈ res) : RepS fa β' res H' ρ σ :=
  ⟨r.len, r.fx, fun i d e => let ⟨v, h1, h2⟩ := r.at_ i d e; ⟨v, h1, h2.step s hm⟩⟩
theorem RepS.set {β res : List Addr} {H : Hp} {ρ : Rho} {σ : L2.St} {d : D} {v : V} (r : RepS fa β res H ρ σ) (i : Nat) (q : Rep fa β res H d v) (hi : i ∉ fa.fix.map Prod.fst) : RepS fa β res H (ρ.set i (some d)) (σ.set i (some v)) := by
  refine ⟨by simp [r.len], fun p hp => ?_, fun j e h => ?_⟩
  · rw [List.getElem?_set_ne (fun z => hi (by rw [z]; exact List.mem_map_of_mem hp))]
    exact r.fx p hp
  by_cases hj : i = j
  · subst hj
    by_cases hl : i < ρ.length
    · rw [List.getElem?_set_self hl] at h
      cases h
      exact ⟨v, by rw [List.getElem?_set_self (by rw [← r.len]; exact hl)], q⟩
    · rw [List.getElem?_eq_none (by simp; omega)] at h; cases h
  · rw [List.getElem?_set_ne hj] at h
    obtain ⟨w, h1, h2⟩ := r.at_ j e h
    exact ⟨w, by rw [List.getElem?_set_ne hj]; exact h1, h2⟩
theorem Sim.there {β res : List Addr} {M : MH} {H : Hp} (s : Sim fa β res M H) {a : Addr} (h : a ∈ β) : H a ≠ none := by
  obtain ⟨n, hn, e⟩ := List.getElem_of_mem h
  obtain ⟨ho, e1, _⟩ := s.at_ n a (M[n]'(by rw [← s.len]; exact hn)) (by rw [← e]; exact List.getElem?_eq_getElem hn) (List.getElem?_eq_getElem _)
  rw [e1]; simp
theorem Sim.fresh {β res : List Addr} {M : MH} {H : Hp} (s : Sim fa β res M H) {p : Addr} (h : H p = none) : p ∉ β := fun q => s.there q h
theorem Sim.get {β res : List Addr} {M : MH} {H : Hp} (s : Sim fa β res M H) {n : Nat} {o : MO} (h : M[n]? = some o) : ∃ a ho, β[n]? = some a ∧ H a = some ho ∧ RepO fa β res H o ho := by
  have hn : n < β.length := by rw [s.len]; exact (List.getElem?_eq_some_iff.mp h).1
  obtain ⟨ho, e1, e2⟩ := s.at_ n β[n] o (List.getElem?_eq_getElem hn) h
  exact ⟨β[n], ho, List.getElem?_eq_getElem hn, e1, e2⟩
theorem Sim.plB {β res : List Addr} {M : MH} {H : Hp} (s : Sim fa β res M H) {a : Addr} (h : a ∈ β) : ∀ u, H a = some u → Pl u := by
  intro u hu
  obtain ⟨n, hn, e⟩ := List.getElem_of_mem h
  obtain ⟨ho, e1, e2⟩ := s.at_ n a (M[n]'(by rw [← s.len]; exact hn)) (by rw [← e]; exact List.getElem?_eq_getElem hn) (List.getElem?_eq_getElem _)
  rw [e1] at hu
  cases hu
  exact e2.pl
theorem ext_new {H : Hp} {p : Addr} {o : HO} (hp : H p = none) : ∀ b u, H b = some u → upd H p o b = some u := fun b u e => by rw [upd_ne (ne_of_none e hp)]; exact e
theorem step_new {mv β : List Addr} {H : Hp} {p : Addr} {o : HO} (hp : H p = none) : Step mv β H β (upd H p o) :=
  ⟨⟨[], by simp, fun _ h => by cases h⟩, fun a u e _ _ _ => by rw [upd_ne (ne_of_none e hp)]; exact e, fun a h => by
    by_cases q : a = p
    · subst q; exact absurd hp h
    · rw [upd_ne q]; exact h⟩
/-- a new object that nobody changes -/
theorem Sim.new {β res : List Addr} {M : MH} {H : Hp} {p : Addr} {o : HO} (s : Sim fa β res M H) (hp : H p = none) : Sim fa β res M (upd H p o) :=
  ⟨s.len, s.nd, s.nr, fun a h => (step_new (mv := []) (β := β) hp).dom a (s.rt a h), fun a h u e => s.rp a h u (by rw [upd_ne (fun z => s.rt a h (by rw [z]; exact hp))] at e; exact e), s.tabs.ext (ext_new hp), fun q hq => ⟨ext_new hp _ _ (s.fx q hq).1, (s.fx q hq).2⟩, fun q hq => (s.kn q hq).step (mv := []) (step_new hp) (by simp), fun n a mo e1 e2 => by
    obtain ⟨ho, h1, h2⟩ := s.at_ n a mo e1 e2
    exact ⟨ho, by rw [upd_ne (ne_of_none h1 hp)]; exact h1, h2.step (mv := []) (step_new hp) (by simp)⟩⟩
/-- a new object that may change -/
theorem step_newM {mv β : List Addr} {H : Hp} {p : Addr} {o : HO} (hp : H p = none) : Step mv β H (β ++ [p]) (upd H p o) :=
  ⟨⟨[p], rfl, fun a h => by rw [List.mem_singleton.mp h]; exact hp⟩, (step_new (mv := mv) (β := β) hp).keep, (step_new (mv := mv) (β := β) hp).dom⟩
theorem Sim.newM {β res : List Addr} {M : MH} {H : Hp} {p : Addr} {o : MO} {ho : HO} (s : Sim fa β res M H) (hp : H p = none) (r : RepO fa β res H o ho) : Sim fa (β ++ [p]) res (M ++ [o]) (upd H p ho) := by
  refine ⟨by simp [s.len], ?_, fun a h => ?_, fun a h => (step_new (mv := []) (β := β) hp).dom a (s.rt a h), fun a h u e => s.rp a h u (by rw [upd_ne (fun z => s.rt a h (by rw [z]; exact hp))] at e; exact e), s.tabs.ext (ext_new hp), fun q hq => ⟨ext_new hp _ _ (s.fx q hq).1, fun z => ?_, (s.fx q hq).2.2⟩, fun q hq => (s.kn q hq).step (mv := []) (step_newM hp) (by simp), fun n a mo e1 e2 => ?_⟩
  · rw [List.nodup_append]
    exact ⟨s.nd, by simp, fun a h b h' q => by rw [List.mem_singleton.mp h'] at q; subst q; exact s.fresh hp h⟩
  · rcases List.mem_append.mp h with h | h
    · exact s.nr a h
    · rw [List.mem_singleton.mp h]; exact fun q => s.rt p q hp
  · rcases List.mem_append.mp z with z | z
    · exact (s.fx q hq).2.1 z
    · have := (s.fx q hq).1
      rw [List.mem_singleton.mp z, hp] at this
      cases this
  · by_cases hn : n < β.length
    · rw [List.getElem?_append_left hn] at e1
      rw [List.getElem?_append_left (by rw [← s.len]; exact hn)] at e2
      obtain ⟨ho', h1, h2⟩ := s.at_ n a mo e1 e2
      exact ⟨ho', by rw [upd_ne (ne_of_none h1 hp)]; exact h1, h2.step (mv := []) (step_newM hp) (by simp)⟩
    · have en : n = β.length := by
        have := (List.getElem?_eq_some_iff.mp e1).1
        simp at this
        omega
      subst en
      rw [List.getElem?_append_right (Nat.le_refl _)] at e1
      rw [s.len, List.getElem?_append_right (Nat.le_refl _)] at e2
      simp at e1 e2
      subst e1 e2
      exact ⟨ho, upd_same, r.step (mv := []) (step_newM hp) (by simp)⟩
theorem step_write {mv β : List Addr} {H : Hp} {a : Addr} {o : HO} (h : a ∈ β) : Step mv β H β (upd H a o) :=
  ⟨⟨[], by simp, fun _ h => by cases h⟩, fun b u e nb _ _ => by rw [upd_ne (fun q => nb (by rw [q]; exact h))]; exact e, fun b hb => by
    by_cases q : b = a
    · subst q; rw [upd_same]; simp
    · rw [upd_ne q]; exact hb⟩
/-- an object changed -/
theorem Sim.write {β res : List Addr} {M : MH} {H : Hp} {n : Nat} {a : Addr} {o : MO} {ho : HO} (s : Sim fa β res M H) (e : β[n]? = some a) (r : RepO fa β res H o ho) : Sim fa β res (M.set n o) (upd H a ho) := by
  have hm : a ∈ β := List.mem_of_getElem? e
  refine ⟨by simp [s.len], s.nd, s.nr, fun c h => (step_write (mv := []) hm).dom c (s.rt c h), fun c h u e => s.rp c h u (by rw [upd_ne (show c ≠ a from fun z => s.nr a hm (by rw [← z]; exact h))] at e; exact e), tabs_upd s.tabs (s.plB hm), fun q hq => ⟨?_, (s.fx q hq).2⟩, fun q hq => (s.kn q hq).step (mv := []) (step_write hm) (by simp), fun m b mo e1 e2 => ?_⟩
  · rw [upd_ne (fun z => (s.fx q hq).2.1 (by rw [z]; exact hm))]
    exact (s.fx q hq).1
  by_cases q : n = m
  · subst q
    rw [e] at e1; cases e1
    have hl : n < M.length := by rw [← s.len]; exact (List.getElem?_eq_some_iff.mp e).1
    rw [List.getElem?_set_self hl] at e2
    cases e2
    exact ⟨ho, upd_same, r.step (mv := []) (step_write hm) (by simp)⟩
  · rw [List.getElem?_set_ne q] at e2
    obtain ⟨ho', h1, h2⟩ := s.at_ m b mo e1 e2
    have hne : b ≠ a := fun z => by
      subst z
      obtain ⟨l1, q1⟩ := List.getElem?_eq_some_iff.mp e
      obtain ⟨l2, q2⟩ := List.getElem?_eq_some_iff.mp e1
      exact q ((List.getElem_inj s.nd).mp (q1.trans q2.symm))
    exact ⟨ho', by rw [upd_ne hne]; exact h1, h2.step (mv := []) (step_write hm) (by simp)⟩
/-- a reserved (or any tracked, not counted) address changed -/
theorem step_mv {β : List Addr} {H : Hp} {p : Addr} {o : HO} : Step [p] β H β (upd H p o) :=
  ⟨⟨[], by simp, fun _ h => by cases h⟩, fun b u e _ nm _ => by rw [upd_ne (fun q => nm (by rw [q]; simp))]; exact e, fun b hb => by
    by_cases q : b = p
    · subst q; rw [upd_same]; simp
    · rw [upd_ne q]; exact hb⟩
theorem Sim.mvd {β res : List Addr} {M : MH} {H : Hp} {p : Addr} {o : HO} (s : Sim fa β res M H) (hp : p ∈ res) (ho : Pl o) : Sim fa β res M (upd H p o) :=
  ⟨s.len, s.nd, s.nr, fun c h => (step_mv (β := β)).dom c (s.rt c h), fun c h u e => by
    by_cases z : c = p
    · subst z; rw [upd_same] at e; cases e; exact ho
    · rw [upd_ne z] at e; exact s.rp c h u e, tabs_upd s.tabs (s.rp p hp), fun q hq => ⟨by rw [upd_ne (fun z => (s.fx q hq).2.2.1 (by rw [z]; exact hp))]; exact (s.fx q hq).1, (s.fx q hq).2⟩, fun q hq => (s.kn q hq).step (mv := [p]) step_mv (by intro x hx; rw [List.mem_singleton.mp hx]; exact hp), fun n a mo e1 e2 => by
    obtain ⟨ho, h1, h2⟩ := s.at_ n a mo e1 e2
    have hne : a ≠ p := fun z => s.nr a (List.mem_of_getElem? e1) (z ▸ hp)
    exact ⟨ho, by rw [upd_ne hne]; exact h1, h2.step (mv := [p]) step_mv (by intro x hx; rw [List.mem_singleton.mp hx]; exact hp)⟩⟩
theorem Rep.hold {β res : List Addr} {H : Hp} {p : Addr} {o : HO} {d : D} {v : V} (r : Rep fa β res H d v) (hp : H p = none) : Rep fa β (p :: res) (upd H p o) d v := (r.reserve hp).step (mv := []) (step_new hp) (by simp)
theorem Sim.hold {β res : List Addr} {M : MH} {H : Hp} {p : Addr} {o : HO} (s : Sim fa β res M H) (hp : H p = none) (hpl : Pl o) : Sim fa β (p :: res) M (upd H p o) :=
  ⟨s.len, s.nd, fun a h q => by
    rcases List.mem_cons.mp q with q | q
    · subst q; exact s.fresh hp h
    · exact s.nr a h q, fun a h => by
    rcases List.mem_cons.mp h with q | q
    · subst q; rw [upd_same]; simp
    · exact (step_new (mv := []) (β := β) hp).dom a (s.rt a q), fun a h u e => by
    by_cases z : a = p
    · subst z; rw [upd_same] at e; cases e; exact hpl
    · rw [upd_ne z] at e
      exact s.rp a ((List.mem_cons.mp h).resolve_left z) u e, s.tabs.ext (ext_new hp), fun q hq => ⟨ext_new hp _ _ (s.fx q hq).1, (s.fx q hq).2.1, fun z => by
    rcases List.mem_cons.mp z with z | z
    · have := (s.fx q hq).1
      rw [z, hp] at this
      cases this
    · exact (s.fx q hq).2.2.1 z, (s.fx q hq).2.2.2⟩, fun q hq => (s.kn q hq).hold hp, fun n a mo e1 e2 => by
    obtain ⟨ho, h1, h2⟩ := (s.new (o := o) hp).at_ n a mo e1 e2
    refine ⟨ho, h1, ?_⟩
    obtain ⟨ho', h1', h2'⟩ := s.at_ n a mo e1 e2
    have e : ho = ho' := by
      rw [upd_ne (ne_of_none h1' hp), h1'] at h1
      exact (Option.some.inj h1).symm
    subst e
    cases h2' with
    | lst r => exact .lst ((r.reserve hp).step (mv := []) (step_new hp) (by simp))
    | dict r => exact .dict ((r.reserve hp).step (mv := []) (step_new hp) (by simp))⟩
theorem Sim.unreserve {β res : List Addr} {M : MH} {H : Hp} {p : Addr} (s : Sim fa β (p :: res) M H) : Sim fa β res M H :=
  ⟨s.len, s.nd, fun a h q => s.nr a h (List.mem_cons_of_mem _ q), fun a h => s.rt a (List.mem_cons_of_mem _ h), fun a h => s.rp a (List.mem_cons_of_mem _ h), s.tabs, fun q hq => ⟨(s.fx q hq).1, (s.fx q hq).2.1, fun z => (s.fx q hq).2.2.1 (List.mem_cons_of_mem _ z), (s.fx q hq).2.2.2⟩, fun q hq => (s.kn q hq).unreserve, fun n a mo e1 e2 => by
    obtain ⟨ho, h1, h2⟩ := s.at_ n a mo e1 e2
    refine ⟨ho, h1, ?_⟩
    cases h2 with
    | lst r => exact .lst r.unreserve
    | dict r => exact .dict r.unreserve⟩
theorem RepS.hold {β res : List Addr} {H : Hp} {ρ : Rho} {σ : L2.St} {p : Addr} {o : HO} (r : RepS fa β res H ρ σ) (hp : H p = none) : RepS fa β (p :: res) (upd H p o) ρ σ :=
  ⟨r.len, r.fx, fun i d e => let ⟨v, h1, h2⟩ := r.at_ i d e; ⟨v, h1, h2.hold hp⟩⟩
theorem Reps.hold {β res : List Addr} {H : Hp} {ds : List D} {vs : List V} {p : Addr} {o : HO} (r : Reps fa β res H ds vs) (hp : H p = none) : Reps fa β (p :: res) (upd H p o) ds vs := (r.reserve hp).step (mv := []) (step_new hp) (by simp)
end
end Mj
/-! Mj2: the small syntax and its evaluation. -/
namespace Mj
open PySem PySem.Spec PyProof.Rows L2

/-! ### operations on data -/
def getL (M : MH) : D → Option (List D)
  | .lst xs => some xs
  | .ref n => match M[n]? with
    | some (.lst xs) => some xs
    | _ => none
  | _ => none
def getDict (M : MH) : D → Option (List (Key × D))
  | .ref n => match M[n]? with
    | some (.dict kvs) => some kvs
    | _ => none
  | _ => none
def newL (m : Bool) (ds : List D) (M : MH) : Res D := if m = true then .ok (.ref M.length) (M ++ [.lst ds]) else .ok (.lst ds) M
def numD : D → Option Int
  | .int i => some i
  | .bl b => some (if b = true then 1 else 0)
  | _ => none
mutual
def py0 : D → Option PyData
  | .non => some .none
  | .bl b => some (.bool b)
  | .int i => some (.int i)
  | .str x => some (.str x)
  | .tup xs => match py0s xs with
    | some ps => some (.tuple ps)
    | none => none
  | .lst xs => match py0s xs with
    | some ps => some (.list ps)
    | none => none
  | _ => none
def py0s : List D → Option (List PyData)
  | [] => some []
  | d :: ds => match py0 d, py0s ds with
    | some p, some ps => some (p :: ps)
    | _, _ => none
end
def pyM (M : MH) (d : D) : Option PyData := match d with
  | .ref n => match M[n]? with
    | some (.lst xs) => (match py0s xs with
      | some ps => some (.list ps)
      | none => none)
    | _ => none
  | d => py0 d
/-- the script is a list, too -/
def pyS (M : MH) (d : D) : Option PyData := match d with
  | .scr ns => some (.list (ns.map PyData.int))
  | d => pyM M d
def eqD (M : MH) (a b : D) : Option Bool := match pyS M a, pyS M b with
  | some p, some q => if (SeqAt.shaped p && SeqAt.shaped q) = true then some (PyData.eqv p q) else none
  | _, _ => none
/-- == : two texts by their signs -/
def eqS (M : MH) (a b : D) : Option Bool := match a, b with
  | .str x, .str y => some (decide (x = y))
  | a, b => eqD M a b
def ltS (a b : Str) : Bool := decide (a.cps.toList < b.cps.toList)
def keyOf : D → Option Key
  | .int i => some (.inl i)
  | .str x => some (.inr x)
  | _ => none
def inD (M : MH) (a b : D) : Option Bool := match a, b with
  | .str x, .str y => some (!(Builtin.Str.occurrences y x 0 y.length 1).isEmpty)
  | a, b => match py0 a, pyM M b with
    | some p, some (.list qs) => if (SeqAt.shaped p && SeqAt.shaped (.list qs)) = true then some (qs.any fun z => PyData.eqv z p) else none
    | some p, some (.tuple qs) => if (SeqAt.shaped p && SeqAt.shaped (.tuple qs)) = true then some (qs.any fun z => PyData.eqv z p) else none
    | _, _ => match getDict M b, keyOf a with
      | some kvs, some k => some (kvs.any fun kv => decide (kv.1 = k))
      | _, _ => none
def mulOk (i j : Int) : Bool := (decide (-(2 ^ 64) < i) && decide (i < 2 ^ 64)) || (decide (-(2 ^ 64) < j) && decide (j < 2 ^ 64))
def resO (M : MH) : Option D → Res D
  | some d => .ok d M
  | none => .bad
def binD (m : Bool) (o : Operator) (a b : D) (M : MH) : Res D := match o with
  | .Add => match a, b with
    | .str x, .str y => if x.length + y.length ≤ sizeLine then .ok (.str (x ++ y)) M else .bad
    | .tup xs, .tup ys => if xs.length + ys.length ≤ sizeLine then .ok (.tup (xs ++ ys)) M else .bad
    | a, b => match numD a, numD b with
      | some i, some j => .ok (.int (i + j)) M
      | _, _ => match getL M a, getL M b with
        | some xs, some ys => if xs.length + ys.length ≤ sizeLine then newL m (xs ++ ys) M else .bad
        | _, _ => .bad
  | .Sub => match numD a, numD b with
    | some i, some j => .ok (.int (i - j)) M
    | _, _ => .bad
  | .Mult => match a, b with
    | .int i, .int j => if mulOk i j = true then .ok (.int (i * j)) M else .bad
    | .str x, .int j => if 0 ≤ j ∧ j < 100000 ∧ x.length < 100 then .ok (.str (Txt.mul x j)) M else .bad
    | a, .int j => (match getL M a with
      | some xs => if (0 ≤ j ∧ j < 1000) ∧ xs.length * j.toNat ≤ sizeLine then newL m (List.replicate j.toNat xs).flatten M else .bad
      | none => .bad)
    | _, _ => .bad
  | .FloorDiv => match a, b with
    | .int i, .int j => if 0 < j ∧ j < 1073741824 then .ok (.int (i / j)) M else .bad
    | _, _ => .bad
  | .Mod => match a, b with
    | .int i, .int j => if 0 < j then .ok (.int (i % j)) M else .bad
    | _, _ => .bad
  | .Pow => match a, b with
    | .int i, .int j => if (0 ≤ j ∧ j ≤ 1000000) ∧ i.natAbs < 2 ^ 64 then .ok (.int (i ^ j.toNat)) M else .bad
    | _, _ => .bad
  | _ => .bad
def cmpD (o : CmpOp) (a b : D) (M : MH) : Option Bool := match o with
  | .Eq => eqS M a b
  | .NotEq => (eqS M a b).map (!·)
  | .Lt => match a, b with
    | .int i, .int j => some (decide (i < j))
    | .str x, .str y => some (ltS x y)
    | _, _ => none
  | .LtE => match a, b with
    | .int i, .int j => some (decide (i ≤ j))
    | .str x, .str y => some (!ltS y x)
    | _, _ => none
  | .Gt => match a, b with
    | .int i, .int j => some (decide (j < i))
    | .str x, .str y => some (ltS y x)
    | _, _ => none
  | .GtE => match a, b with
    | .int i, .int j => some (decide (j ≤ i))
    | .str x, .str y => some (!ltS x y)
    | _, _ => none
  | .In => inD M a b
  | .NotIn => (inD M a b).map (!·)
  | .Is => match b with
    | .non => match a with
      | .non => some true
      | _ => some false
    | _ => none
  | .IsNot => match b with
    | .non => match a with
      | .non => some false
      | _ => some true
    | _ => none
def truD (M : MH) : D → Option Bool
  | .non => some false
  | .bl b => some b
  | .int i => some (i != 0)
  | .str x => if x.length ≤ sizeLine then some ((x.length : Int) != 0) else none
  | .tup xs => some (!xs.isEmpty)
  | .lst xs => some (!xs.isEmpty)
  | .ref n => match M[n]? with
    | some (.lst xs) => some (!xs.isEmpty)
    | some (.dict kvs) => some (!kvs.isEmpty)
    | none => none
  | _ => none
def lookK (kvs : List (Key × D)) (k : Key) : Option D := (kvs.find? fun kv => decide (kv.1 = k)).map (·.2)
def putD (kvs : List (Key × D)) (k : Key) (d : D) : List (Key × D) :=
  if (kvs.any fun kv => decide (kv.1 = k)) = true then kvs.map (fun kv => if kv.1 = k then (kv.1, d) else kv) else kvs ++ [(k, d)]
def idxD (a i : D) (M : MH) : Option D := match a, i with
  | .str x, .int k => if x.length ≤ sizeLine then (atI x.cps.toList k).map fun c => .str ⟨#[c]⟩ else none
  | .tup xs, .int k => atI xs k
  | a, i => match getL M a, i with
    | some xs, .int k => atI xs k
    | _, _ => match getDict M a, keyOf i with
      | some kvs, some k => lookK kvs k
      | _, _ => none
def cutD (xs : List D) (lo hi : Option Int) : List D := (xs.drop (HT.sIx xs.length 0 lo)).take (HT.sIx xs.length xs.length hi - HT.sIx xs.length 0 lo)
def optI : Option D → Option (Option Int)
  | none => some none
  | some (.int i) => some (some i)
  | _ => none
def sliceD (m : Bool) (a : D) (lo hi : Option Int) (M : MH) : Res D := match a with
  | .str x => if x.length ≤ sizeLine then .ok (.str (cutS x lo hi)) M else .bad
  | .tup xs => .ok (.tup (cutD xs lo hi)) M
  | .scr ns => newL m (cutD (ns.map D.int) lo hi) M
  | a => match getL M a with
    | some xs => newL m (cutD xs lo hi) M
    | none => .bad
/-- a[lo:hi:st] of a list -/
def pickD {α : Type} (xs : List α) (lo hi st : Option Int) : List α :=
  (sliceRange (sliceBounds lo hi st xs.length).1 (sliceBounds lo hi st xs.length).2.1 (sliceBounds lo hi st xs.length).2.2).filterMap (xs[·]?)
def isiD (a : D) (t : String) : Option Bool :=
  if t = "int" then (match a with | .int _ => some true | .bl _ => some true | .ptup _ => none | .fn _ => none | .ref _ => none | .ty _ => none | .scr _ => none | _ => some false)
  else if t = "bool" then (match a with | .bl _ => some true | .ptup _ => none | .fn _ => none | .ref _ => none | .ty _ => none | .scr _ => none | _ => some false)
  else if t = "str" then (match a with | .str _ => some true | .ptup _ => none | .fn _ => none | .ref _ => none | .ty _ => none | .scr _ => none | _ => some false)
  else if t = "tuple" then (match a with | .tup _ => some true | .ptup _ => none | .fn _ => none | .ref _ => none | .ty _ => none | .scr _ => none | _ => some false)
  else if t = "list" then (match a with | .lst _ => some true | .ptup _ => none | .fn _ => none | .ref _ => none | .ty _ => none | .scr _ => none | _ => some false)
  else none
def boolsOf : List D → Option (List Bool)
  | [] => some []
  | .bl b :: r => (boolsOf r).map (b :: ·)
  | _ => none
def strsOf : List D → Option (List Str)
  | [] => some []
  | .str x :: r => (strsOf r).map (x :: ·)
  | _ => none
def insS (x : Str) : List Str → List Str
  | [] => [x]
  | y :: r => if ltS y x = true then y :: insS x r else x :: y :: r
def sortS : List Str → List Str
  | [] => []
  | x :: r => insS x (sortS r)
def pairsOf : List D → Option (List (Key × D))
  | [] => some []
  | .tup [k, v] :: r => match keyOf k, pairsOf r with
    | some k, some r => some ((k, v) :: r)
    | _, _ => none
  | _ => none
def keysS : List (Key × D) → Option (List Str)
  | [] => some []
  | (.inr x, _) :: r => (keysS r).map (x :: ·)
  | _ => none
/-- calls of built-ins -/
def biLen (as : List D) (M : MH) : Res D := match as with
  | [.str x] => if x.length ≤ sizeLine then .ok (.int x.length) M else .bad
  | [.tup xs] => .ok (.int xs.length) M
  | [a] => (match getL M a with
    | some xs => .ok (.int xs.length) M
    | none => .bad)
  | _ => .bad
def biIsi (as : List D) (M : MH) : Res D := match as with
  | [a, .ty t] => resO M ((isiD a t).map D.bl)
  | _ => .bad
def biInt (as : List D) (M : MH) : Res D := match as with
  | [a] => resO M ((numD a).map D.int)
  | _ => .bad
def biStr (as : List D) (M : MH) : Res D := match as with
  | [.int i] => if i.natAbs.log2 < 1920 then .ok (.str (toString i)) M else .bad
  | [.bl b] => .ok (.str (if b then "True" else "False")) M
  | [.str x] => .ok (.str x) M
  | _ => .bad
def biOrd (as : List D) (M : MH) : Res D := match as with
  | [.str x] => if x.length = 1 then .ok (.int (x.cps.getD 0 0 : Nat)) M else .bad
  | _ => .bad
def biAll (as : List D) (M : MH) : Res D := match as with
  | [a] => (match (getL M a).bind boolsOf with
    | some bs => .ok (.bl (bs.all id)) M
    | none => .bad)
  | _ => .bad
def biList (m : Bool) (as : List D) (M : MH) : Res D := match as with
  | [.tup xs] => newL m xs M
  | [a] => (match getL M a with
    | some xs => newL m xs M
    | none => .bad)
  | _ => .bad
def biTuple (as : List D) (M : MH) : Res D := match as with
  | [.tup xs] => .ok (.tup xs) M
  | [a] => (match getL M a with
    | some xs => .ok (.tup xs) M
    | none => .bad)
  | _ => .bad
def biDict (as : List D) (M : MH) : Res D := match as with
  | [.tup xs] => (match pairsOf xs with
    | some kvs => .ok (.ref M.length) (M ++ [.dict (kvs.foldl (fun acc kv => putD acc kv.1 kv.2) [])])
    | none => .bad)
  | [a] => (match (getL M a).bind pairsOf with
    | some kvs => .ok (.ref M.length) (M ++ [.dict (kvs.foldl (fun acc kv => putD acc kv.1 kv.2) [])])
    | none => .bad)
  | _ => .bad
def biSorted (m : Bool) (as : List D) (M : MH) : Res D := match as with
  | [a] => (match (getL M a).bind strsOf with
    | some xs => if xs.length < 64 then newL m ((sortS xs).map D.str) M else .bad
    | none => (match (getDict M a).bind keysS with
      | some ks => if ks.length < 64 then newL m ((sortS ks).map D.str) M else .bad
      | none => .bad))
  | _ => .bad
def isTree : D → Bool
  | .ref _ => true
  | .lst _ => true
  | .tup _ => true
  | _ => false
def reprD (a : D) (M : MH) : Option Str := match a with
  | .non => some "None"
  | .bl b => some (if b then "True" else "False")
  | .int i => if i.natAbs.log2 < 1920 then some (toString i) else none
  | .str x => if (PyData.showable (.str x) && decide ((PyData.shown (.str x)).length ≤ sizeLine)) = true then some (PyData.shown (.str x)) else none
  | a => if isTree a = true then (match pyM M a with
    | some p => if (p.showable && decide (p.depth ≤ 60) && decide (p.shown.length ≤ sizeLine)) = true then some p.shown else none
    | none => none) else none
def biRepr (as : List D) (M : MH) : Res D := match as with
  | [a] => resO M ((reprD a M).map D.str)
  | _ => .bad
def biMin (as : List D) (M : MH) : Res D := match as with
  | [.int i, .int j] => .ok (.int (if j < i then j else i)) M
  | _ => .bad
def biMax (as : List D) (M : MH) : Res D := match as with
  | [.int i, .int j] => .ok (.int (if j > i then j else i)) M
  | _ => .bad
def biD (m : Bool) (f : String) (as : List D) (M : MH) : Res D :=
  if f = "len" then biLen as M
  else if f = "isinstance" then biIsi as M
  else if f = "int" then biInt as M
  else if f = "str" then biStr as M
  else if f = "ord" then biOrd as M
  else if f = "all" then biAll as M
  else if f = "list" then biList m as M
  else if f = "tuple" then biTuple as M
  else if f = "dict" then biDict as M
  else if f = "sorted" then biSorted m as M
  else if f = "repr" then biRepr as M
  else if f = "min" then biMin as M
  else if f = "max" then biMax as M
  else .bad
/-- methods -/
def mtAppend (o : D) (as : List D) (M : MH) : Res D := match o, as with
  | .ref n, [y] => (match M[n]? with
    | some (.lst xs) => if xs.length < sizeLine then .ok .non (M.set n (.lst (xs ++ [y]))) else .bad
    | _ => .bad)
  | _, _ => .bad
def mtExtend (o : D) (as : List D) (M : MH) : Res D := match o, as with
  | .ref n, [b] => (match M[n]?, getL M b with
    | some (.lst xs), some ys => if xs.length + ys.length ≤ sizeLine then .ok .non (M.set n (.lst (xs ++ ys))) else .bad
    | _, _ => .bad)
  | _, _ => .bad
def mtPop (o : D) (as : List D) (M : MH) : Res D := match o, as with
  | .ref n, [.int i] => (match M[n]? with
    | some (.lst xs) => if 0 ≤ i ∧ i < xs.length ∧ xs.length ≤ sizeLine then (match xs[i.toNat]? with
      | some y => .ok y (M.set n (.lst (xs.eraseIdx i.toNat)))
      | none => .bad) else .bad
    | _ => .bad)
  | _, _ => .bad
def mtPop0 (o : D) (as : List D) (M : MH) : Res D := match o, as with
  | .ref n, [] => (match M[n]? with
    | some (.lst xs) => (match xs.getLast? with
      | some y => .ok y (M.set n (.lst xs.dropLast))
      | none => .bad)
    | _ => .bad)
  | _, _ => .bad
/-- the first place of an equal one -/
def idxOf (p : PyData) : List PyData → Option Nat
  | [] => none
  | z :: r => if PyData.eqv z p = true then some 0 else (idxOf p r).map (· + 1)
def mtIndex (o : D) (as : List D) (M : MH) : Res D := match as with
  | [y] => (match pyM M o, py0 y with
    | some (.list qs), some p => if (SeqAt.shaped p && SeqAt.shaped (.list qs)) = true then (match idxOf p qs with
      | some j => .ok (.int (j : Nat)) M
      | none => .bad) else .bad
    | _, _ => .bad)
  | _ => .bad
def mtGet (o : D) (as : List D) (M : MH) : Res D := match as with
  | [k] => (match getDict M o, keyOf k with
    | some kvs, some k => .ok ((lookK kvs k).getD .non) M
    | _, _ => .bad)
  | [k, d] => (match getDict M o, keyOf k with
    | some kvs, some k => .ok ((lookK kvs k).getD d) M
    | _, _ => .bad)
  | _ => .bad
def mtUpper (o : D) (as : List D) (M : MH) : Res D := match o, as with
  | .str x, [] => if x.length ≤ 5592405 then .ok (.str (Txt.upper x)) M else .bad
  | _, _ => .bad
/-- the kind of thing that has the method -/
def mtKind (f : String) (o : D) (M : MH) : Bool := if f = "upper" then (match o with | .str _ => true | _ => false) else if f = "get" then (getDict M o).isSome else (getL M o).isSome
def mtD (f : String) (o : D) (as : List D) (M : MH) : Res D :=
  if f = "append" then mtAppend o as M
  else if f = "extend" then mtExtend o as M
  else if f = "pop" then (if as.isEmpty = true then mtPop0 o as M else mtPop o as M)
  else if f = "index" then mtIndex o as M
  else if f = "get" then mtGet o as M
  else if f = "upper" then mtUpper o as M
  else .bad

/-! ### syntax -/
-- targets
mutual
inductive Tg where
  | name (i : Nat) | tup (ts : Tgs)
inductive Tgs where
  | nil | cons (t : Tg) (r : Tgs)
end
mutual
inductive C where
  | var (i : Nat)
  | const (d : D)
  | glob (x : Str) (d : D)
  | bin (m : Bool) (o : Operator) (a b : C)
  | neg (a : C)
  | not (a : C)
  | and (as : Cs)
  | or (as : Cs)
  | cmp (o : CmpOp) (a b : C)
  | chain (o o' : CmpOp) (a b c : C)
  | ife (c a b : C)
  | tup (es : Cs)
  | lst (m : Bool) (es : Cs)
  | dict (ks : List Str) (vs : Cs)
  | idx (a i : C)
  | slice (m : Bool) (a : C) (lo hi : Co)
  | revT (a : C)
  | stepL (m : Bool) (a lo : C) (n : Nat)
  | call (k : Nat) (as : Cs)
  | callV (i : Nat) (as : Cs)
  | callW (k : Nat) (ks : List Str) (perm : List Nat) (as : Cs)
  | bi (m : Bool) (f : String) (as : Cs)
  | meth (f : String) (o : C) (as : Cs)
  | comp (m : Bool) (elt : C) (tg : Tg) (it : It) (ifs : Co)
  | lamcall (k : Nat) (body : C)
  | listZip (m : Bool) (a b : C)
  | ask
  | isE (tup : Bool) (cs : List Nat)
  | fldE (f : Str)
inductive Cs where
  | nil | cons (c : C) (r : Cs)
inductive Co where
  | none | some (c : C)
inductive It where
  | seq (c : C)
  | rng1 (a : C)
  | rng2 (a b : C)
  | zip (a b : C)
  | enum (a : C)
end
mutual
inductive S where
  | set (i : Nat) (e : C)
  | par (i j : Nat) (a b : C)
  | unp (tg : Tg) (e : C)
  | setIx (o : C) (k : Str) (e : C)
  | expr (e : C)
  | ret (e : C)
  | ifs (c : C) (a b : Ss)
  | for_ (tg : Tg) (it : It) (body : Ss)
  | raise (k : Nat) (ps : List Str) (as : Cs)
  | tryAs (c i : Nat) (body suite : Ss)
  | tryOnly (c : Nat) (body suite : Ss)
  | while_ (n : Nat) (c : C) (body : Ss)
inductive Ss where
  | nil | cons (s : S) (r : Ss)
end

/-- what a loop walks -/
inductive Src where
  | vals (xs : List D)
  | live (n : Nat) (len : Nat)
  | zipL (xs ys : List D)
  | enuL (xs : List D)
def srcLen : Src → Nat
  | .vals xs => xs.length
  | .live _ k => k
  | .zipL xs ys => min xs.length ys.length
  | .enuL xs => xs.length
def srcAt (M : MH) (i : Nat) : Src → Option D
  | .vals xs => xs[i]?
  | .live n k => match M[n]? with
    | some (.lst ys) => if ys.length = k then ys[i]? else none
    | _ => none
  | .zipL xs ys => match xs[i]?, ys[i]? with
    | some x, some y => some (.ptup [x, y])
    | _, _ => none
  | .enuL xs => match xs[i]? with
    | some x => some (.ptup [.int (i : Nat), x])
    | none => none
/-- at the end the list must have its length still -/
def srcEnd (M : MH) : Src → Bool
  | .vals _ => true
  | .live n k => match M[n]? with
    | some (.lst ys) => ys.length == k
    | _ => false
  | .zipL _ _ => true
  | .enuL _ => true
def srcOf (M : MH) : D → Option Src
  | .str x => if x.length ≤ sizeLine then some (.vals (x.cps.toList.map fun c => .str ⟨#[c]⟩)) else none
  | .tup xs => some (.vals xs)
  | .lst xs => some (.vals xs)
  | .ref n => match M[n]? with
    | some (.lst ys) => some (.live n ys.length)
    | _ => none
  | _ => none
mutual
def bindT : Tg → D → Rho → Option Rho
  | .name i, d, ρ => some (ρ.set i (some d))
  | .tup ts, d, ρ => match d with
    | .tup ds => bindTs ts ds ρ
    | .ptup ds => bindTs ts ds ρ
    | _ => none
def bindTs : Tgs → List D → Rho → Option Rho
  | .nil, ds, ρ => match ds with
    | [] => some ρ
    | _ :: _ => none
  | .cons t r, ds, ρ => match ds with
    | d :: ds => (match bindT t d ρ with
      | some ρ1 => bindTs r ds ρ1
      | none => none)
    | [] => none
end
mutual
def Tg.own : Tg → List Nat
  | .name i => [i]
  | .tup ts => Tgs.own ts
def Tgs.own : Tgs → List Nat
  | .nil => []
  | .cons t r => t.own ++ Tgs.own r
end
def wipeR (ρ : Rho) : List Nat → Rho
  | [] => ρ
  | v :: vs => (wipeR ρ vs).set v none
inductive Fl where
  | nx (ρ : Rho) | rt (d : D) | xc (x : XV) (ρ : Rho)
/-- an exception there is none of -/
def noX {α : Type} : Rx α → Rx α
  | .ok a M => .ok a M
  | _ => .bad
/-- k turns of a comprehension from i on -/
def compLoop (src : Src) (bind : D → Option Rho) (cond : Rho → MH → Rx Bool) (elt : Rho → MH → Rx D) : Nat → Nat → List D → MH → Rx (List D)
  | 0, _, acc, M => if srcEnd M src = true then .ok acc M else .bad
  | k + 1, i, acc, M => match srcAt M i src with
    | some d => (match bind d with
      | some ρ => (noX (cond ρ M)).bind fun b M1 => if b = true then (noX (elt ρ M1)).bind fun e M2 => compLoop src bind cond elt k (i + 1) (acc ++ [e]) M2 else compLoop src bind cond elt k (i + 1) acc M1
      | none => .bad)
    | none => .bad
def forLoop (src : Src) (bind : D → Rho → Option Rho) (body : Rho → MH → Res Fl) : Nat → Nat → Rho → MH → Res Fl
  | 0, _, ρ, M => if srcEnd M src = true then .ok (.nx ρ) M else .bad
  | k + 1, i, ρ, M => match srcAt M i src with
    | some d => (match bind d ρ with
      | some ρ1 => (body ρ1 M).bind fun f M1 => match f with
        | .nx ρ2 => forLoop src bind body k (i + 1) ρ2 M1
        | .rt d => .ok (.rt d) M1
        | .xc x ρ2 => .ok (.xc x ρ2) M1
      | none => .bad)
    | none => .bad
abbrev Ask := MH → Rx D
def noAsk : Ask := fun _ => .bad
abbrev Calls := Nat → List D → Option Ask → MH → Rx D
/-- calls of defs, of the lambda that was handed in; the exception of this suite; which class is under which -/
structure EvC where
  cl : Calls
  ask : Ask
  cur : Option XV
  sub : Nat → Nat → Bool
def EvC.bare (E : EvC) : EvC := { E with ask := noAsk, cur := none }
def pickAll (ds : List D) : List Nat → Option (List D)
  | [] => some []
  | i :: is => match ds[i]?, pickAll ds is with
    | some d, some r => some (d :: r)
    | _, _ => none
def lookF : List (Str × D) → Str → Option D
  | [], _ => none
  | (y, d) :: r, x => if x = y then some d else lookF r x
def truR (d : D) (M : MH) : Rx Bool := match truD M d with
  | some k => .ok k M
  | none => .bad
def optB (M : MH) : Option Bool → Rx Bool
  | some k => .ok k M
  | none => .bad
def toD (b : Bool) (M : MH) : Rx D := .ok (.bl b) M
mutual
def ev : C → EvC → Rho → MH → Rx D
  | .var i, _, ρ, M => match ρ[i]? with
    | some (some d) => .ok d M
    | _ => .bad
  | .const d, _, _, M => .ok d M
  | .glob _ d, _, _, M => .ok d M
  | .bin m o a b, E, ρ, M => (ev a E ρ M).bind fun x M1 => (ev b E ρ M1).bind fun y M2 => up (binD m o x y M2)
  | .neg a, E, ρ, M => (ev a E ρ M).bind fun x M1 => match x with
    | .int i => .ok (.int (-i)) M1
    | _ => .bad
  | .not a, E, ρ, M => (ev a E ρ M).bind fun x M1 => (truR x M1).bind fun k M2 => .ok (.bl (!k)) M2
  | .and as, E, ρ, M => evAnd as E ρ M
  | .or as, E, ρ, M => evOr as E ρ M
  | .cmp o a b, E, ρ, M => (ev a E ρ M).bind fun x M1 => (ev b E ρ M1).bind fun y M2 => (optB M2 (cmpD o x y M2)).bind toD
  | .chain o o' a b c, E, ρ, M => (ev a E ρ M).bind fun x M1 => (ev b E ρ M1).bind fun y M2 => (optB M2 (cmpD o x y M2)).bind fun k M3 => if k = true then (ev c E ρ M3).bind fun z M4 => (optB M4 (cmpD o' y z M4)).bind toD else .ok (.bl false) M3
  | .ife c a b, E, ρ, M => (evT c E ρ M).bind fun k M1 => if k = true then ev a E ρ M1 else ev b E ρ M1
  | .tup es, E, ρ, M => (evs es E ρ M).bind fun ds M1 => if ds.length ≤ sizeLine then .ok (.tup ds) M1 else .bad
  | .lst m es, E, ρ, M => (evs es E ρ M).bind fun ds M1 => if ds.length ≤ sizeLine then up (newL m ds M1) else .bad
  | .dict ks vs, E, ρ, M => (evs vs E ρ M).bind fun ds M1 => if ks.length = ds.length ∧ ks.length ≤ 15 then .ok (.ref M1.length) (M1 ++ [.dict ((ks.zip ds).foldl (fun acc kv => putD acc (.inr kv.1) kv.2) [])]) else .bad
  | .idx a i, E, ρ, M => (ev a E ρ M).bind fun x M1 => (ev i E ρ M1).bind fun y M2 => up (resO M2 (idxD x y M2))
  | .slice m a lo hi, E, ρ, M => (ev a E ρ M).bind fun x M1 => (evo lo E ρ M1).bind fun l M2 => (evo hi E ρ M2).bind fun h M3 => up (sliceD m x l h M3)
  | .revT a, E, ρ, M => (ev a E ρ M).bind fun x M1 => match x with
    | .tup xs => .ok (.tup xs.reverse) M1
    | _ => .bad
  | .stepL m a lo n, E, ρ, M => (ev a E ρ M).bind fun x M1 => (ev lo E ρ M1).bind fun l M2 => match getL M2 x, l with
    | some xs, .int i => if n ≠ 0 then up (newL m (pickD xs (some i) none (some (n : Int))) M2) else .bad
    | _, _ => .bad
  | .call k as, E, ρ, M => (evs as E ρ M).bind fun ds M1 => E.cl k ds none M1
  | .callV i as, E, ρ, M => match ρ[i]? with
    | some (some (.fn k)) => (evs as E ρ M).bind fun ds M1 => E.cl k ds none M1
    | _ => .bad
  | .callW k _ perm as, E, ρ, M => (evs as E ρ M).bind fun ds M1 => match pickAll ds perm with
    | some es => E.cl k es none M1
    | none => .bad
  | .bi m f as, E, ρ, M => (evs as E ρ M).bind fun ds M1 => up (biD m f ds M1)
  | .meth f o as, E, ρ, M => (ev o E ρ M).bind fun x M1 => if mtKind f x M1 = true then (evs as E ρ M1).bind fun ds M2 => up (mtD f x ds M2) else .bad
  | .comp m elt tg it ifs, E, ρ, M => (evI it E ρ M).bind fun src M1 =>
      (compLoop src (fun d => bindT tg d (wipeR ρ tg.own)) (evIf ifs E.bare) (ev elt E.bare) (srcLen src) 0 [] M1).bind fun ds M2 => up (newL m ds M2)
  | .lamcall k body, E, ρ, M => noX (E.cl k [] (some fun M' => ev body E.bare ρ M') M)
  | .listZip m a b, E, ρ, M => (ev a E ρ M).bind fun x M1 => (ev b E ρ M1).bind fun y M2 => match x, y with
    | .tup xs, .tup ys => up (newL m (List.zipWith (fun a b => .tup [a, b]) xs ys) M2)
    | _, _ => .bad
  | .ask, E, _, M => E.ask M
  | .isE _ cs, E, _, M => match E.cur with
    | some x => .ok (.bl (cs.any (E.sub x.k))) M
    | none => .bad
  | .fldE f, E, _, M => match E.cur with
    | some x => up (resO M (lookF x.fs f))
    | none => .bad
/-- a test -/
def evT : C → EvC → Rho → MH → Rx Bool
  | .not a, E, ρ, M => (evT a E ρ M).bind fun b M1 => .ok (!b) M1
  | .and as, E, ρ, M => evAndT as E ρ M
  | .or as, E, ρ, M => evOrT as E ρ M
  | .cmp o a b, E, ρ, M => (ev a E ρ M).bind fun x M1 => (ev b E ρ M1).bind fun y M2 => optB M2 (cmpD o x y M2)
  | .chain o o' a b c, E, ρ, M => (ev a E ρ M).bind fun x M1 => (ev b E ρ M1).bind fun y M2 => (optB M2 (cmpD o x y M2)).bind fun k M3 => if k = true then (ev c E ρ M3).bind fun z M4 => optB M4 (cmpD o' y z M4) else .ok false M3
  | .var i, _, ρ, M => match ρ[i]? with
    | some (some d) => truR d M
    | _ => .bad
  | .call k as, E, ρ, M => ((evs as E ρ M).bind fun ds M1 => E.cl k ds none M1).bind truR
  | .callV i as, E, ρ, M => match ρ[i]? with
    | some (some (.fn k)) => ((evs as E ρ M).bind fun ds M1 => E.cl k ds none M1).bind truR
    | _ => .bad
  | .bi m f as, E, ρ, M => ((evs as E ρ M).bind fun ds M1 => up (biD m f ds M1)).bind truR
  | .idx a i, E, ρ, M => ((ev a E ρ M).bind fun x M1 => (ev i E ρ M1).bind fun y M2 => up (resO M2 (idxD x y M2))).bind truR
  | .isE _ cs, E, _, M => match E.cur with
    | some x => .ok (cs.any (E.sub x.k)) M
    | none => .bad
  | _, _, _, _ => .bad
def evAnd : Cs → EvC → Rho → MH → Rx D
  | .nil, _, _, _ => .bad
  | .cons a .nil, E, ρ, M => ev a E ρ M
  | .cons a (.cons b r), E, ρ, M => (ev a E ρ M).bind fun x M1 => (truR x M1).bind fun k M2 => if k = true then evAnd (.cons b r) E ρ M2 else .ok x M2
def evOr : Cs → EvC → Rho → MH → Rx D
  | .nil, _, _, _ => .bad
  | .cons a .nil, E, ρ, M => ev a E ρ M
  | .cons a (.cons b r), E, ρ, M => (ev a E ρ M).bind fun x M1 => (truR x M1).bind fun k M2 => if k = true then .ok x M2 else evOr (.cons b r) E ρ M2
def evAndT : Cs → EvC → Rho → MH → Rx Bool
  | .nil, _, _, _ => .bad
  | .cons a .nil, E, ρ, M => evT a E ρ M
  | .cons a (.cons b r), E, ρ, M => (evT a E ρ M).bind fun x M1 => if x = true then evAndT (.cons b r) E ρ M1 else .ok false M1
def evOrT : Cs → EvC → Rho → MH → Rx Bool
  | .nil, _, _, _ => .bad
  | .cons a .nil, E, ρ, M => evT a E ρ M
  | .cons a (.cons b r), E, ρ, M => (evT a E ρ M).bind fun x M1 => if x = true then .ok true M1 else evOrT (.cons b r) E ρ M1
def evs : Cs → EvC → Rho → MH → Rx (List D)
  | .nil, _, _, M => .ok [] M
  | .cons c r, E, ρ, M => (ev c E ρ M).bind fun d M1 => (evs r E ρ M1).bind fun ds M2 => .ok (d :: ds) M2
def evo : Co → EvC → Rho → MH → Rx (Option Int)
  | .none, _, _, M => .ok none M
  | .some c, E, ρ, M => (ev c E ρ M).bind fun d M1 => match d with
    | .int i => .ok (some i) M1
    | _ => .bad
def evIf : Co → EvC → Rho → MH → Rx Bool
  | .none, _, _, M => .ok true M
  | .some c, E, ρ, M => evT c E ρ M
def evI : It → EvC → Rho → MH → Rx Src
  | .seq c, E, ρ, M => (ev c E ρ M).bind fun d M1 => match srcOf M1 d with
    | some s => .ok s M1
    | none => .bad
  | .rng1 a, E, ρ, M => (ev a E ρ M).bind fun d M1 => match d with
    | .int j => if -(2 ^ 62) ≤ j ∧ j ≤ 10000 then .ok (.vals ((List.range j.toNat).map fun (k : Nat) => D.int (0 + (k : Int)))) M1 else .bad
    | _ => .bad
  | .rng2 a b, E, ρ, M => (ev a E ρ M).bind fun x M1 => (ev b E ρ M1).bind fun y M2 => match x, y with
    | .int i, .int j => if (-10000 ≤ i ∧ i ≤ 10000) ∧ (-10000 ≤ j ∧ j ≤ 10000) then .ok (.vals ((List.range (j - i).toNat).map fun (k : Nat) => D.int (i + (k : Int)))) M2 else .bad
    | _, _ => .bad
  | .zip a b, E, ρ, M => (ev a E ρ M).bind fun x M1 => (ev b E ρ M1).bind fun y M2 => match x, y with
    | .lst xs, .lst ys => .ok (.zipL xs ys) M2
    | .tup xs, .tup ys => .ok (.zipL xs ys) M2
    | _, _ => .bad
  | .enum a, E, ρ, M => (ev a E ρ M).bind fun x M1 => match x with
    | .lst xs => .ok (.enuL xs) M1
    | _ => .bad
end
/-- a part of a statement: its exception leaves with the slots as they are -/
def liftS {α : Type} (ρ : Rho) (r : Rx α) (f : α → MH → Res Fl) : Res Fl := match r with
  | .ok a M => f a M
  | .exc x M => .ok (.xc x ρ) M
  | .bad => .bad
def whileLoop (test : Rho → MH → Rx Bool) (body : Rho → MH → Res Fl) : Nat → Rho → MH → Res Fl
  | 0, _, _ => .bad
  | n + 1, ρ, M => liftS ρ (test ρ M) fun b M1 => if b = true then (body ρ M1).bind fun f M2 => (match f with
      | .nx ρ2 => whileLoop test body n ρ2 M2
      | .rt d => .ok (.rt d) M2
      | .xc x ρ2 => .ok (.xc x ρ2) M2) else .ok (.nx ρ) M1
mutual
def exS : S → EvC → Rho → MH → Res Fl
  | .set i e, E, ρ, M => liftS ρ (ev e E ρ M) fun d M1 => .ok (.nx (ρ.set i (some d))) M1
  | .par i j a b, E, ρ, M => liftS ρ (ev a E ρ M) fun x M1 => liftS ρ (ev b E ρ M1) fun y M2 => .ok (.nx ((ρ.set i (some x)).set j (some y))) M2
  | .unp tg e, E, ρ, M => liftS ρ (ev e E ρ M) fun d M1 => match bindT tg d ρ with
    | some ρ1 => .ok (.nx ρ1) M1
    | none => .bad
  | .setIx o k e, E, ρ, M => liftS ρ (ev e E ρ M) fun v M1 => liftS ρ (ev o E ρ M1) fun x M2 => match x with
    | .ref n => (match M2[n]? with
      | some (.dict kvs) => if kvs.length < 1000 then .ok (.nx ρ) (M2.set n (.dict (putD kvs (.inr k) v))) else .bad
      | _ => .bad)
    | _ => .bad
  | .expr e, E, ρ, M => liftS ρ (ev e E ρ M) fun _ M1 => .ok (.nx ρ) M1
  | .ret e, E, ρ, M => liftS ρ (ev e E ρ M) fun d M1 => .ok (.rt d) M1
  | .ifs c a b, E, ρ, M => liftS ρ (evT c E ρ M) fun k M1 => if k = true then exSs a E ρ M1 else exSs b E ρ M1
  | .for_ tg it body, E, ρ, M => liftS ρ (evI it E ρ M) fun src M1 => forLoop src (bindT tg) (exSs body E) (srcLen src) 0 ρ M1
  | .raise k ps as, E, ρ, M => liftS ρ (evs as E ρ M) fun ds M1 => if ds.length = ps.length then .ok (.xc ⟨k, (ps.zip ds).reverse⟩ ρ) M1 else .bad
  | .tryAs c i body suite, E, ρ, M => (exSs body E ρ M).bind fun f M1 => match f with
    | .xc x ρ1 => if E.sub x.k c = true then (if i < ρ1.length then (exSs suite { E with ask := noAsk, cur := some x } (ρ1.set i none) M1).bind fun f2 M2 => (match f2 with
        | .nx ρ2 => .ok (.nx (ρ2.set i none)) M2
        | .rt d => .ok (.rt d) M2
        | .xc _ _ => .bad) else .bad) else .ok (.xc x ρ1) M1
    | f => .ok f M1
  | .tryOnly c body suite, E, ρ, M => (exSs body E ρ M).bind fun f M1 => match f with
    | .xc x ρ1 => if E.sub x.k c = true then (exSs suite { E with ask := noAsk, cur := none } ρ1 M1).bind fun f2 M2 => (match f2 with
        | .xc _ _ => .bad
        | f2 => .ok f2 M2) else .ok (.xc x ρ1) M1
    | f => .ok f M1
  | .while_ n c body, E, ρ, M => whileLoop (evT c E) (exSs body E) n ρ M
def exSs : Ss → EvC → Rho → MH → Res Fl
  | .nil, _, ρ, M => .ok (.nx ρ) M
  | .cons s r, E, ρ, M => (exS s E ρ M).bind fun f M1 => match f with
    | .nx ρ1 => exSs r E ρ1 M1
    | f => .ok f M1
end
/-- a def: how many parameters, how many slots, its body; a star parameter behind them; its one parameter a lambda -/
structure Fn where
  np : Nat
  ns : Nat
  body : Ss
  star : Bool := false
  ask : Bool := false
def startOf (f : Fn) (as : List D) : Option Rho :=
  if f.ask = true then (if as.length = 0 then some (List.replicate f.ns none) else none)
  else if f.star = true then (if f.np ≤ as.length ∧ as.length ≤ 1000 then some ((as.take f.np).map some ++ [some (.tup (as.drop f.np))] ++ List.replicate (f.ns - (f.np + 1)) none) else none)
  else if as.length = f.np then some (as.map some ++ List.replicate (f.ns - as.length) none) else none
def runFn (E : EvC) (f : Fn) (as : List D) (M : MH) : Rx D := match startOf f as with
  | some ρ => (match exSs f.body E ρ M with
    | .ok (.nx _) M1 => .ok .non M1
    | .ok (.rt d) M1 => .ok d M1
    | .ok (.xc x _) M1 => .exc x M1
    | .bad => .bad)
  | none => .bad
def callN (T : Nat → Option Fn) (sub : Nat → Nat → Bool) : Nat → Calls
  | 0 => fun _ _ _ _ => .bad
  | n + 1 => fun k as ask M => match T k with
    | some f => (match f.ask, ask with
      | true, some a => runFn ⟨callN T sub n, a, none, sub⟩ f as M
      | false, none => runFn ⟨callN T sub n, noAsk, none, sub⟩ f as M
      | _, _ => .bad)
    | none => .bad
end Mj
/-! Mj3: the operations on data are those of the model. -/
namespace Mj
open PySem PySem.Spec PyProof.Rows L2

section
variable (fa : FB)
def Post (res β : List Addr) (H : Hp) (d : D) (M' : MH) (Q : VK) : Prop := ∀ v H' β', Step [] β H β' H' → Sim fa β' res M' H' → Rep fa β' res H' d v → Q v H'
def rS2 (g : D → D → MH → Res D) : R2 := fun x y H Q => ∃ res β M dx dy d M', Sim fa β res M H ∧ Rep fa β res H dx x ∧ Rep fa β res H dy y ∧ g dx dy M = .ok d M' ∧ Post fa res β H d M' Q
def rSc (g : D → D → MH → Option Bool) : R2 := fun x y H Q => ∃ res β M dx dy k, Sim fa β res M H ∧ Rep fa β res H dx x ∧ Rep fa β res H dy y ∧ g dx dy M = some k ∧ Q (.bl k) H
def rSl (g : List D → MH → Res D) : List V → Hp → VK → Prop := fun xs H Q => ∃ res β M ds d M', Sim fa β res M H ∧ Reps fa β res H ds xs ∧ g ds M = .ok d M' ∧ Post fa res β H d M' Q
end
section
variable {fa : FB} {X : Cx} {res β : List Addr} {M M' : MH} {H : Hp} {d : D} {v : V} {Q : VK}
theorem Post.same (P : Post fa res β H d M Q) (s : Sim fa β res M H) (r : Rep fa β res H d v) : Q v H := P v H β Step.refl s r
theorem Post.newL {m : Bool} {ds : List D} {vs : List V} (P : Post fa res β H d M' Q) (s : Sim fa β res M H) (r : Reps fa β res H ds vs) (h : newL m ds M = .ok d M') : ∀ p, H p = none → Q (.ref p) (upd H p (.lst vs)) := by
  intro p hp
  unfold Mj.newL at h
  cases m with
  | true =>
    rw [if_pos rfl] at h
    cases h
    refine P (.ref p) _ (β ++ [p]) (step_newM hp) (s.newM hp (.lst r)) (.ref ?_)
    rw [← s.len, List.getElem?_append_right (Nat.le_refl _)]
    simp
  | false =>
    rw [if_neg Bool.false_ne_true] at h
    cases h
    exact P (.ref p) _ β (step_new hp) (s.new hp) (.lst upd_same (s.fresh hp) (fun q => s.rt p q hp) (r.step (mv := []) (step_new hp) (by simp)))
theorem Post.tup {ds : List D} {vs : List V} (P : Post fa res β H (.tup ds) M Q) (s : Sim fa β res M H) (r : Reps fa β res H ds vs) : ∀ p o, H p = none → TupO o → Q (.ref p) (upd H p (.frz o (.tup vs))) := by
  intro p o hp pt
  exact P (.ref p) _ β (step_new hp) (s.new hp) (.tup upd_same pt (s.fresh hp) (fun q => s.rt p q hp) (r.step (mv := []) (step_new hp) (by simp)))
theorem getL_rep {ds : List D} (s : Sim fa β res M H) (r : Rep fa β res H d v) (h : getL M d = some ds) : ∃ a vs, v = .ref a ∧ H a = some (.lst vs) ∧ Reps fa β res H ds vs := by
  cases r with
  | lst e nb nr r => cases h; exact ⟨_, _, rfl, e, r⟩
  | @ref n a e =>
    simp only [getL] at h
    cases q : M[n]? with
    | none => rw [q] at h; cases h
    | some o =>
      rw [q] at h
      cases o with
      | dict _ => cases h
      | lst xs =>
        cases h
        obtain ⟨ho, e1, e2⟩ := s.at_ n a _ e q
        cases e2 with
        | lst r => exact ⟨_, _, rfl, e1, r⟩
  | _ => cases h
theorem getDict_rep {kvs : List (Key × D)} (s : Sim fa β res M H) (r : Rep fa β res H d v) (h : getDict M d = some kvs) : ∃ a vs, v = .ref a ∧ H a = some (.dK vs) ∧ RepKV fa β res H kvs vs := by
  cases r with
  | @ref n a e =>
    simp only [getDict] at h
    cases q : M[n]? with
    | none => rw [q] at h; cases h
    | some o =>
      rw [q] at h
      cases o with
      | lst _ => cases h
      | dict xs =>
        cases h
        obtain ⟨ho, e1, e2⟩ := s.at_ n a _ e q
        cases e2 with
        | dict r => exact ⟨_, _, rfl, e1, r⟩
  | _ => cases h
mutual
theorem Rep.dp {K : PySem.W.Frag} {d : D} {v : V} {p : PyData} : Rep fa β res H d v → py0 d = some p → Dp K H v p
  | .non, h => by simp [py0] at h; subst h; exact .non
  | .bl b, h => by simp [py0] at h; subst h; exact .bl b
  | .int b, h => by simp [py0] at h; subst h; exact .int b
  | .str b, h => by simp [py0] at h; subst h; exact .str b
  | .ty _, h => by simp [py0] at h
  | .fn _, h => by simp [py0] at h
  | .ref _, h => by simp [py0] at h
  | .scr _ _ _, h => by simp [py0] at h
  | .scrK _, h => by simp [py0] at h
  | .ptup _ _ _ _, h => by simp [py0] at h
  | .tup (ds := ds) e pt nb nr r, h => by
    simp only [py0] at h
    cases q : py0s ds with
    | none => rw [q] at h; cases h
    | some ps => rw [q] at h; cases h; exact .tup (SqT.ofF e) (Reps.dp r q)
  | .lst (ds := ds) e nb nr r, h => by
    simp only [py0] at h
    cases q : py0s ds with
    | none => rw [q] at h; cases h
    | some ps => rw [q] at h; cases h; exact .lst (SqL.of e) (Reps.dp r q)
theorem Reps.dp {K : PySem.W.Frag} {ds : List D} {vs : List V} {ps : List PyData} : Reps fa β res H ds vs → py0s ds = some ps → DpAll K H vs ps
  | .nil, h => by simp [py0s] at h; subst h; exact .nil
  | .cons (d := d) (ds := ds) r q, h => by
    simp only [py0s] at h
    cases e1 : py0 d with
    | none => rw [e1] at h; cases h
    | some p =>
      cases e2 : py0s ds with
      | none => rw [e1, e2] at h; cases h
      | some ps => rw [e1, e2] at h; cases h; exact .cons (Rep.dp r e1) (Reps.dp q e2)
end
theorem pyM_dp {K : PySem.W.Frag} {p : PyData} (s : Sim fa β res M H) (r : Rep fa β res H d v) (h : pyM M d = some p) : Dp K H v p := by
  cases r with
  | @ref n a e =>
    unfold pyM at h
    simp only at h
    cases q : M[n]? with
    | none => rw [q] at h; cases h
    | some o =>
      rw [q] at h
      cases o with
      | dict _ => cases h
      | lst xs =>
        simp only at h
        cases q2 : py0s xs with
        | none => rw [q2] at h; cases h
        | some ps =>
          rw [q2] at h
          cases h
          obtain ⟨ho, e1, e2⟩ := s.at_ n a _ e q
          cases e2 with
          | lst r => exact .lst (SqL.of e1) (r.dp q2)
  | tup e pt nb nr r => exact (Rep.tup e pt nb nr r).dp h
  | lst e nb nr r => exact (Rep.lst e nb nr r).dp h
  | non => exact Rep.dp (fa := fa) (β := β) (res := res) .non h
  | bl b => exact Rep.dp (fa := fa) (β := β) (res := res) (.bl b) h
  | int b => exact Rep.dp (fa := fa) (β := β) (res := res) (.int b) h
  | str b => exact Rep.dp (fa := fa) (β := β) (res := res) (.str b) h
  | _ => cases h
theorem SqL.ofK {K : PySem.W.Frag} {H : Hp} {a : Addr} {xs : List V} (h : SqL K (fun _ => none) a xs) : SqL K H a xs := by
  rcases h with (h | ⟨o, h⟩) | h
  · cases h
  · cases h
  · exact .inr h
theorem dp_ints {K : PySem.W.Frag} {H : Hp} : ∀ ns : List Int, DpAll K H (ns.map V.int) (ns.map PyData.int)
  | [] => .nil
  | n :: ns => .cons (.int n) (dp_ints ns)
theorem pyS_dp {K : PySem.W.Frag} {p : PyData} (hK : K = fa.K) (s : Sim fa β res M H) (r : Rep fa β res H d v) (h : pyS M d = some p) : Dp K H v p := by
  cases d with
  | scr ns =>
    cases h
    cases r with
    | scr e nb nr => exact .lst (.inl (.inr ⟨_, e⟩)) (dp_ints ns)
    | scrK h => exact .lst (by rw [hK]; exact SqL.ofK h) (dp_ints ns)
  | _ => exact pyM_dp s r h
theorem OpR.weak {f : Value → Value → Sem Value} {r r' : R2} (h : OpR X f r) (w : ∀ x y H Q, r' x y H Q → r x y H Q) : OpR X f r' := fun pins s σ H x y v u Q I rx ry q => h pins s σ H x y v u Q I rx ry (w x y H Q q)

/-! ### + - * // % ** -/
theorem num_rep {i : Int} (r : Rep fa β res H d v) (h : numD d = some i) : v = .int i ∨ ∃ b, v = .bl b ∧ i = if b = true then 1 else 0 := by
  cases r with
  | int j => cases h; exact .inl rfl
  | bl b => cases h; exact .inr ⟨b, rfl, rfl⟩
  | _ => cases h
theorem op_addN : OpR X (binaryOp .Add) (fun x y H Q => ∃ i j, (x = .int i ∨ ∃ b, x = .bl b ∧ i = if b = true then 1 else 0) ∧ (y = .int j ∨ ∃ b, y = .bl b ∧ j = if b = true then 1 else 0) ∧ Q (.int (i + j)) H) := by
  intro pins s σ H x y v u Q I rx ry h
  obtain ⟨i, j, hx, hy, q⟩ := h
  have fin : ∀ k, k = i + j → EP X pins σ Q (.int k s.toks) { s with toks := s.toks + 1 } := fun k e => ⟨.int k, H, I.tok _, ⟨_, rfl⟩, e ▸ q⟩
  rcases hx with rfl | ⟨b, rfl, rfl⟩
  · obtain ⟨t, rfl⟩ := rx
    rcases hy with rfl | ⟨c, rfl, rfl⟩
    · obtain ⟨t', rfl⟩ := ry
      exact add_int (fin _ rfl)
    · cases ry
      exact PySem.add_int_bool (fin _ rfl)
  · cases rx
    rcases hy with rfl | ⟨c, rfl, rfl⟩
    · obtain ⟨t', rfl⟩ := ry
      exact PySem.IntBool.add_bool_int (fin _ rfl)
    · cases ry
      exact add_bool (fin _ (by cases b <;> cases c <;> rfl))
theorem op_subN : OpR X (binaryOp .Sub) (fun x y H Q => ∃ i j, (x = .int i ∨ ∃ b, x = .bl b ∧ i = if b = true then 1 else 0) ∧ (y = .int j ∨ ∃ b, y = .bl b ∧ j = if b = true then 1 else 0) ∧ Q (.int (i - j)) H) := by
  intro pins s σ H x y v u Q I rx ry h
  obtain ⟨i, j, hx, hy, q⟩ := h
  have fin : ∀ k, k = i - j → EP X pins σ Q (.int k s.toks) { s with toks := s.toks + 1 } := fun k e => ⟨.int k, H, I.tok _, ⟨_, rfl⟩, e ▸ q⟩
  rcases hx with rfl | ⟨b, rfl, rfl⟩
  · obtain ⟨t, rfl⟩ := rx
    rcases hy with rfl | ⟨c, rfl, rfl⟩
    · obtain ⟨t', rfl⟩ := ry
      exact sub_int (fin _ rfl)
    · cases ry
      exact PySem.IntBool.sub_int_bool (fin _ rfl)
  · cases rx
    rcases hy with rfl | ⟨c, rfl, rfl⟩
    · obtain ⟨t', rfl⟩ := ry
      exact PySem.IntBool.sub_bool_int (fin _ rfl)
    · cases ry
      exact sub_bool (fin _ (by cases b <;> cases c <;> rfl))
theorem sim_add {m : Bool} : OpR X (binaryOp .Add) (rS2 fa (binD m .Add)) := by
  intro pins s σ H x y v u Q I rx ry h
  obtain ⟨res, β, M, dx, dy, d, M', S, r1, r2, e, P⟩ := h
  have num : ∀ i j, numD dx = some i → numD dy = some j → Res.ok (D.int (i + j)) M = .ok d M' → wpAny (model X.prog X.w) X.A (binaryOp .Add v u) (EP X pins σ Q) X.xe s := fun i j h1 h2 h3 => by
    cases h3
    exact op_addN pins s σ H x y v u Q I rx ry ⟨i, j, num_rep r1 h1, num_rep r2 h2, P.same S (.int _)⟩
  have lists : ∀ xs ys, getL M dx = some xs → getL M dy = some ys → (if xs.length + ys.length ≤ sizeLine then newL m (xs ++ ys) M else .bad) = .ok d M' → wpAny (model X.prog X.w) X.A (binaryOp .Add v u) (EP X pins σ Q) X.xe s := fun xs ys h1 h2 h3 => by
    obtain ⟨a, vs, e1, e2, e3⟩ := getL_rep S r1 h1
    obtain ⟨b, ws, f1, f2, f3⟩ := getL_rep S r2 h2
    split at h3
    · rename_i hz
      exact op_cat pins s σ H x y v u Q I rx ry ⟨a, b, vs, ws, e1, f1, e2, f2, by rw [← e3.length, ← f3.length]; exact hz, P.newL S (e3.append f3) h3⟩
    · cases h3
  have gen : (match numD dx, numD dy with
      | some i, some j => Res.ok (D.int (i + j)) M
      | _, _ => match getL M dx, getL M dy with
        | some xs, some ys => if xs.length + ys.length ≤ sizeLine then newL m (xs ++ ys) M else .bad
        | _, _ => .bad) = .ok d M' → wpAny (model X.prog X.w) X.A (binaryOp .Add v u) (EP X pins σ Q) X.xe s := fun h => by
    split at h
    · rename_i i j h1 h2
      exact num i j h1 h2 h
    · split at h
      · rename_i xs ys h1 h2
        exact lists xs ys h1 h2 h
      · cases h
  unfold binD at e
  simp only at e
  split at e
  · rename_i x' y'
    cases r1; cases r2
    split at e
    · rename_i hz
      cases e
      exact op_add_str pins s σ H _ _ v u Q I rx ry ⟨_, _, rfl, rfl, hz, P.same S (.str _)⟩
    · cases e
  · rename_i xs ys
    split at e
    · rename_i hz
      cases e
      cases r1 with
      | tup e1 pt1 nb1 nr1 q1 =>
        cases r2 with
        | tup e2 pt2 nb2 nr2 q2 =>
          refine op_catF pins s σ H _ _ v u Q I rx ry ⟨_, _, _, _, rfl, rfl, SqT.ofF e1, SqT.ofF e2, by rw [← q1.length, ← q2.length]; exact hz, fun z => ?_, fun _ z => ?_, fun _ _ => P.tup S (q1.append q2)⟩
          · subst z
            cases q1
            exact P.same S (.tup e2 pt2 nb2 nr2 q2)
          · subst z
            cases q2
            rw [List.append_nil] at P
            exact P.same S (.tup e1 pt1 nb1 nr1 q1)
    · cases e
  · exact gen e
theorem sim_sub {m : Bool} : OpR X (binaryOp .Sub) (rS2 fa (binD m .Sub)) := by
  intro pins s σ H x y v u Q I rx ry h
  obtain ⟨res, β, M, dx, dy, d, M', S, r1, r2, e, P⟩ := h
  unfold binD at e
  simp only at e
  split at e
  · rename_i i j h1 h2
    cases e
    exact op_subN pins s σ H x y v u Q I rx ry ⟨i, j, num_rep r1 h1, num_rep r2 h2, P.same S (.int _)⟩
  · cases e
theorem sim_fdiv {m : Bool} : OpR X (binaryOp .FloorDiv) (rS2 fa (binD m .FloorDiv)) := by
  intro pins s σ H x y v u Q I rx ry h
  obtain ⟨res, β, M, dx, dy, d, M', S, r1, r2, e, P⟩ := h
  unfold binD at e
  simp only at e
  split at e
  · rename_i i j
    cases r1; cases r2
    split at e
    · rename_i hz
      cases e
      exact op_fdiv pins s σ H _ _ v u Q I rx ry ⟨i, j, rfl, rfl, hz, P.same S (.int _)⟩
    · cases e
  · cases e
theorem sim_mod {m : Bool} : OpR X (binaryOp .Mod) (rS2 fa (binD m .Mod)) := by
  intro pins s σ H x y v u Q I rx ry h
  obtain ⟨res, β, M, dx, dy, d, M', S, r1, r2, e, P⟩ := h
  unfold binD at e
  simp only at e
  split at e
  · rename_i i j
    cases r1; cases r2
    split at e
    · rename_i hz
      cases e
      exact op_mod pins s σ H _ _ v u Q I rx ry ⟨i, j, rfl, rfl, hz, P.same S (.int _)⟩
    · cases e
  · cases e
theorem sim_pow {m : Bool} : OpR X (binaryOp .Pow) (rS2 fa (binD m .Pow)) := by
  intro pins s σ H x y v u Q I rx ry h
  obtain ⟨res, β, M, dx, dy, d, M', S, r1, r2, e, P⟩ := h
  unfold binD at e
  simp only at e
  split at e
  · rename_i i j
    cases r1; cases r2
    split at e
    · rename_i hz
      cases e
      exact op_pow pins s σ H _ _ v u Q I rx ry ⟨i, j, rfl, rfl, ⟨hz.1.1, hz.1.2, hz.2⟩, P.same S (.int _)⟩
    · cases e
  · cases e

/-! ### comparisons -/
theorem eqS_cases {M : MH} {dx dy : D} {k : Bool} (e : eqS M dx dy = some k) : (∃ x y, dx = .str x ∧ dy = .str y ∧ k = decide (x = y)) ∨ eqD M dx dy = some k := by
  unfold eqS at e
  split at e
  · cases e
    exact .inl ⟨_, _, rfl, rfl, rfl⟩
  · exact .inr e
theorem sim_eq (hu : X.A.units + 65 < cLine) (hK : X.K = fa.K) : OpR X (compareOp .Eq) (rSc fa (cmpD .Eq)) := by
  refine OpR.weak (OpR.or op_eq (op_eqD (by omega))) fun x y H Q h => ?_
  obtain ⟨res, β, M, dx, dy, k, S, r1, r2, e, P⟩ := h
  rcases eqS_cases (show eqS M dx dy = some k from e) with ⟨x, y, rfl, rfl, rfl⟩ | e'
  · cases r1; cases r2
    refine .inl ⟨rfl, ?_⟩
    rw [show decide (V.str x = V.str y) = decide (x = y) by simp]
    exact P
  unfold eqD at e'
  split at e'
  · rename_i p q h1 h2
    split at e'
    · rename_i hz
      cases e'
      obtain ⟨z1, z2⟩ := Bool.and_eq_true_iff.mp hz
      exact .inr ⟨p, q, pyS_dp hK S r1 h1, pyS_dp hK S r2 h2, z1, z2, P⟩
    · cases e'
  · cases e'
theorem sim_ne (hu : X.A.units + 65 < cLine) (hK : X.K = fa.K) : OpR X (compareOp .NotEq) (rSc fa (cmpD .NotEq)) := by
  refine OpR.weak (OpR.or op_ne (op_neD (by omega))) fun x y H Q h => ?_
  obtain ⟨res, β, M, dx, dy, k, S, r1, r2, e, P⟩ := h
  have e1 : (eqS M dx dy).map (!·) = some k := e
  obtain ⟨k', e2, rfl⟩ := Option.map_eq_some_iff.mp e1
  rcases eqS_cases e2 with ⟨x, y, rfl, rfl, rfl⟩ | e'
  · cases r1; cases r2
    refine .inl ⟨rfl, ?_⟩
    rw [show decide (V.str x = V.str y) = decide (x = y) by simp]
    exact P
  unfold eqD at e'
  split at e'
  · rename_i p q h1 h2
    split at e'
    · rename_i hz
      cases e'
      obtain ⟨z1, z2⟩ := Bool.and_eq_true_iff.mp hz
      exact .inr ⟨p, q, pyS_dp hK S r1 h1, pyS_dp hK S r2 h2, z1, z2, P⟩
    · cases e'
  · cases e'
theorem sim_lt : OpR X (compareOp .Lt) (rSc fa (cmpD .Lt)) := by
  refine OpR.weak (OpR.or op_lt op_lt_str) fun x y H Q h => ?_
  obtain ⟨res, β, M, dx, dy, k, S, r1, r2, e, P⟩ := h
  unfold cmpD at e
  simp only at e
  split at e
  · cases r1; cases r2; cases e; exact .inl ⟨_, _, rfl, rfl, P⟩
  · cases r1; cases r2; cases e; exact .inr ⟨_, _, rfl, rfl, P⟩
  · cases e
theorem sim_le : OpR X (compareOp .LtE) (rSc fa (cmpD .LtE)) := by
  refine OpR.weak (OpR.or op_le op_le_str) fun x y H Q h => ?_
  obtain ⟨res, β, M, dx, dy, k, S, r1, r2, e, P⟩ := h
  unfold cmpD at e
  simp only at e
  split at e
  · cases r1; cases r2; cases e; exact .inl ⟨_, _, rfl, rfl, P⟩
  · cases r1; cases r2; cases e; exact .inr ⟨_, _, rfl, rfl, P⟩
  · cases e
theorem sim_gt : OpR X (compareOp .Gt) (rSc fa (cmpD .Gt)) := by
  refine OpR.weak (OpR.or op_gt op_gt_str) fun x y H Q h => ?_
  obtain ⟨res, β, M, dx, dy, k, S, r1, r2, e, P⟩ := h
  unfold cmpD at e
  simp only at e
  split at e
  · cases r1; cases r2; cases e; exact .inl ⟨_, _, rfl, rfl, P⟩
  · cases r1; cases r2; cases e; exact .inr ⟨_, _, rfl, rfl, P⟩
  · cases e
theorem sim_ge : OpR X (compareOp .GtE) (rSc fa (cmpD .GtE)) := by
  refine OpR.weak (OpR.or op_ge op_ge_str) fun x y H Q h => ?_
  obtain ⟨res, β, M, dx, dy, k, S, r1, r2, e, P⟩ := h
  unfold cmpD at e
  simp only at e
  split at e
  · cases r1; cases r2; cases e; exact .inl ⟨_, _, rfl, rfl, P⟩
  · cases r1; cases r2; cases e; exact .inr ⟨_, _, rfl, rfl, P⟩
  · cases e
theorem op_inT (hu : X.A.units + 65 < cLine) : OpR X (compareOp .In) (fun x y H Q => ∃ d ds, Dp X.K H x d ∧ Dp X.K H y (.tuple ds) ∧ SeqAt.shaped d = true ∧ SeqAt.shaped (.tuple ds) = true ∧ Q (.bl (ds.any fun z => PyData.eqv z d)) H) := by
  intro pins s σ H x y v u Q I rx ry h
  obtain ⟨d, ds, hd, he, sd, se, q⟩ := h
  obtain ⟨as, r1⟩ := Dp.reads I d x v hd rx
  obtain ⟨bs, r2⟩ := Dp.reads I (.tuple ds) y u he ry
  exact SeqAt.in_tuple_reads r2 r1 (SeqAt.canLay_of_shaped se) (SeqAt.canLay_of_shaped sd) (room_in_shaped sd hu) ⟨.bl _, H, I, rfl, q⟩
theorem op_notInT (hu : X.A.units + 65 < cLine) : OpR X (compareOp .NotIn) (fun x y H Q => ∃ d ds, Dp X.K H x d ∧ Dp X.K H y (.tuple ds) ∧ SeqAt.shaped d = true ∧ SeqAt.shaped (.tuple ds) = true ∧ Q (.bl (!ds.any fun z => PyData.eqv z d)) H) := by
  intro pins s σ H x y v u Q I rx ry h
  obtain ⟨d, ds, hd, he, sd, se, q⟩ := h
  obtain ⟨as, r1⟩ := Dp.reads I d x v hd rx
  obtain ⟨bs, r2⟩ := Dp.reads I (.tuple ds) y u he ry
  exact SeqAt.notIn_tuple_reads r2 r1 (SeqAt.canLay_of_shaped se) (SeqAt.canLay_of_shaped sd) (room_in_shaped sd hu) ⟨.bl _, H, I, rfl, q⟩
theorem op_inK (hu : X.A.units + 65 < cLine) : OpR X (compareOp .In) (fun x y H Q => ∃ a o, y = .ref a ∧ DGet H a x o ∧ Q (.bl o.isSome) H) := by
  intro pins s σ H x y v u Q I rx ry h
  obtain ⟨a, o, rfl, g, q⟩ := h
  cases ry
  exact d_in (by omega) I g rx fun s' I' => ⟨.bl o.isSome, H, I', rfl, q⟩
theorem op_notInK (hu : X.A.units + 65 < cLine) : OpR X (compareOp .NotIn) (fun x y H Q => ∃ a o, y = .ref a ∧ DGet H a x o ∧ Q (.bl (!o.isSome)) H) := by
  intro pins s σ H x y v u Q I rx ry h
  obtain ⟨a, o, rfl, g, q⟩ := h
  cases ry
  exact d_notIn (by omega) I g rx fun s' I' => ⟨.bl (!o.isSome), H, I', rfl, q⟩
theorem any_rep {k : Key} : ∀ {kvs : List (Key × D)} {vs : List (Key × V)}, RepKV fa β res H kvs vs → (valV vs k).isSome = kvs.any fun kv => decide (kv.1 = k)
  | _, _, .nil => rfl
  | _, _, .cons (k := k') (v := v') (vs := vs) r q => by
    unfold valV
    rw [List.find?_cons, List.any_cons]
    by_cases e : k' = k
    · simp only [e, decide_true]
      rfl
    · simp only [e, decide_false, Bool.false_or]
      exact any_rep q
theorem keyOf_rep {k : Key} (r : Rep fa β res H d v) (h : keyOf d = some k) : v = kV k := by
  cases r <;> first | (cases h; rfl) | cases h
theorem inD_of {K : PySem.W.Frag} {dx dy : D} {x y : V} {k : Bool} (S : Sim fa β res M H) (r1 : Rep fa β res H dx x) (r2 : Rep fa β res H dy y) (e : inD M dx dy = some k) :
    (∃ i j, x = .str i ∧ y = .str j ∧ k = !(Builtin.Str.occurrences j i 0 j.length 1).isEmpty) ∨
    (∃ p qs, Dp K H x p ∧ Dp K H y (.list qs) ∧ SeqAt.shaped p = true ∧ SeqAt.shaped (.list qs) = true ∧ k = qs.any fun z => PyData.eqv z p) ∨
    (∃ p qs, Dp K H x p ∧ Dp K H y (.tuple qs) ∧ SeqAt.shaped p = true ∧ SeqAt.shaped (.tuple qs) = true ∧ k = qs.any fun z => PyData.eqv z p) ∨
    ∃ a o, y = .ref a ∧ DGet H a x o ∧ k = o.isSome := by
  unfold inD at e
  split at e
  · cases r1; cases r2; cases e; exact .inl ⟨_, _, rfl, rfl, rfl⟩
  · split at e
    · rename_i p qs h1 h2
      split at e
      · rename_i hz
        cases e
        obtain ⟨z1, z2⟩ := Bool.and_eq_true_iff.mp hz
        exact .inr (.inl ⟨p, qs, r1.dp h1, pyM_dp S r2 h2, z1, z2, rfl⟩)
      · cases e
    · rename_i p qs h1 h2
      split at e
      · rename_i hz
        cases e
        obtain ⟨z1, z2⟩ := Bool.and_eq_true_iff.mp hz
        exact .inr (.inr (.inl ⟨p, qs, r1.dp h1, pyM_dp S r2 h2, z1, z2, rfl⟩))
      · cases e
    · split at e
      · rename_i kvs k' h1 h2
        cases e
        obtain ⟨a, vs, g1, g2, g3⟩ := getDict_rep S r2 h1
        have ex := keyOf_rep r1 h2
        subst g1 ex
        exact .inr (.inr (.inr ⟨a, _, rfl, DGet.k g2, (any_rep g3).symm⟩))
      · cases e
theorem sim_in (hu : X.A.units + 65 < cLine) : OpR X (compareOp .In) (rSc fa (cmpD .In)) := by
  refine OpR.weak (OpR.or op_in_str (OpR.or (op_inD hu) (OpR.or (op_inT hu) (op_inK hu)))) fun x y H Q h => ?_
  obtain ⟨res, β, M, dx, dy, k, S, r1, r2, e, P⟩ := h
  rcases inD_of (K := X.K) S r1 r2 e with ⟨i, j, e1, e2, e3⟩ | ⟨p, qs, e1, e2, e3, e4, e5⟩ | ⟨p, qs, e1, e2, e3, e4, e5⟩ | ⟨a, o, e1, e2, e3⟩
  · exact .inl ⟨i, j, e1, e2, e3 ▸ P⟩
  · exact .inr (.inl ⟨p, qs, e1, e2, e3, e4, e5 ▸ P⟩)
  · exact .inr (.inr (.inl ⟨p, qs, e1, e2, e3, e4, e5 ▸ P⟩))
  · exact .inr (.inr (.inr ⟨a, o, e1, e2, e3 ▸ P⟩))
theorem sim_notin (hu : X.A.units + 65 < cLine) : OpR X (compareOp .NotIn) (rSc fa (cmpD .NotIn)) := by
  refine OpR.weak (OpR.or op_notin_str (OpR.or (op_notInD hu) (OpR.or (op_notInT hu) (op_notInK hu)))) fun x y H Q h => ?_
  obtain ⟨res, β, M, dx, dy, k, S, r1, r2, e, P⟩ := h
  have e' : (inD M dx dy).map (!·) = some k := e
  cases q : inD M dx dy with
  | none => rw [q] at e'; cases e'
  | some b =>
    rw [q] at e'
    cases e'
    rcases inD_of (K := X.K) S r1 r2 q with ⟨i, j, e1, e2, e3⟩ | ⟨p, qs, e1, e2, e3, e4, e5⟩ | ⟨p, qs, e1, e2, e3, e4, e5⟩ | ⟨a, o, e1, e2, e3⟩
    · exact .inl ⟨i, j, e1, e2, e3 ▸ P⟩
    · exact .inr (.inl ⟨p, qs, e1, e2, e3, e4, e5 ▸ P⟩)
    · exact .inr (.inr (.inl ⟨p, qs, e1, e2, e3, e4, e5 ▸ P⟩))
    · exact .inr (.inr (.inr ⟨a, o, e1, e2, e3 ▸ P⟩))
theorem rep_non (r : Rep fa β res H d v) : decide (v = .non) = match d with | .non => true | _ => false := by
  cases r <;> simp
theorem sim_is : OpR X (compareOp .Is) (rSc fa (cmpD .Is)) := by
  refine OpR.weak op_isN fun x y H Q h => ?_
  obtain ⟨res, β, M, dx, dy, k, S, r1, r2, e, P⟩ := h
  unfold cmpD at e
  simp only at e
  split at e
  · cases r2
    refine ⟨rfl, ?_⟩
    rw [rep_non r1]
    cases r1 <;> (cases e; exact P)
  · cases e
theorem sim_isnot : OpR X (compareOp .IsNot) (rSc fa (cmpD .IsNot)) := by
  refine OpR.weak op_notN fun x y H Q h => ?_
  obtain ⟨res, β, M, dx, dy, k, S, r1, r2, e, P⟩ := h
  unfold cmpD at e
  simp only at e
  split at e
  · cases r2
    refine ⟨rfl, ?_⟩
    rw [rep_non r1]
    cases r1 <;> (cases e; exact P)
  · cases e
theorem sim_cmp (hu : X.A.units + 65 < cLine) (hK : X.K = fa.K) (o : CmpOp) : OpR X (compareOp o) (rSc fa (cmpD o)) := by
  cases o with
  | Eq => exact sim_eq hu hK
  | NotEq => exact sim_ne hu hK
  | Lt => exact sim_lt
  | LtE => exact sim_le
  | Gt => exact sim_gt
  | GtE => exact sim_ge
  | Is => exact sim_is
  | IsNot => exact sim_isnot
  | In => exact sim_in hu
  | NotIn => exact sim_notin hu

/-! ### truth -/
theorem truD_of {K : PySem.W.Frag} {k : Bool} (S : Sim fa β res M H) (r : Rep fa β res H d v) (e : truD M d = some k) : TruV K v H k := by
  cases r with
  | non => cases e; rfl
  | bl b => cases e; rfl
  | int i => cases e; rfl
  | str x =>
    simp only [truD] at e
    split at e
    · rename_i hz; cases e; exact ⟨hz, rfl⟩
    · cases e
  | tup e1 pt nb nr q =>
    cases e
    refine .inr (.inl ⟨_, SqT.ofF e1, ?_⟩)
    cases q <;> rfl
  | lst e1 nb nr q =>
    cases e
    refine .inl ⟨_, SqL.of e1, ?_⟩
    cases q <;> rfl
  | @ref n a e1 =>
    simp only [truD] at e
    cases q : M[n]? with
    | none => rw [q] at e; cases e
    | some o =>
      obtain ⟨ho, h1, h2⟩ := S.at_ n a o e1 q
      rw [q] at e
      cases h2 with
      | lst r =>
        cases e
        refine .inl ⟨_, SqL.of h1, ?_⟩
        cases r <;> rfl
      | dict r =>
        cases e
        refine .inr (.inr ⟨_, h1, ?_⟩)
        cases r <;> rfl
  | _ => cases e
end
end Mj
/-! Mj4: products, subscripts, slices, built-in functions and methods. -/
namespace Mj
open PySem PySem.Spec PyProof.Rows L2

section
variable {fa : FB} {X : Cx} {res β : List Addr} {M M' : MH} {H : Hp} {d : D} {v : V} {Q : VK}
theorem Reps.rep {ds : List D} {vs : List V} (r : Reps fa β res H ds vs) : ∀ k : Nat, Reps fa β res H (List.replicate k ds).flatten (List.replicate k vs).flatten
  | 0 => .nil
  | k + 1 => by
    rw [List.replicate_succ, List.replicate_succ, List.flatten_cons, List.flatten_cons]
    exact r.append (r.rep k)
theorem mulok {x : Str} {j : Int} (h : 0 ≤ j ∧ j < 100000 ∧ x.length < 100) : MulOk x j := by
  obtain ⟨h0, h1, h2⟩ := h
  refine ⟨?_, fun h3 _ => ?_, fun h3 _ => ?_⟩
  · have a : ¬ j < -(2 ^ 63 : Int) := by omega
    have b : ¬ j ≥ 2 ^ 63 := by omega
    rw [decide_eq_false a, decide_eq_false b]; rfl
  · intro h4
    have h5 : (2 ^ 63 - 1 : Int) / j ≥ 100 := by
      apply (Int.le_ediv_iff_mul_le (by omega)).mpr
      omega
    omega
  · have : x.length * j.toNat ≤ 100 * 100000 := Nat.mul_le_mul (by omega) (by omega)
    simp only [Builtin.Str.tooLong, decide_eq_false_iff_not]
    show ¬ (x.length * j.toNat > 2 ^ 24)
    omega
theorem sim_mul {m : Bool} : OpR X (binaryOp .Mult) (rS2 fa (binD m .Mult)) := by
  intro pins s σ H x y v u Q I rx ry h
  obtain ⟨res, β, M, dx, dy, d, M', S, r1, r2, e, P⟩ := h
  simp only [binD] at e
  split at e
  · rename_i i j
    cases r1; cases r2
    split at e
    · rename_i hz
      cases e
      refine op_mul pins s σ H _ _ v u Q I rx ry ⟨i, j, rfl, rfl, ?_, P.same S (.int _)⟩
      unfold mulOk at hz
      rcases Bool.or_eq_true_iff.mp hz with hz | hz
      · obtain ⟨a, b⟩ := Bool.and_eq_true_iff.mp hz
        exact .inl ⟨of_decide_eq_true a, of_decide_eq_true b⟩
      · obtain ⟨a, b⟩ := Bool.and_eq_true_iff.mp hz
        exact .inr ⟨of_decide_eq_true a, of_decide_eq_true b⟩
    · cases e
  · rename_i z j
    cases r1; cases r2
    split at e
    · rename_i hz
      cases e
      obtain ⟨t, rfl⟩ := rx
      obtain ⟨t', rfl⟩ := ry
      exact PySem.SB.mul (mulok hz) fun t' k => ⟨.str _, H, I.tok _, ⟨_, rfl⟩, P.same S (.str _)⟩
    · cases e
  · rename_i j _ _
    cases r2
    split at e
    · rename_i xs hx
      obtain ⟨a, vs, e1, e2, e3⟩ := getL_rep S r1 hx
      split at e
      · rename_i hz
        refine op_rep pins s σ H _ _ v u Q I rx ry ⟨a, j, vs, e1, rfl, e2, by omega, by omega, by rw [← e3.length]; exact hz.2, P.newL S (e3.rep _) e⟩
      · cases e
    · cases e
  · cases e
theorem sim_bin (m : Bool) (o : Operator) : OpR X (binaryOp o) (rS2 fa (binD m o)) := by
  cases o with
  | Add => exact sim_add
  | Sub => exact sim_sub
  | Mult => exact sim_mul
  | FloorDiv => exact sim_fdiv
  | Mod => exact sim_mod
  | Pow => exact sim_pow
  | _ =>
    intro pins s σ H x y v u Q I rx ry h
    obtain ⟨res, β, M, dx, dy, d, M', S, r1, r2, e, P⟩ := h
    simp only [binD] at e
    cases e

/-! ### subscripts -/
theorem atI_rep {ds : List D} {vs : List V} {i : Int} (r : Reps fa β res H ds vs) (h : atI ds i = some d) : ∃ v, atI vs i = some v ∧ Rep fa β res H d v := by
  unfold atI at h ⊢
  rw [← r.length]
  cases q : ixN ds.length i with
  | none => rw [q] at h; cases h
  | some j =>
    rw [q] at h
    exact r.get h
theorem lookK_rep {k : Key} {d : D} : ∀ {kvs : List (Key × D)} {vs : List (Key × V)}, RepKV fa β res H kvs vs → lookK kvs k = some d → ∃ v, valV vs k = some v ∧ Rep fa β res H d v
  | _, _, .nil, h => by simp [lookK] at h
  | _, _, .cons (k := k') (d := d') (v := v') r q, h => by
    unfold lookK at h
    rw [List.find?_cons] at h
    by_cases e : k' = k
    · simp only [e, decide_true] at h
      cases h
      exact ⟨v', valV_pos e, r⟩
    · simp only [e, decide_false] at h
      obtain ⟨v, h1, h2⟩ := lookK_rep q h
      refine ⟨v, ?_, h2⟩
      unfold valV at h1 ⊢
      rw [List.find?_cons]
      simp only [e, decide_false]
      exact h1
theorem putD_rep {k : Key} {kvs : List (Key × D)} {vs : List (Key × V)} (r : RepKV fa β res H kvs vs) (q : Rep fa β res H d v) : RepKV fa β res H (putD kvs k d) (putK vs k v) := by
  have any : ∀ {kvs : List (Key × D)} {vs : List (Key × V)}, RepKV fa β res H kvs vs → (kvs.any fun kv => decide (kv.1 = k)) = (vs.any fun kv => decide (kv.1 = k)) := by
    intro kvs vs r
    induction r with
    | nil => rfl
    | cons _ _ ih => simp only [List.any_cons, ih]
  have mp : ∀ {kvs : List (Key × D)} {vs : List (Key × V)}, RepKV fa β res H kvs vs → RepKV fa β res H (kvs.map (fun kv => if kv.1 = k then (kv.1, d) else kv)) (vs.map (fun kv => if kv.1 = k then (kv.1, v) else kv)) := by
    intro kvs vs r
    induction r with
    | nil => exact .nil
    | @cons k' d' v' ds vs r1 _ ih =>
      rw [List.map_cons, List.map_cons]
      by_cases e : k' = k
      · simp only [e, if_true]
        exact .cons q ih
      · simp only [e, if_false]
        exact .cons r1 ih
  have ap : ∀ {kvs : List (Key × D)} {vs : List (Key × V)}, RepKV fa β res H kvs vs → RepKV fa β res H (kvs ++ [(k, d)]) (vs ++ [(k, v)]) := by
    intro kvs vs r
    induction r with
    | nil => exact .cons q .nil
    | cons r1 _ ih => exact .cons r1 ih
  unfold putD putK
  rw [any r]
  split
  · exact mp r
  · exact ap r
theorem RepKV.length : ∀ {kvs : List (Key × D)} {vs : List (Key × V)}, RepKV fa β res H kvs vs → kvs.length = vs.length
  | _, _, .nil => rfl
  | _, _, .cons _ q => by simp [q.length]
theorem idx_dict {dx dy : D} {x y : V} {M : MH} {kvs : List (Key × D)} (S : Sim fa β res M H) (r1 : Rep fa β res H dx x) (r2 : Rep fa β res H dy y) (hd : getDict M dx = some kvs) (h : idxD dx dy M = some d) : ∃ (a : Addr) (w : V), x = .ref a ∧ DGet H a y (some w) ∧ Rep fa β res H d w := by
  obtain ⟨a, vs, e1, e2, e3⟩ := getDict_rep S r1 hd
  have hl : getL M dx = none := by
    unfold getDict at hd
    split at hd
    · split at hd
      · rename_i hq; simp only [getL, hq]
      · cases hd
    · cases hd
  unfold idxD at h
  split at h
  · cases hd
  · cases hd
  · split at h
    · simp_all
    · split at h
      · rename_i kvs' k hx hk
        rw [hd] at hx
        cases hx
        obtain ⟨w, h1, h2⟩ := lookK_rep e3 h
        refine ⟨a, w, e1, ?_, h2⟩
        rw [keyOf_rep r2 hk, ← h1]
        exact DGet.k e2
      · cases h
theorem idx_seq {dx dy : D} {x y : V} {M : MH} (S : Sim fa β res M H) (r1 : Rep fa β res H dx x) (r2 : Rep fa β res H dy y) (hd : getDict M dx = none) (h : idxD dx dy M = some d) (P : ∀ w, Rep fa β res H d w → Q w H) : rIx X.K x y H Q := by
  unfold idxD at h
  split at h
  · cases r1; cases r2
    split at h
    · rename_i z k hz
      cases q : atI z.cps.toList k with
      | none => rw [q] at h; cases h
      | some c =>
        rw [q] at h
        cases h
        exact .inr (.inr ⟨z, k, c, rfl, rfl, hz, q, P _ (.str _)⟩)
    · cases h
  · cases r2
    cases r1 with
    | tup e pt nb nr q =>
      obtain ⟨w, h1, h2⟩ := atI_rep q h
      exact .inr (.inl ⟨_, _, _, w, rfl, rfl, SqT.ofF e, h1, P _ h2⟩)
  · split at h
    · obtain ⟨a, vs, e1, e2, e3⟩ := getL_rep S r1 (by assumption)
      cases r2
      obtain ⟨w, h1, h2⟩ := atI_rep e3 h
      exact .inl ⟨a, vs, _, w, e1, rfl, SqL.of e2, h1, P _ h2⟩
    · split at h
      · simp_all
      · cases h

/-! ### slices -/
theorem cutD_rep {ds : List D} {vs : List V} {lo hi : Option Int} (r : Reps fa β res H ds vs) : Reps fa β res H (cutD ds lo hi) (cutV vs lo hi) := by
  unfold cutD cutV
  rw [r.length]
  exact (r.drop _).take _
theorem ints_rep : ∀ ns : List Int, Reps fa β res H (ns.map D.int) (ns.map V.int)
  | [] => .nil
  | n :: r => .cons (.int n) (ints_rep r)
theorem sim_slice (hK : X.K = fa.K) (m : Bool) : SlR X (fun x lo hi H Q => ∃ res β M dx d M', Sim fa β res M H ∧ Rep fa β res H dx x ∧ sliceD m dx lo hi M = .ok d M' ∧ Post fa res β H d M' Q) := by
  have W : ∀ {r r' : V → Option Int → Option Int → Hp → VK → Prop}, SlR X r → (∀ x lo hi H Q, r' x lo hi H Q → r x lo hi H Q) → SlR X r' := fun h w pins s σ H x v vl vu lo hi sl Q I rx hs pl pu q => h pins s σ H x v vl vu lo hi sl Q I rx hs pl pu (w _ _ _ _ _ q)
  refine W (SlR.or (SlR.or sl_list sl_tupF) sl_str) fun x lo hi H Q h => ?_
  obtain ⟨res, β, M, dx, d, M', S, r, e, P⟩ := h
  unfold sliceD at e
  split at e
  · cases r
    split at e
    · rename_i hz; cases e; exact .inr ⟨_, rfl, hz, P.same S (.str _)⟩
    · cases e
  · rename_i ds
    cases e
    cases r with
    | @tup a _ _ vs e pt nb nr q =>
      refine .inl (.inr ⟨a, vs, rfl, SqT.ofF e, fun hw => ?_, fun _ => P.tup S (cutD_rep q)⟩)
      have : cutD ds lo hi = ds := by
        unfold cutD
        rw [q.length, hw.1, hw.2, List.drop_zero, Nat.sub_zero, ← q.length, List.take_length]
      rw [this] at P
      exact P.same S (.tup e pt nb nr q)
  · cases r with
    | scr e1 nb nr =>
      refine .inl (.inl ⟨_, _, rfl, .inl (.inr ⟨_, e1⟩), ?_⟩)
      exact P.newL S (cutD_rep (ints_rep _)) e
    | scrK h =>
      refine .inl (.inl ⟨_, _, rfl, by rw [hK]; exact SqL.ofK h, ?_⟩)
      exact P.newL S (cutD_rep (ints_rep _)) e
  · split at e
    · rename_i xs hx
      obtain ⟨a, vs, e1, e2, e3⟩ := getL_rep S r hx
      exact .inl (.inl ⟨a, vs, e1, SqL.of e2, P.newL S (cutD_rep e3) e⟩)
    · cases e
theorem Reps.pick {ds : List D} {vs : List V} (r : Reps fa β res H ds vs) : ∀ is : List Nat, Reps fa β res H (is.filterMap (ds[·]?)) (is.filterMap (vs[·]?))
  | [] => .nil
  | i :: is => by
    rw [List.filterMap_cons, List.filterMap_cons]
    cases q : ds[i]? with
    | none =>
      have : vs[i]? = none := by
        rw [List.getElem?_eq_none_iff] at q ⊢
        rw [← r.length]; exact q
      rw [this]
      exact r.pick is
    | some d =>
      obtain ⟨w, h1, h2⟩ := r.get q
      rw [h1]
      exact .cons h2 (r.pick is)
theorem vals_pick {vs : List V} {us : List Value} (r : Vals vs us) : ∀ is : List Nat, Vals (is.filterMap (vs[·]?)) (is.filterMap (us[·]?))
  | [] => .nil
  | i :: is => by
    rw [List.filterMap_cons, List.filterMap_cons]
    cases q : vs[i]? with
    | none =>
      rw [r.none_of q]
      exact vals_pick r is
    | some d =>
      obtain ⟨w, h1, h2⟩ := r.get q
      rw [h1]
      exact .cons h2 (vals_pick r is)
end
end Mj
/-! Mj5: built-in functions and methods. -/
namespace Mj
open PySem PySem.Spec PyProof.Rows L2

/-! ### sorted texts -/
theorem ltCps_lt : ∀ a b : List Nat, ltCps a b = decide (a < b)
  | [], [] => by simp [ltCps]
  | [], _ :: _ => by simp [ltCps]
  | _ :: _, [] => by simp [ltCps]
  | a :: r, b :: t => by
    rw [ltCps, ltCps_lt r t, Bool.eq_iff_iff]
    simp [List.cons_lt_cons_iff]
def leS (x y : Str) : Prop := ltS y x = false
theorem leS_iff {x y : Str} : leS x y ↔ x.cps.toList ≤ y.cps.toList := by
  unfold leS ltS
  rw [decide_eq_false_iff_not, List.not_lt]
theorem leS_trans {x y z : Str} (a : leS x y) (b : leS y z) : leS x z := leS_iff.mpr (List.le_trans (leS_iff.mp a) (leS_iff.mp b))
theorem leS_antisymm {x y : Str} (a : leS x y) (b : leS y x) : x = y := by
  have := List.le_antisymm (leS_iff.mp a) (leS_iff.mp b)
  obtain ⟨⟨x⟩⟩ := x
  obtain ⟨⟨y⟩⟩ := y
  simp only at this
  rw [this]
theorem rising_pw : ∀ (l : List Str) (x : Str), risingS x l = true → (x :: l).Pairwise leS
  | [], x, _ => by simp
  | y :: r, x, h => by
    unfold risingS at h
    obtain ⟨h1, h2⟩ := Bool.and_eq_true_iff.mp h
    have ih := rising_pw r y h2
    have xy : leS x y := by
      unfold leS ltS
      rw [← ltCps_lt]
      simpa using h1
    refine List.Pairwise.cons (fun z hz => ?_) ih
    rcases List.mem_cons.mp hz with rfl | hz
    · exact xy
    · exact leS_trans xy (List.rel_of_pairwise_cons ih hz)
theorem sorted_pw {l : List Str} (h : sortedS l = true) : l.Pairwise leS := by
  cases l with
  | nil => simp
  | cons x r => exact rising_pw r x h
theorem insS_perm (x : Str) : ∀ l : List Str, (insS x l).Perm (x :: l)
  | [] => .refl _
  | y :: r => by
    unfold insS
    split
    · exact ((insS_perm x r).cons y).trans (.swap _ _ _)
    · exact .refl _
theorem sortS_perm : ∀ l : List Str, (sortS l).Perm l
  | [] => .refl _
  | x :: r => (insS_perm x _).trans ((sortS_perm r).cons x)
theorem insS_pw (x : Str) : ∀ l : List Str, l.Pairwise leS → (insS x l).Pairwise leS
  | [], _ => by simp [insS]
  | y :: r, h => by
    unfold insS
    by_cases q : ltS y x = true
    · rw [if_pos q]
      refine List.Pairwise.cons (fun z hz => ?_) (insS_pw x r h.of_cons)
      rcases List.mem_cons.mp ((insS_perm x r).mem_iff.mp hz) with rfl | hz
      · show ltS z y = false
        unfold ltS at q ⊢
        have q' := of_decide_eq_true q
        exact decide_eq_false (List.lt_asymm q')
      · exact List.rel_of_pairwise_cons h hz
    · rw [if_neg q]
      have xy : leS x y := Bool.eq_false_iff.mpr q
      refine List.Pairwise.cons (fun z hz => ?_) h
      rcases List.mem_cons.mp hz with rfl | hz
      · exact xy
      · exact leS_trans xy (List.rel_of_pairwise_cons h hz)
theorem sortS_pw : ∀ l : List Str, (sortS l).Pairwise leS
  | [] => by simp [sortS]
  | x :: r => insS_pw x _ (sortS_pw r)
theorem pw_unique : ∀ {a b : List Str}, a.Perm b → a.Pairwise leS → b.Pairwise leS → a = b
  | [], b, p, _, _ => (List.nil_perm.mp p).symm
  | x :: a, [], p, _, _ => absurd p.length_eq (by simp)
  | x :: a, y :: b, p, ha, hb => by
    have e : x = y := by
      have hx : x ∈ y :: b := p.mem_iff.mp (by simp)
      have hy : y ∈ x :: a := p.mem_iff.mpr (by simp)
      rcases List.mem_cons.mp hx with e | hx
      · exact e
      · rcases List.mem_cons.mp hy with e | hy
        · exact e.symm
        · exact leS_antisymm (List.rel_of_pairwise_cons ha hy) (List.rel_of_pairwise_cons hb hx)
    subst e
    rw [pw_unique (List.Perm.cons_inv p) ha.of_cons hb.of_cons]
theorem sortS_eq {xs ys : List Str} (p : ys.Perm xs) (h : sortedS ys = true) : ys = sortS xs :=
  pw_unique (p.trans (sortS_perm xs).symm) (sorted_pw h) (sortS_pw xs)

section
variable {fa : FB} {X : Cx} {res β : List Addr} {M M' : MH} {H : Hp} {d : D} {v : V} {Q : VK}
theorem Post.newM {o : MO} {ho : HO} (P : Post fa res β H (.ref M.length) (M ++ [o]) Q) (s : Sim fa β res M H) (r : RepO fa β res H o ho) : ∀ p, H p = none → Q (.ref p) (upd H p ho) := by
  intro p hp
  refine P (.ref p) _ (β ++ [p]) (step_newM hp) (s.newM hp r) (.ref ?_)
  rw [← s.len, List.getElem?_append_right (Nat.le_refl _)]
  simp
theorem Post.write {n : Nat} {a : Addr} {o : MO} {ho : HO} (P : Post fa res β H d (M.set n o) Q) (s : Sim fa β res M H) (e : β[n]? = some a) (r : RepO fa β res H o ho) (q : Rep fa β res H d v) : Q v (upd H a ho) := by
  have hm : a ∈ β := List.mem_of_getElem? e
  exact P v _ β (step_write hm) (s.write e r) (q.step (mv := []) (step_write hm) (by simp))
theorem bools_rep : ∀ {ds : List D} {vs : List V} {bs : List Bool}, Reps fa β res H ds vs → boolsOf ds = some bs → vs = bs.map V.bl
  | _, _, _, .nil, h => by simp [boolsOf] at h; subst h; rfl
  | _, _, _, .cons (d := d) (ds := ds) r q, h => by
    cases r with
    | bl b =>
      simp only [boolsOf] at h
      cases e : boolsOf ds with
      | none => rw [e] at h; cases h
      | some bs => rw [e] at h; cases h; rw [bools_rep q e]; rfl
    | _ => simp [boolsOf] at h
theorem strs_rep : ∀ {ds : List D} {vs : List V} {bs : List Str}, Reps fa β res H ds vs → strsOf ds = some bs → vs = bs.map V.str
  | _, _, _, .nil, h => by simp [strsOf] at h; subst h; rfl
  | _, _, _, .cons (d := d) (ds := ds) r q, h => by
    cases r with
    | str b =>
      simp only [strsOf] at h
      cases e : strsOf ds with
      | none => rw [e] at h; cases h
      | some bs => rw [e] at h; cases h; rw [strs_rep q e]; rfl
    | _ => simp [strsOf] at h
theorem reps_strs : ∀ xs : List Str, Reps fa β res H (xs.map D.str) (xs.map V.str)
  | [] => .nil
  | x :: r => .cons (.str x) (reps_strs r)
theorem keys_rep : ∀ {kvs : List (Key × D)} {vs : List (Key × V)} {ks : List Str}, RepKV fa β res H kvs vs → keysS kvs = some ks → vs.map (·.1) = ks.map Sum.inr
  | _, _, _, .nil, h => by simp [keysS] at h; subst h; rfl
  | _, _, _, .cons (k := k) (ds := ds) r q, h => by
    cases k with
    | inl i => simp [keysS] at h
    | inr x =>
      simp only [keysS] at h
      cases e : keysS ds with
      | none => rw [e] at h; cases h
      | some bs => rw [e] at h; cases h; rw [List.map_cons, keys_rep q e]; rfl
theorem pairs_rep {K : PySem.W.Frag} : ∀ {ds : List D} {vs : List V} {kvs : List (Key × D)}, Reps fa β res H ds vs → pairsOf ds = some kvs → ∃ (ps : List Addr) (ws : List (Key × V)), vs = ps.map V.ref ∧ Paired (fun p kv => SqT K H p [kV kv.1, kv.2]) ps ws ∧ RepKV fa β res H kvs ws
  | _, _, _, .nil, h => by simp [pairsOf] at h; subst h; exact ⟨[], [], rfl, .nil, .nil⟩
  | _, _, _, .cons (d := d) (ds := ds) r q, h => by
    unfold pairsOf at h
    split at h
    · rename_i e; cases e
    · rename_i k w rest e
      cases e
      split at h
      · rename_i k' rest' h1 h2
        cases h
        obtain ⟨ps, ws, e1, e2, e3⟩ := pairs_rep (K := K) q h2
        cases r with
        | @tup a _ _ vs e pt nb nr rr =>
          cases rr with
          | cons r1 r2 =>
            cases r2 with
            | cons r3 r4 =>
              cases r4
              refine ⟨a :: ps, (k', _) :: ws, by rw [e1]; rfl, .cons ?_ e2, .cons r3 e3⟩
              rw [keyOf_rep r1 h1] at e
              exact SqT.ofF e
      · cases h
    · cases h
theorem merge_rep {more : List (Key × D)} {ms : List (Key × V)} (q : RepKV fa β res H more ms) : ∀ {kvs : List (Key × D)} {vs : List (Key × V)}, RepKV fa β res H kvs vs → RepKV fa β res H (more.foldl (fun acc kv => putD acc kv.1 kv.2) kvs) (mergeK vs ms) := by
  induction q with
  | nil => intro kvs vs r; exact r
  | cons q t ih => intro kvs vs r; exact ih (putD_rep r q)
theorem Dp.noDict {K : PySem.W.Frag} : ∀ (p : PyData) (v : V), Dp K H v p → p.hasDict = false ∧ True := by
  intro p
  exact PyData.rec (motive_1 := fun p => ∀ v, Dp K H v p → p.hasDict = false ∧ True) (motive_2 := fun ps => ∀ vs, DpAll K H vs ps → PyData.hasDictAll ps = false) (motive_3 := fun _ => True) (motive_4 := fun _ => True)
    (fun _ _ => ⟨rfl, trivial⟩) (fun _ _ _ => ⟨rfl, trivial⟩) (fun _ _ _ => ⟨rfl, trivial⟩) (fun _ _ _ => ⟨rfl, trivial⟩)
    (fun xs ih v h => by cases h with | lst _ ha => exact ⟨by simp only [PyData.hasDict]; exact ih _ ha, trivial⟩)
    (fun xs ih v h => by cases h with | tup _ ha => exact ⟨by simp only [PyData.hasDict]; exact ih _ ha, trivial⟩)
    (fun kvs _ v h => by cases h)
    (fun _ _ => by simp only [PyData.hasDictAll]) (fun d ds h1 h2 vs h => by cases h with | cons a b => simp only [PyData.hasDictAll, (h1 _ a).1, h2 _ b]; rfl)
    trivial (fun _ _ _ _ => trivial) (fun _ _ _ _ => trivial) p
theorem reps1 {ds : List D} {x : V} (r : Reps fa β res H ds [x]) : ∃ d, ds = [d] ∧ Rep fa β res H d x := by
  cases r with
  | cons a b => cases b; exact ⟨_, rfl, a⟩
theorem reps1' {a : D} {vs : List V} (r : Reps fa β res H [a] vs) : ∃ x, vs = [x] ∧ Rep fa β res H a x := by
  cases r with
  | cons a b => cases b; exact ⟨_, rfl, a⟩
theorem reps2' {a b : D} {vs : List V} (r : Reps fa β res H [a, b] vs) : ∃ x y, vs = [x, y] ∧ Rep fa β res H a x ∧ Rep fa β res H b y := by
  cases r with
  | cons a r => cases r with
    | cons b r => cases r; exact ⟨_, _, rfl, a, b⟩
theorem bi_len {m : Bool} : CallR X (.builtin "len") (rSl fa (biD m "len")) := by
  intro pins s σ H xs us Q I rx h
  obtain ⟨res, β, M, ds, d, M', S, r, e, P⟩ := h
  replace e : biLen ds M = .ok d M' := e
  unfold biLen at e
  refine call_len pins s σ H xs us Q I rx ?_
  split at e
  · obtain ⟨x, rfl, q⟩ := reps1' r
    cases q
    split at e
    · rename_i hz; cases e; exact ⟨_, _, rfl, ⟨hz, rfl⟩, P.same S (.int _)⟩
    · cases e
  · obtain ⟨x, rfl, q⟩ := reps1' r
    cases e
    cases q with
    | tup e1 pt nb nr q => exact ⟨_, _, rfl, .inr ⟨_, SqT.ofF e1, q.length⟩, P.same S (.int _)⟩
  · obtain ⟨x, rfl, q⟩ := reps1' r
    split at e
    · cases e
      obtain ⟨a, vs, e1, e2, e3⟩ := getL_rep S q (by assumption)
      subst e1
      exact ⟨_, _, rfl, .inl ⟨_, SqL.of e2, e3.length⟩, P.same S (.int _)⟩
    · cases e
  · cases e
theorem bi_isi {m : Bool} : CallR X (.builtin "isinstance") (rSl fa (biD m "isinstance")) := by
  intro pins s σ H xs us Q I rx h
  obtain ⟨res, β, M, ds, d, M', S, r, e, P⟩ := h
  replace e : biIsi ds M = .ok d M' := e
  unfold biIsi at e
  split at e
  · rename_i a t
    obtain ⟨x, y, rfl, q1, q2⟩ := reps2' r
    cases q2
    refine call_isi pins s σ H _ us Q I rx ?_
    cases q : isiD a t with
    | none => rw [q] at e; cases e
    | some b =>
      rw [q] at e
      cases e
      have Pb : Q (.bl b) H := P.same S (.bl _)
      unfold isiD at q
      have fin : ∀ (T : String), TyX X.K H x (.type T) → kitB T t = some b → rIsi X.K [x, .ty t] H Q := fun T h1 h2 => ⟨x, .ty t, .type T, .type t, b, rfl, .ty t, h1, kit_ty h2, Pb⟩
      split at q
      · rename_i ht; subst ht
        cases q1 with
        | non => cases q; exact fin "NoneType" (.base .non) (by decide +kernel)
        | bl b => cases q; exact fin "bool" (.base (.bl b)) (by decide +kernel)
        | int i => cases q; exact fin "int" (.base (.int i)) (by decide +kernel)
        | str i => cases q; exact fin "str" (.base (.str i)) (by decide +kernel)
        | tup e1 => cases q; exact fin "tuple" (.fTuple e1) (by decide +kernel)
        | lst e1 => cases q; exact fin "list" (.base (.lst e1)) (by decide +kernel)
        | _ => cases q
      · split at q
        · rename_i ht; subst ht
          cases q1 with
          | non => cases q; exact fin "NoneType" (.base .non) (by decide +kernel)
          | bl b => cases q; exact fin "bool" (.base (.bl b)) (by decide +kernel)
          | int i => cases q; exact fin "int" (.base (.int i)) (by decide +kernel)
          | str i => cases q; exact fin "str" (.base (.str i)) (by decide +kernel)
          | tup e1 => cases q; exact fin "tuple" (.fTuple e1) (by decide +kernel)
          | lst e1 => cases q; exact fin "list" (.base (.lst e1)) (by decide +kernel)
          | _ => cases q
        · split at q
          · rename_i ht; subst ht
            cases q1 with
            | non => cases q; exact fin "NoneType" (.base .non) (by decide +kernel)
            | bl b => cases q; exact fin "bool" (.base (.bl b)) (by decide +kernel)
            | int i => cases q; exact fin "int" (.base (.int i)) (by decide +kernel)
            | str i => cases q; exact fin "str" (.base (.str i)) (by decide +kernel)
            | tup e1 => cases q; exact fin "tuple" (.fTuple e1) (by decide +kernel)
            | lst e1 => cases q; exact fin "list" (.base (.lst e1)) (by decide +kernel)
            | _ => cases q
          · split at q
            · rename_i ht; subst ht
              cases q1 with
              | non => cases q; exact fin "NoneType" (.base .non) (by decide +kernel)
              | bl b => cases q; exact fin "bool" (.base (.bl b)) (by decide +kernel)
              | int i => cases q; exact fin "int" (.base (.int i)) (by decide +kernel)
              | str i => cases q; exact fin "str" (.base (.str i)) (by decide +kernel)
              | tup e1 => cases q; exact fin "tuple" (.fTuple e1) (by decide +kernel)
              | lst e1 => cases q; exact fin "list" (.base (.lst e1)) (by decide +kernel)
              | _ => cases q
            · split at q
              · rename_i ht; subst ht
                cases q1 with
                | non => cases q; exact fin "NoneType" (.base .non) (by decide +kernel)
                | bl b => cases q; exact fin "bool" (.base (.bl b)) (by decide +kernel)
                | int i => cases q; exact fin "int" (.base (.int i)) (by decide +kernel)
                | str i => cases q; exact fin "str" (.base (.str i)) (by decide +kernel)
                | tup e1 => cases q; exact fin "tuple" (.fTuple e1) (by decide +kernel)
                | lst e1 => cases q; exact fin "list" (.base (.lst e1)) (by decide +kernel)
                | _ => cases q
              · cases q
  · cases e
theorem bi_int {m : Bool} : CallR X (.type "int") (rSl fa (biD m "int")) := by
  intro pins s σ H xs us Q I rx h
  obtain ⟨res, β, M, ds, d, M', S, r, e, P⟩ := h
  replace e : biInt ds M = .ok d M' := e
  unfold biInt at e
  split at e
  · obtain ⟨x, rfl, q⟩ := reps1' r
    refine call_int1 pins s σ H _ us Q I rx ?_
    cases q with
    | int i => cases e; exact .inl ⟨i, rfl, P.same S (.int _)⟩
    | bl b => cases e; exact .inr ⟨b, rfl, P.same S (.int _)⟩
    | _ => cases e
  · cases e
theorem bi_str {m : Bool} : CallR X (.type "str") (rSl fa (biD m "str")) := by
  intro pins s σ H xs us Q I rx h
  obtain ⟨res, β, M, ds, d, M', S, r, e, P⟩ := h
  replace e : biStr ds M = .ok d M' := e
  unfold biStr at e
  split at e
  · obtain ⟨x, rfl, q⟩ := reps1' r
    cases q
    split at e
    · rename_i hz; cases e; exact call_str_int pins s σ H _ us Q I rx ⟨_, rfl, hz, P.same S (.str _)⟩
    · cases e
  · obtain ⟨x, rfl, q⟩ := reps1' r
    cases q
    cases e
    obtain ⟨u, rfl, ru⟩ := vals1 rx
    cases ru
    exact PySem.P.str_of_bool ⟨.str _, H, I.tok _, ⟨_, rfl⟩, P.same S (.str _)⟩
  · obtain ⟨x, rfl, q⟩ := reps1' r
    cases q
    cases e
    exact SkE.call_str_str pins s σ H _ us Q I rx ⟨_, rfl, P.same S (.str _)⟩
  · cases e
theorem bi_ord {m : Bool} : CallR X (.builtin "ord") (rSl fa (biD m "ord")) := by
  intro pins s σ H xs us Q I rx h
  obtain ⟨res, β, M, ds, d, M', S, r, e, P⟩ := h
  replace e : biOrd ds M = .ok d M' := e
  unfold biOrd at e
  split at e
  · obtain ⟨x, rfl, q⟩ := reps1' r
    cases q
    split at e
    · rename_i hz; cases e; exact call_ord pins s σ H _ us Q I rx ⟨_, rfl, hz, P.same S (.int _)⟩
    · cases e
  · cases e
theorem bi_all {m : Bool} (hc : X.calm = true) : CallR X (.builtin "all") (rSl fa (biD m "all")) := by
  intro pins s σ H xs us Q I rx h
  obtain ⟨res, β, M, ds, d, M', S, r, e, P⟩ := h
  replace e : biAll ds M = .ok d M' := e
  unfold biAll at e
  split at e
  · rename_i a
    obtain ⟨x, rfl, q⟩ := reps1' r
    cases h1 : getL M a with
    | none => rw [h1] at e; cases e
    | some ys =>
      rw [h1] at e
      obtain ⟨b, vs, e1, e2, e3⟩ := getL_rep S q h1
      cases h2 : boolsOf ys with
      | none => simp only [Option.bind_some, h2] at e; cases e
      | some bs =>
        simp only [Option.bind_some, h2] at e
        cases e
        subst e1
        have := bools_rep e3 h2
        subst this
        exact cr_all hc pins s σ H _ us Q I rx ⟨b, bs, rfl, SqL.of e2, P.same S (.bl _)⟩
  · cases e
theorem bi_list {m : Bool} : CallR X (.type "list") (rSl fa (biD m "list")) := by
  intro pins s σ H xs us Q I rx h
  obtain ⟨res, β, M, ds, d, M', S, r, e, P⟩ := h
  replace e : biList m ds M = .ok d M' := e
  unfold biList at e
  split at e
  · obtain ⟨x, rfl, q⟩ := reps1' r
    cases q with
    | tup e1 pt nb nr q => exact call_list_of pins s σ H _ us Q I rx ⟨_, _, rfl, .inr (SqT.ofF e1), P.newL S q e⟩
  · obtain ⟨x, rfl, q⟩ := reps1' r
    split at e
    · obtain ⟨a, vs, e1, e2, e3⟩ := getL_rep S q (by assumption)
      subst e1
      exact call_list_of pins s σ H _ us Q I rx ⟨_, _, rfl, .inl (SqL.of e2), P.newL S e3 e⟩
    · cases e
  · cases e
theorem bi_tuple {m : Bool} : CallR X (.type "tuple") (rSl fa (biD m "tuple")) := by
  intro pins s σ H xs us Q I rx h
  obtain ⟨res, β, M, ds, d, M', S, r, e, P⟩ := h
  replace e : biTuple ds M = .ok d M' := e
  unfold biTuple at e
  split at e
  · obtain ⟨x, rfl, q⟩ := reps1' r
    cases e
    cases q with
    | tup e1 pt nb nr q => exact call_tupleF pins s σ H _ us Q I rx ⟨_, _, rfl, .inr ⟨SqT.ofF e1, P.same S (.tup e1 pt nb nr q)⟩⟩
  · obtain ⟨x, rfl, q⟩ := reps1' r
    split at e
    · cases e
      obtain ⟨a, vs, e1, e2, e3⟩ := getL_rep S q (by assumption)
      subst e1
      exact call_tupleF pins s σ H _ us Q I rx ⟨_, _, rfl, .inl ⟨SqL.of e2, P.tup S e3⟩⟩
    · cases e
  · cases e
theorem bi_dict {m : Bool} (hc : X.calm = true) : CallR X (.type "dict") (rSl fa (biD m "dict")) := by
  intro pins s σ H xs us Q I rx h
  obtain ⟨res, β, M, ds, d, M', S, r, e, P⟩ := h
  replace e : biDict ds M = .ok d M' := e
  unfold biDict at e
  split at e
  · rename_i xs
    obtain ⟨x, rfl, q⟩ := reps1' r
    split at e
    · rename_i kvs h2
      cases e
      cases q with
      | tup e1 pt nb nr q =>
        obtain ⟨ps, ws, f1, f2, f3⟩ := pairs_rep (K := X.K) q h2
        subst f1
        exact call_dictT hc pins s σ H _ us Q I rx ⟨_, _, ps, ws, rfl, e1, pt, f2, P.newM S (.dict (merge_rep f3 .nil))⟩
    · cases e
  · rename_i a hnot
    obtain ⟨x, rfl, q⟩ := reps1' r
    cases h1 : getL M a with
    | none => rw [h1] at e; cases e
    | some ys =>
      rw [h1] at e
      obtain ⟨b, vs, e1, e2, e3⟩ := getL_rep S q h1
      cases h2 : pairsOf ys with
      | none => simp only [Option.bind_some, h2] at e; cases e
      | some kvs =>
        simp only [Option.bind_some, h2] at e
        cases e
        subst e1
        obtain ⟨ps, ws, f1, f2, f3⟩ := pairs_rep (K := X.K) e3 h2
        subst f1
        exact call_dictP hc pins s σ H _ us Q I rx ⟨b, ps, ws, rfl, SqL.of e2, f2, P.newM S (.dict (merge_rep f3 .nil))⟩
  · cases e
theorem bi_sorted {m : Bool} (hc : X.calm = true) : CallR X (.builtin "sorted") (rSl fa (biD m "sorted")) := by
  intro pins s σ H xs us Q I rx h
  obtain ⟨res, β, M, ds, d, M', S, r, e, P⟩ := h
  replace e : biSorted m ds M = .ok d M' := e
  unfold biSorted at e
  split at e
  · rename_i a
    obtain ⟨x, rfl, q⟩ := reps1' r
    split at e
    · rename_i ss h1
      obtain ⟨ys, h1, h2⟩ := Option.bind_eq_some_iff.mp h1
      obtain ⟨b, vs, e1, e2, e3⟩ := getL_rep S q h1
      subst e1
      have := strs_rep e3 h2
      subst this
      split at e
      · rename_i hz
        refine cr_sortedS pins s σ H _ us Q I rx ⟨b, ss, rfl, SqL.of e2, hz, fun zs p pm so hp => ?_⟩
        rw [sortS_eq pm so]
        exact P.newL S (reps_strs _) e p hp
      · cases e
    · split at e
      · rename_i ss h1
        obtain ⟨ys, h1, h2⟩ := Option.bind_eq_some_iff.mp h1
        obtain ⟨b, vs, e1, e2, e3⟩ := getDict_rep S q h1
        subst e1
        split at e
        · rename_i hz
          refine call_sortedD hc pins s σ H _ us Q I rx ⟨b, vs, ss, rfl, .inl e2, keys_rep e3 h2, hz, fun zs p pm so hp => ?_⟩
          rw [sortS_eq pm so]
          exact P.newL S (reps_strs _) e p hp
        · cases e
      · cases e
  · cases e
theorem repr_ref {p : PyData} {x : V} {xs : List V} {us : List Value} {pins : List (Addr × Obj)} {s : Shared} {σ : L2.St} (hg : X.A.guards = some []) (hu : X.A.units + 65 < cLine) (I : Inv X pins σ H s) (rx : Vals [x] us) (hx : ∃ a, x = .ref a) (h : Dp X.K H x p)
    (hs : (p.showable && decide (p.depth ≤ 60) && decide (p.shown.length ≤ sizeLine)) = true) (q : Q (.str p.shown) H) : wpAny (model X.prog X.w) X.A (call (.builtin "repr") us) (EP X pins σ Q) X.xe s := by
  obtain ⟨u, rfl, ru⟩ := vals1 rx
  obtain ⟨a, rfl⟩ := hx
  obtain ⟨as, hr⟩ := Dp.reads I p _ u h ru
  cases ru
  obtain ⟨h12, h3⟩ := Bool.and_eq_true_iff.mp hs
  obtain ⟨h1, h2⟩ := Bool.and_eq_true_iff.mp h12
  have hd : p.depth ≤ 60 := of_decide_eq_true h2
  exact repr_of_reads' hr h1 (fun z => by rw [(Dp.noDict p _ h).1] at z; cases z) hg (by omega) (fun _ _ e => e) (fun h' t k hk => ⟨.str _, H, I.kept hk, ⟨_, rfl⟩, q⟩) (of_decide_eq_true h3)
theorem bi_repr {m : Bool} (hg : X.A.guards = some []) (hu : X.A.units + 65 < cLine) : CallR X (.builtin "repr") (rSl fa (biD m "repr")) := by
  intro pins s σ H xs us Q I rx h
  obtain ⟨res, β, M, ds, d, M', S, r, e, P⟩ := h
  replace e : biRepr ds M = .ok d M' := e
  unfold biRepr at e
  split at e
  · rename_i a
    obtain ⟨x, rfl, q⟩ := reps1' r
    cases h1 : reprD a M with
    | none => rw [h1] at e; cases e
    | some z =>
      rw [h1] at e
      cases e
      unfold reprD at h1
      obtain ⟨u, rfl, ru⟩ := vals1 rx
      split at h1
      · cases h1
        cases q
        cases ru
        exact PySem.P.repr_of_none ⟨.str _, H, I.tok _, ⟨_, rfl⟩, P.same S (.str _)⟩
      · rename_i b
        cases h1
        cases q
        cases ru
        exact PySem.P.repr_of_bool ⟨.str _, H, I.tok _, ⟨_, rfl⟩, P.same S (.str _)⟩
      · split at h1
        · rename_i hz
          cases h1
          cases q
          obtain ⟨t, rfl⟩ := ru
          exact PySem.P.repr_of_int hz ⟨.str _, H, I.tok _, ⟨_, rfl⟩, P.same S (.str _)⟩
        · cases h1
      · split at h1
        · rename_i hz
          cases h1
          cases q
          obtain ⟨t, rfl⟩ := ru
          exact PySem.P.repr_of_str ⟨.str _, H, I.tok _, ⟨_, rfl⟩, P.same S (.str _)⟩ (of_decide_eq_true (Bool.and_eq_true_iff.mp hz).2)
        · cases h1
      · split at h1
        · rename_i ht
          split at h1
          · rename_i p hp
            split at h1
            · rename_i hz
              cases h1
              refine repr_ref (xs := []) hg hu I rx ?_ (pyM_dp S q hp) hz (P.same S (.str _))
              cases q <;> first | exact ⟨_, rfl⟩ | cases ht
            · cases h1
          · cases h1
        · cases h1
  · cases e
theorem bi_min {m : Bool} (hc : X.calm = true) : CallR X (.builtin "min") (rSl fa (biD m "min")) := by
  intro pins s σ H xs us Q I rx h
  obtain ⟨res, β, M, ds, d, M', S, r, e, P⟩ := h
  replace e : biMin ds M = .ok d M' := e
  unfold biMin at e
  split at e
  · cases e
    obtain ⟨x, y, rfl, q1, q2⟩ := reps2' r
    cases q1; cases q2
    exact call_min2 hc pins s σ H _ us Q I rx ⟨_, _, rfl, P.same S (.int _)⟩
  · cases e
theorem bi_max {m : Bool} (hc : X.calm = true) : CallR X (.builtin "max") (rSl fa (biD m "max")) := by
  intro pins s σ H xs us Q I rx h
  obtain ⟨res, β, M, ds, d, M', S, r, e, P⟩ := h
  replace e : biMax ds M = .ok d M' := e
  unfold biMax at e
  split at e
  · cases e
    obtain ⟨x, y, rfl, q1, q2⟩ := reps2' r
    cases q1; cases q2
    exact call_max2 hc pins s σ H _ us Q I rx ⟨_, _, rfl, P.same S (.int _)⟩
  · cases e
end
end Mj
/-! Mj6: readings by evaluation, with exceptions; calls of defs. -/
namespace Mj
open PySem PySem.Spec PyProof.Rows L2

/-! ### exceptions -/
section
variable (fa : FA)
inductive RepF (β res : List Addr) (H : Hp) : List (Str × D) → List (Str × V) → Prop where
  | nil : RepF β res H [] []
  | cons {x : Str} {d : D} {v : V} {ds : List (Str × D)} {vs : List (Str × V)} : Rep fa β res H d v → RepF β res H ds vs → RepF β res H ((x, d) :: ds) ((x, v) :: vs)
/-- the exception x, its class cls, its dict dd -/
structure RepX (β res : List Addr) (H : Hp) (x : XV) (cls : Value) (dd : Option Addr) : Prop where
  cls : cls = fa.cv x.k
  at_ : ∃ a fs, dd = some a ∧ H a = some (.xd fs) ∧ a ∉ β ∧ a ∉ res ∧ RepF fa β res H x.fs fs
end
section
variable {fa : FA} {β res : List Addr} {H : Hp}
theorem RepF.look {f : Str} {d : D} : ∀ {ds : List (Str × D)} {vs : List (Str × V)}, RepF fa β res H ds vs → lookF ds f = some d → ∃ v, vs.lookup f = some v ∧ Rep fa β res H d v
  | _, _, .nil, h => by simp [lookF] at h
  | _, _, .cons (x := x) (v := v) r q, h => by
    unfold lookF at h
    by_cases e : f = x
    · rw [if_pos e] at h
      cases h
      exact ⟨v, by rw [List.lookup_cons, e]; simp, r⟩
    · rw [if_neg e] at h
      obtain ⟨w, h1, h2⟩ := RepF.look q h
      refine ⟨w, ?_, h2⟩
      rw [List.lookup_cons, show (f == x) = false by simpa using e]
      exact h1
theorem RepF.step {mv β' : List Addr} {H' : Hp} : ∀ {ds : List (Str × D)} {vs : List (Str × V)}, RepF fa β res H ds vs → Step mv β H β' H' → (∀ a ∈ mv, a ∈ res) → RepF fa β' res H' ds vs
  | _, _, .nil, _, _ => .nil
  | _, _, .cons r q, s, hm => .cons (r.step s hm) (RepF.step q s hm)
theorem RepF.append : ∀ {ds es : List (Str × D)} {vs ws : List (Str × V)}, RepF fa β res H ds vs → RepF fa β res H es ws → RepF fa β res H (ds ++ es) (vs ++ ws)
  | _, _, _, _, .nil, s => s
  | _, _, _, _, .cons r t, s => .cons r (RepF.append t s)
theorem RepF.reverse : ∀ {ds : List (Str × D)} {vs : List (Str × V)}, RepF fa β res H ds vs → RepF fa β res H ds.reverse vs.reverse
  | _, _, .nil => .nil
  | _, _, .cons r t => by
    rw [List.reverse_cons, List.reverse_cons]
    exact (RepF.reverse t).append (.cons r .nil)
theorem RepF.zip : ∀ {ps : List Str} {ds : List D} {vs : List V}, Reps fa β res H ds vs → RepF fa β res H (ps.zip ds) (ps.zip vs)
  | [], _, _, _ => by simp; exact .nil
  | _ :: _, _, _, .nil => by simp; exact .nil
  | p :: ps, _, _, .cons r t => .cons r (RepF.zip t)
end

/-! ### readings -/
section
variable (fa : FB)
def PX (W : WX) (res β : List Addr) (H : Hp) (σ : L2.St) (x : XV) (M' : MH) : Prop := ∀ H' β' cls dd, Step [] β H β' H' → Sim fa β' res M' H' → RepX fa β' res H' x cls dd → W cls dd σ H'
/-- what is asked of an evaluation's end -/
def PR {α : Type} (W : WX) (res β : List Addr) (H : Hp) (σ : L2.St) (r : Rx α) (P : α → MH → Prop) : Prop := match r with
  | .ok a M' => P a M'
  | .exc x M' => PX fa W res β H σ x M'
  | .bad => False
def tE (W : WX) (f : Rho → MH → Rx D) : TE := fun σ H Q => ∃ res β ρ M, Sim fa β res M H ∧ RepS fa β res H ρ σ ∧ PR fa W res β H σ (f ρ M) fun d M' => Post fa res β H d M' Q
def tB (W : WX) (f : Rho → MH → Rx Bool) : TT := fun σ H Q => ∃ res β ρ M, Sim fa β res M H ∧ RepS fa β res H ρ σ ∧ PR fa W res β H σ (f ρ M) fun b M' => ∀ H' β', Step [] β H β' H' → Sim fa β' res M' H' → Q b H'
def tL (W : WX) (f : Rho → MH → Rx (List D)) : TA := fun σ H Q => ∃ res β ρ M, Sim fa β res M H ∧ RepS fa β res H ρ σ ∧ PR fa W res β H σ (f ρ M) fun ds M' => ∀ vs H' β', Step [] β H β' H' → Sim fa β' res M' H' → Reps fa β' res H' ds vs → Q vs H'
def tO (W : WX) (f : Rho → MH → Rx (Option Int)) : TO := fun σ H Q => ∃ res β ρ M, Sim fa β res M H ∧ RepS fa β res H ρ σ ∧ PR fa W res β H σ (f ρ M) fun i M' => ∀ H' β', Step [] β H β' H' → Sim fa β' res M' H' → Q i H'
def PostF (W : WX) (res β : List Addr) (H : Hp) (o : Fl) (M' : MH) (En : Ends) : Prop := match o with
  | .nx ρ => ∀ σ' H' β', Step [] β H β' H' → Sim fa β' res M' H' → RepS fa β' res H' ρ σ' → En.nx σ' H'
  | .rt d => Post fa res β H d M' En.rt
  | .xc x ρ => ∀ σ' H' β' cls dd, Step [] β H β' H' → Sim fa β' res M' H' → RepS fa β' res H' ρ σ' → RepX fa β' res H' x cls dd → W cls dd σ' H'
def tF (W : WX) (f : Rho → MH → Res Fl) : TS := fun En σ H => ∃ res β ρ M o M', Sim fa β res M H ∧ RepS fa β res H ρ σ ∧ f ρ M = .ok o M' ∧ PostF fa W res β H o M' En
/-- a def's promise: what f evaluates to -/
def spD (f : List D → MH → Rx D) : Sp := fun vs H Q E => ∃ res β M ds, Sim fa β res M H ∧ Reps fa β res H ds vs ∧ PR fa (fun c d _ H' => E c d H') res β H [] (f ds M) fun d M' => Post fa res β H d M' Q
end
section
variable {fa : FB} {X : Cx} {W : WX} {res β β1 : List Addr} {M M' : MH} {H H1 : Hp} {d : D} {v : V} {Q : VK} {ρ : Rho} {σ : L2.St} {α : Type}
theorem Post.after (P : Post fa res β H d M' Q) (s : Step [] β H β1 H1) : Post fa res β1 H1 d M' Q := fun v H' β' st sm r => P v H' β' (s.trans st) sm r
theorem PX.after {x : XV} (P : PX fa W res β H σ x M') (s : Step [] β H β1 H1) : PX fa W res β1 H1 σ x M' := fun H' β' cls dd st sm r => P H' β' cls dd (s.trans st) sm r
theorem PR.after {r : Rx α} {P : α → MH → Prop} (h : PR fa W res β H σ r P) (s : Step [] β H β1 H1) : PR fa W res β1 H1 σ r P := by
  cases r with
  | ok a M' => exact h
  | exc x M' => exact PX.after h s
  | bad => exact h
theorem PostF.after {o : Fl} {En : Ends} (P : PostF fa W res β H o M' En) (s : Step [] β H β1 H1) : PostF fa W res β1 H1 o M' En := by
  cases o with
  | nx ρ => exact fun σ' H' β' st sm r => P σ' H' β' (s.trans st) sm r
  | rt d => exact Post.after P s
  | xc x ρ => exact fun σ' H' β' cls dd st sm r rx => P σ' H' β' cls dd (s.trans st) sm r rx
theorem PR.imp {r : Rx α} {P P' : α → MH → Prop} (h : PR fa W res β H σ r P) (i : ∀ a M', r = .ok a M' → P a M' → P' a M') : PR fa W res β H σ r P' := by
  cases r with
  | ok a M' => exact i a M' rfl h
  | exc x M' => exact h
  | bad => exact h
theorem PR.leaf {r : Res α} {P : α → MH → Prop} (h : PR fa W res β H σ (up r) P) : ∃ a M', r = .ok a M' ∧ P a M' := by
  cases r with
  | ok a M' => exact ⟨a, M', rfl, h⟩
  | bad => exact h.elim
theorem PR.bind {γ : Type} {r : Rx α} {g : α → MH → Rx γ} {P : γ → MH → Prop} (h : PR fa W res β H σ (r.bind g) P) : PR fa W res β H σ r fun a M' => PR fa W res β H σ (g a M') P := by
  cases r with
  | ok a M' => exact h
  | exc x M' => exact h
  | bad => exact h
variable {γ : Type} {P : γ → MH → Prop}
theorem tE.use {f : Rho → MH → Rx D} {g : D → MH → Rx γ} (S : Sim fa β res M H) (R : RepS fa β res H ρ σ) (h : PR fa W res β H σ ((f ρ M).bind g) P)
    (k : ∀ d M1 v H' β', Step [] β H β' H' → Sim fa β' res M1 H' → RepS fa β' res H' ρ σ → Rep fa β' res H' d v → PR fa W res β' H' σ (g d M1) P → Q v H') : tE fa W f σ H Q :=
  ⟨res, β, ρ, M, S, R, h.bind.imp fun d M1 _ q v H' β' st s r => k d M1 v H' β' st s (R.step st (by simp)) r (q.after st)⟩
theorem tE.useE {f : Rho → MH → Rx D} {g : D → MH → Rx γ} (S : Sim fa β res M H) (R : RepS fa β res H ρ σ) (h : PR fa W res β H σ ((f ρ M).bind g) P)
    (k : ∀ d M1 v H' β', f ρ M = .ok d M1 → Step [] β H β' H' → Sim fa β' res M1 H' → RepS fa β' res H' ρ σ → Rep fa β' res H' d v → PR fa W res β' H' σ (g d M1) P → Q v H') : tE fa W f σ H Q :=
  ⟨res, β, ρ, M, S, R, h.bind.imp fun d M1 e q v H' β' st s r => k d M1 v H' β' e st s (R.step st (by simp)) r (q.after st)⟩
theorem tB.use {f : Rho → MH → Rx Bool} {g : Bool → MH → Rx γ} {Q : Bool → Hp → Prop} (S : Sim fa β res M H) (R : RepS fa β res H ρ σ) (h : PR fa W res β H σ ((f ρ M).bind g) P)
    (k : ∀ b M1 H' β', Step [] β H β' H' → Sim fa β' res M1 H' → RepS fa β' res H' ρ σ → PR fa W res β' H' σ (g b M1) P → Q b H') : tB fa W f σ H Q :=
  ⟨res, β, ρ, M, S, R, h.bind.imp fun b M1 _ q H' β' st s => k b M1 H' β' st s (R.step st (by simp)) (q.after st)⟩
theorem tL.use {f : Rho → MH → Rx (List D)} {g : List D → MH → Rx γ} {Q : List V → Hp → Prop} (S : Sim fa β res M H) (R : RepS fa β res H ρ σ) (h : PR fa W res β H σ ((f ρ M).bind g) P)
    (k : ∀ ds M1 vs H' β', Step [] β H β' H' → Sim fa β' res M1 H' → RepS fa β' res H' ρ σ → Reps fa β' res H' ds vs → PR fa W res β' H' σ (g ds M1) P → Q vs H') : tL fa W f σ H Q :=
  ⟨res, β, ρ, M, S, R, h.bind.imp fun d M1 _ q v H' β' st s r => k d M1 v H' β' st s (R.step st (by simp)) r (q.after st)⟩
theorem tO.use {f : Rho → MH → Rx (Option Int)} {g : Option Int → MH → Rx γ} {Q : Option Int → Hp → Prop} (S : Sim fa β res M H) (R : RepS fa β res H ρ σ) (h : PR fa W res β H σ ((f ρ M).bind g) P)
    (k : ∀ i M1 H' β', Step [] β H β' H' → Sim fa β' res M1 H' → RepS fa β' res H' ρ σ → PR fa W res β' H' σ (g i M1) P → Q i H') : tO fa W f σ H Q :=
  ⟨res, β, ρ, M, S, R, h.bind.imp fun b M1 _ q H' β' st s => k b M1 H' β' st s (R.step st (by simp)) (q.after st)⟩
/-- in a statement: an exception ends it -/
def PS' (fa : FB) (W : WX) (res β : List Addr) (H : Hp) (σ : L2.St) (r : Rx γ) (P : γ → MH → Prop) : Prop := PR fa W res β H σ r P
theorem lift_use {f : Rx α} {g : α → MH → Res Fl} {o : Fl} {En : Ends} (R : RepS fa β res H ρ σ) (e : liftS ρ f g = .ok o M') (p : PostF fa W res β H o M' En) : PR fa W res β H σ f fun a M1 => g a M1 = .ok o M' := by
  cases f with
  | ok a M1 => exact e
  | exc x M1 =>
    cases e
    exact fun H' β' cls dd st s rx => p σ H' β' cls dd st s (R.step st (by simp)) rx
  | bad => cases e
theorem tE.useS {f : Rho → MH → Rx D} {g : D → MH → Res Fl} {o : Fl} {En : Ends} (S : Sim fa β res M H) (R : RepS fa β res H ρ σ) (e : liftS ρ (f ρ M) g = .ok o M') (p : PostF fa W res β H o M' En)
    (k : ∀ d M1 v H' β', Step [] β H β' H' → Sim fa β' res M1 H' → RepS fa β' res H' ρ σ → Rep fa β' res H' d v → g d M1 = .ok o M' → PostF fa W res β' H' o M' En → Q v H') : tE fa W f σ H Q :=
  ⟨res, β, ρ, M, S, R, (lift_use R e p).imp fun d M1 _ q v H' β' st s r => k d M1 v H' β' st s (R.step st (by simp)) r q (p.after st)⟩
theorem tB.useS {f : Rho → MH → Rx Bool} {g : Bool → MH → Res Fl} {o : Fl} {En : Ends} {Q : Bool → Hp → Prop} (S : Sim fa β res M H) (R : RepS fa β res H ρ σ) (e : liftS ρ (f ρ M) g = .ok o M') (p : PostF fa W res β H o M' En)
    (k : ∀ b M1 H' β', Step [] β H β' H' → Sim fa β' res M1 H' → RepS fa β' res H' ρ σ → g b M1 = .ok o M' → PostF fa W res β' H' o M' En → Q b H') : tB fa W f σ H Q :=
  ⟨res, β, ρ, M, S, R, (lift_use R e p).imp fun b M1 _ q H' β' st s => k b M1 H' β' st s (R.step st (by simp)) q (p.after st)⟩
theorem tL.useS {f : Rho → MH → Rx (List D)} {g : List D → MH → Res Fl} {o : Fl} {En : Ends} {Q : List V → Hp → Prop} (S : Sim fa β res M H) (R : RepS fa β res H ρ σ) (e : liftS ρ (f ρ M) g = .ok o M') (p : PostF fa W res β H o M' En)
    (k : ∀ ds M1 vs H' β', Step [] β H β' H' → Sim fa β' res M1 H' → RepS fa β' res H' ρ σ → Reps fa β' res H' ds vs → g ds M1 = .ok o M' → PostF fa W res β' H' o M' En → Q vs H') : tL fa W f σ H Q :=
  ⟨res, β, ρ, M, S, R, (lift_use R e p).imp fun ds M1 _ q vs H' β' st s r => k ds M1 vs H' β' st s (R.step st (by simp)) r q (p.after st)⟩
theorem tE.mono {f : Rho → MH → Rx D} {Q' : VK} (h : tE fa W f σ H Q) (i : ∀ v H', Q v H' → Q' v H') : tE fa W f σ H Q' := by
  obtain ⟨res, β, ρ, M, S, R, p⟩ := h
  exact ⟨res, β, ρ, M, S, R, p.imp fun d M' _ q v H' β' st s r => i v H' (q v H' β' st s r)⟩
theorem tL.mono {f : Rho → MH → Rx (List D)} {Q Q' : List V → Hp → Prop} (h : tL fa W f σ H Q) (i : ∀ v H', Q v H' → Q' v H') : tL fa W f σ H Q' := by
  obtain ⟨res, β, ρ, M, S, R, p⟩ := h
  exact ⟨res, β, ρ, M, S, R, p.imp fun d M' _ q v H' β' st s r => i v H' (q v H' β' st s r)⟩
theorem PE.weak {e : Expr} {t t' : TE} (h : PE X e t) (w : ∀ σ H Q, t' σ H Q → t σ H Q) : PE X e t' := ⟨fun pins s σ H Q I q => h.run pins s σ H Q I (w σ H Q q)⟩
theorem PT.weak {e : Expr} {t t' : TT} (h : PT X e t) (w : ∀ σ H Q, t' σ H Q → t σ H Q) : PT X e t' := ⟨fun pins s σ H Q I q => h.run pins s σ H Q I (w σ H Q q)⟩
theorem PW.weak {e : Expr} {t t' : TT} (h : PW X e t) (w : ∀ σ H Q, t' σ H Q → t σ H Q) : PW X e t' := ⟨fun wh pins s σ H Q I q => h.run wh pins s σ H Q I (w σ H Q q)⟩
theorem PA.weak {es : List Expr} {t t' : TA} (h : PA X es t) (w : ∀ σ H Q, t' σ H Q → t σ H Q) : PA X es t' := ⟨fun pos pins s σ H Q I q => h.run pos pins s σ H Q I (w σ H Q q)⟩
theorem PO.weak {e : Option Expr} {t t' : TO} (h : PO X e t) (w : ∀ σ H Q, t' σ H Q → t σ H Q) : PO X e t' := ⟨fun pins s σ H Q I q => h.run pins s σ H Q I (w σ H Q q)⟩
theorem PS.weak {st : Stmt} {t t' : TS} (h : PS X st t) (w : ∀ En σ H, t' En σ H → t En σ H) : PS X st t' := ⟨fun pins s σ H En I q => h.run pins s σ H En I (w En σ H q)⟩
theorem PSs.weak {st : List Stmt} {t t' : TS} (h : PSs X st t) (w : ∀ En σ H, t' En σ H → t En σ H) : PSs X st t' := ⟨fun pins s σ H En I q => h.run pins s σ H En I (w En σ H q)⟩
end

/-! ### what a frame knows beside, left out and taken up again -/
/-- the same, without what one frame knows -/
def FB.bare (fa : FB) : FB := ⟨fa.toFA, fa.T, [], [], []⟩
section
variable {fa : FB} {res β β' : List Addr} {M M' : MH} {H H' : Hp}
theorem Sim.bare (s : Sim fa β res M H) : Sim fa.bare β res M H := ⟨s.len, s.nd, s.nr, s.rt, s.rp, s.tabs, fun p hp => (nomatch hp), fun p hp => (nomatch hp), s.at_⟩
theorem Sim.back (s : Sim fa β res M H) (st : Step [] β H β' H') (s' : Sim fa.bare β' res M' H') : Sim fa β' res M' H' :=
  ⟨s'.len, s'.nd, s'.nr, s'.rt, s'.rp, s'.tabs, fun p hp => let ⟨h1, h2, h3, h4⟩ := s.fx p hp; ⟨st.keep _ _ h1 h2 (by simp) h4, st.notin (by rw [h1]; simp) h2, h3, h4⟩, fun p hp => (s.kn p hp).step st (by simp), s'.at_⟩
end

/-! ### calls -/
/-- a def by its promise: called by position, and by the keyword lists kws (names, and which of them each parameter is) -/
structure FnG (P : Program) (w : World) (K : PySem.W.Frag) (mg : Str → Option Value) (base : Heap) (k : Nat) (f : Addr) (sp : Sp) (kws : List (List Str × List Nat)) : Prop where
  run : ∀ (A : Around) (outer : List Env) (s : Shared) (H : Hp) (us : List Value) (vs : List V) (Q : VK) (E : XK), Room k A → A.guards = some [] → Env0 P w K mg base A outer s H → Vals vs us → sp vs H Q E →
    codeAny (model P w) A (.call (.ref f) ⟨us, []⟩) (CR (CX P w) outer P w H s Q E) s
  kw : ∀ q ∈ kws, ∀ (A : Around) (outer : List Env) (s : Shared) (H : Hp) (us : List Value) (vs : List V) (Q : VK) (E : XK), Room k A → A.guards = some [] → Env0 P w K mg base A outer s H → Vals vs us → us.length = q.1.length → sp (q.2.filterMap (vs[·]?)) H Q E →
    codeAny (model P w) A (.call (.ref f) ⟨[], q.1.zip us⟩) (CR (CX P w) outer P w H s Q E) s
section
variable {X : Cx} {W : WX} {k : Nat} {f : Addr} {sp : Sp} {kws : List (List Str × List Nat)} {x : Str} {p pos : Pos} {e : Expr} {es : List Expr} {t : TA}
theorem ends_of {pins : List (Addr × Obj)} {σ : L2.St} {H : Hp} {s : Shared} {Q : VK} {args : Args} (tk : Takes X W) (I : Inv X pins σ H s)
    (h : codeAny (model X.prog X.w) X.A (.call (.ref f) args) (CR (CX X.prog X.w) X.stack X.prog X.w H s Q fun c d H' => W c d σ H') s) : wpAny (model X.prog X.w) X.A (call (.ref f) args.pos args.kw) (EP X pins σ Q) X.xe s := by
  refine wpAny_call (codeAny_mono h fun rr s' hq => ?_)
  cases rr with
  | error er => exact tk er s' (XE.of_call I (fun cls d H' z => z) hq)
  | ok fl =>
    cases fl with
    | ret u => exact I.after hq
    | next => exact False.elim hq
    | brk => exact False.elim hq
    | cont => exact False.elim hq
theorem run_G {pins : List (Addr × Obj)} {σ : L2.St} {H : Hp} {s : Shared} {Q : VK} {us : List Value} {vs : List V} (F : FnG X.prog X.w X.K X.mg X.base k f sp kws) (hr : Room k X.A) (hg : X.A.guards = some []) (tk : Takes X W)
    (I : Inv X pins σ H s) (r : Vals vs us) (h : sp vs H Q fun c d H' => W c d σ H') : wpAny (model X.prog X.w) X.A (call (.ref f) us) (EP X pins σ Q) X.xe s :=
  ends_of tk I (F.run X.A X.stack s H us vs Q _ hr hg I.env0 r h)
/-- the arguments, then the callee -/
def tG (W : WX) (sp : Sp) (t : TA) : TE := fun σ H Q => t σ H fun vs H1 => sp vs H1 Q fun c d H' => W c d σ H'
theorem pe_callG (F : FnG X.prog X.w X.K X.mg X.base k f sp kws) (hr : Room k X.A) (hgd : X.A.guards = some []) (tk : Takes X W) (hg : Gl X x) (hm : X.mg x = some (.ref f)) (hk : PySem.W.keepIn X.K (.ref f) = true)
    (ha : PA X (e :: es) t) (hdb : (x == ("__debug__" : Str)) = false) (he : starEach (e :: es) X.env = (false, eval e X.env) :: starEach es X.env) (hpl : (backTo pos (starEach es X.env)).any (·.1) = false) :
    PE X (.Call (.Name x p) (e :: es) [] pos) (tG W sp t) := by
  refine ⟨fun pins s σ H Q I h => wpAny_Call_Name_kw (ld_glob I hg hm ?_ hdb)⟩
  exact PySem.W.callWith_K (h₀ := X.base) I.ok.mod.kin hk (thn (ha.run pos pins s σ H _ I h) fun us s1 ⟨vs, H1, I1, r, q⟩ => ⟨I1.kIn, run_G F hr hgd tk I1 r q⟩) he hpl
theorem pe_callG0 (F : FnG X.prog X.w X.K X.mg X.base k f sp kws) (hr : Room k X.A) (hgd : X.A.guards = some []) (tk : Takes X W) (hg : Gl X x) (hm : X.mg x = some (.ref f)) (hk : PySem.W.keepIn X.K (.ref f) = true)
    (hdb : (x == ("__debug__" : Str)) = false) : PE X (.Call (.Name x p) [] [] pos) (fun σ H Q => sp [] H Q fun c d H' => W c d σ H') := by
  refine ⟨fun pins s σ H Q I h => wpAny_Call_Name_kw (ld_glob I hg hm ?_ hdb)⟩
  exact PySem.W.callWith_K0 I.kIn hk (run_G (us := []) F hr hgd tk I .nil h)
/-- a def that a local name holds -/
theorem pe_callGV {i : Nat} (hN : X.N[i]? = some x) (hv : Vis X.env.scope x) (hdb : (x == ("__debug__" : Str)) = false) (hcd : (x == ("__classdict__" : Str)) = false) (hr : Room k X.A) (hgd : X.A.guards = some []) (tk : Takes X W)
    (ha : PA X (e :: es) t) (he : starEach (e :: es) X.env = (false, eval e X.env) :: starEach es X.env) (hpl : (backTo pos (starEach es X.env)).any (·.1) = false) :
    PE X (.Call (.Name x p) (e :: es) [] pos) (fun σ H Q => ∃ (f : Addr) (sp : Sp) (kws : List (List Str × List Nat)), σ[i]? = some (some (.ref f)) ∧ FnG X.prog X.w X.K X.mg X.base k f sp kws ∧ PySem.W.keepIn X.K (.ref f) = true ∧ tG W sp t σ H Q) := by
  refine ⟨fun pins s σ H Q I h => ?_⟩
  obtain ⟨f, sp, kws, e1, F, hk, q⟩ := h
  refine wpAny_Call_Name_kw (thn ((pe_var (pos := p) hN hv hdb hcd).run pins s σ H (fun v H' => v = .ref f ∧ H' = H) I ⟨_, e1, rfl, rfl⟩) fun u s1 ⟨w', H1, I1, r1, e2, e3⟩ => ?_)
  subst e2 e3
  cases r1
  exact PySem.W.callWith_K (h₀ := X.base) I1.ok.mod.kin hk (thn (ha.run pos pins s1 σ H1 _ I1 q) fun us s2 ⟨vs, H2, I2, r, q⟩ => ⟨I2.kIn, run_G F hr hgd tk I2 r q⟩) he hpl
/-- f(y = e, ..): keywords alone -/
theorem pe_callGK {kwl : List Keyword} {tk' : TA} {kq : List Str × List Nat} (F : FnG X.prog X.w X.K X.mg X.base k f sp kws) (hq : kq ∈ kws) (hr : Room k X.A) (hgd : X.A.guards = some []) (tk : Takes X W) (hg : Gl X x) (hm : X.mg x = some (.ref f)) (hk : PySem.W.keepIn X.K (.ref f) = true)
    (hkw : PK X kwl tk') (hne : kwl ≠ []) (hall : (backToKw pos (keywordEach kwl X.env)).all (·.1.isSome) = true) (hks : (backToKw pos (keywordEach kwl X.env)).filterMap (·.1) = kq.1) (hno : (backToKw pos (keywordEach kwl X.env)).any (·.1.isNone) = false) (hdb : (x == ("__debug__" : Str)) = false) :
    PE X (.Call (.Name x p) [] kwl pos) (fun σ H Q => tk' σ H fun zs H1 => zs.length = kq.1.length ∧ sp (kq.2.filterMap (zs[·]?)) H1 Q fun c d H' => W c d σ H') := by
  refine ⟨fun pins s σ H Q I h => wpAny_Call_Name_kw (ld_glob I hg hm ?_ hdb)⟩
  refine PySem.W.callWith_KW0 (h₀ := X.base) I.ok.mod.kin hk hall (thn (hkw.run pos pins s σ H _ I h) fun ws s2 ⟨zs, H2, I2, rz, hl, q2⟩ => ⟨I2.kIn, ?_⟩) ?_
  · rw [hks]
    exact ends_of tk I2 (F.kw kq hq X.A X.stack s2 H2 ws zs Q _ hr hgd I2.env0 rz (by rw [← rz.length]; exact hl) q2)
  · show (false || (backToKw pos (keywordEach kwl X.env)).any (·.1.isNone)) = false
    rw [hno]
    rfl
end
end Mj
/-! Mj8: slices with a step. -/
namespace Mj
open PySem PySem.Spec PyProof.Rows L2
theorem applied_rev {prog : Program} {w : World} {A : Around} {E : Value → Shared → Prop} {s : Shared} {sl : Addr} {u : Tok} {n : Nat} {Q : Int × Int × Nat → Shared → Prop} (hs : s.heap.IsSliceOf sl .none .none (.int (-1) u)) (h : Q ((n : Int) - 1, -1, n) s) :
    wpAny (model prog w) A (Builtin.Slice.sliceApplied (.ref sl) (pure (n : Int))) Q E s := by
  obtain ⟨os, hos, hcs, hds⟩ := id hs
  unfold Builtin.Slice.sliceApplied Builtin.Slice.sliceFields
  refine wpAny_bind (wpAny_bind (wpAny_field hos hds (x := .none) rfl (wpAny_bind (wpAny_field hos hds (x := .none) rfl (wpAny_bind (wpAny_field hos hds (x := .int (-1) u) rfl (wpAny_pure ?_)))))))
  refine wpAny_bind (PyProof.Rows.slicePart_int ?_)
  show wpAny _ _ (if ((-1 : Int) == 0) = true then _ else _) _ _ s
  rw [if_neg (by decide)]
  refine wpAny_bind (PyProof.Rows.slicePart_none (wpAny_bind (PyProof.Rows.slicePart_none (wpAny_bind (wpAny_pure ?_)))))
  have e1 : Builtin.Slice.sliceAdjust none none (-1) (n : Int) = ((n : Int) - 1, -1) := rfl
  show wpAny _ _ (match Builtin.Slice.sliceAdjust none none (-1) (n : Int) with | (lo, hi) => pure (lo, (-1 : Int), Builtin.Slice.slicePlaces lo hi (-1))) _ _ s
  rw [e1]
  have e2 : Builtin.Slice.slicePlaces ((n : Int) - 1) (-1) (-1) = n := by
    unfold Builtin.Slice.slicePlaces
    have h1 : ¬ ((-1 : Int) > 0) := by omega
    have h2 : (- -1 : Int) = 1 := rfl
    simp only [h1, if_false, h2, Int.ediv_one]
    split <;> omega
  show wpAny _ _ (pure (((n : Int) - 1), (-1 : Int), Builtin.Slice.slicePlaces ((n : Int) - 1) (-1) (-1))) _ _ s
  rw [e2]
  exact wpAny_pure h
theorem fm_congr {α β : Type} {f g : α → Option β} : ∀ {l : List α}, (∀ k ∈ l, f k = g k) → l.filterMap f = l.filterMap g
  | [], _ => rfl
  | a :: r, h => by
    rw [List.filterMap_cons, List.filterMap_cons, h a (by simp), fm_congr (l := r) fun k hk => h k (List.mem_cons_of_mem _ hk)]
theorem pick_rev (xs : Array Value) : ((List.range xs.size).filterMap fun (k : Nat) => xs[(((xs.size : Nat) : Int) - 1 + (k : Int) * (-1)).toNat]?).toArray = xs.toList.reverse.toArray := by
  congr 1
  have e : ∀ k ∈ List.range xs.size, xs[(((xs.size : Nat) : Int) - 1 + (k : Int) * (-1)).toNat]? = xs.toList.reverse[k]? := by
    intro k hk
    have hk := List.mem_range.mp hk
    have : (((xs.size : Nat) : Int) - 1 + (k : Int) * (-1)).toNat = xs.size - 1 - k := by omega
    rw [this, List.getElem?_reverse (by simpa using hk)]
    simp
  rw [fm_congr e]
  have : xs.size = xs.toList.reverse.length := by simp
  rw [this]
  generalize xs.toList.reverse = l
  induction l with
  | nil => rfl
  | cons a r ih =>
    rw [List.length_cons, List.range_succ_eq_map, List.filterMap_cons]
    simp only [List.getElem?_cons_zero]
    rw [List.filterMap_map]
    congr 1
theorem getItem_tuple_rev {prog : Program} {w : World} {A : Around} {E : Value → Shared → Prop} {s : Shared} {t sl : Addr} {items : Array Value} {u : Tok} {Q : Value → Shared → Prop} (ht : IsTup s.heap t items) (hs : s.heap.IsSliceOf sl .none .none (.int (-1) u))
    (h : Q (.ref s.heap.objs.size) { s with heap := s.heap.push { cls := .type "tuple", data := .seq items.toList.reverse.toArray } }) (hsz : items.size ≤ sizeLine) : wpAny (model prog w) A (getItem (.ref t) (.ref sl)) Q E s := by
  have room : sizeOk (.seq items.toList.reverse.toArray) := by
    show items.toList.reverse.toArray.size ≤ sizeLine
    simpa using hsz
  obtain ⟨os, hos, hcs, hds⟩ := id hs
  have hTs : s.TypeIs (.ref sl) "slice" := ⟨os, hos, hcs⟩
  unfold getItem
  try with_reducible refine wpAny_holding ?_
  first | refine wpAny_bind (wpAny_pure ?_) | skip
  refine wpAny_bind (wpAny_sequenceKey ht.typeIs (by decide) ?_)
  refine wpAny_bind (wpAny_callSpecial?_slot (name := Str.ofString "__getitem__") ht.typeIs PyProof.Rows.slot_tuple_getitem
    (wpAny_call_entry PyProof.Rows.slot_tuple_getitem ht.typeIs entry_tuple_getitem ?_ (args_tuple_getitem _ _)))
  show wpAny _ _ (Builtin.Tuple.tupleItemsOf (.ref t) >>= _) _ _ s
  refine wpAny_bind (tupleItemsOf_ ht ?_)
  refine wpAny_bind (wpAny_typeOf hTs ?_)
  rw [if_pos (by decide)]
  refine wpAny_bind (applied_rev hs ?_)
  show wpAny _ _ (if ((((items.size : Nat) : Int) - 1) == 0 && (-1 : Int) == 1 && items.size == items.size) = true then _ else _) _ _ s
  rw [if_neg (by simp), pick_rev]
  first
    | exact wpAny_bind (m := Builtin.Tuple.tupleExact _) (wpAny_newObj_type (wpAny_pure ⟨_, rfl, wpAny_pure h⟩) room)
    | exact wpAny_bind (m := Builtin.Tuple.tupleExact _) (wpAny_newObj_type (wpAny_bind (wpAny_pure (wpAny_pure ⟨_, rfl, wpAny_pure h⟩))) room)
    | exact wpAny_bind (wpAny_bind (m := Builtin.Tuple.tupleExact _) (wpAny_newObj_type (wpAny_pure (wpAny_pure ⟨_, rfl, wpAny_pure h⟩)) room))
    | exact wpAny_bind (wpAny_bind (m := Builtin.Tuple.tupleExact _) (wpAny_newObj_type (wpAny_pure ⟨_, rfl, wpAny_pure h⟩) room))
theorem pick_eq (its : List Value) (lo hi st : Option Int) : slicePick its.toArray lo hi st = (pickD its lo hi st).toArray := by
  unfold slicePick pickD
  simp
section
variable {X : Cx} {e lo : Expr} {te tl : TE} {pos : Pos}
/-- t[::-1] -/
theorem pe_revT {k : Nat} {p1 p2 p3 : Pos} (he : PE X e te) : PE X (.Subscript e (.Slice none none (some (.UnaryOp .USub (.Constant (.int 1) k p1) p2)) p3) pos) (fun σ H Q => te σ H fun x H1 => ∃ a xs, x = .ref a ∧ SqT X.K H1 a xs ∧ ∀ p o, H1 p = none → TupO o → Q (.ref p) (upd H1 p (.frz o (.tup xs.reverse)))) := by
  refine ⟨fun pins s σ H Q I h => ?_⟩
  refine Subscript_ (thn (he.run pins s σ H _ I h) fun v s1 ⟨x, H1, I1, r1, a, xs, ex, hx, q⟩ => ?_)
  subst ex
  cases r1
  have hst : PO X (some (.UnaryOp .USub (.Constant (.int 1) k p1) p2)) (tPart (tUn (rU fun i => .int (-i)) (tC (.int 1)))) := po_some (pe_un un_neg pe_int)
  refine wpAny_Slice (thn (po_none.run pins s1 σ H1 (fun o H2 => o = none ∧ H2 = H1) I1 ⟨rfl, rfl⟩) fun vl s2 ⟨l, H2, I2, pl, el, e2⟩ => ?_)
  subst el e2
  refine thn (po_none.run pins s2 σ H2 (fun o H3 => o = none ∧ H3 = H2) I2 ⟨rfl, rfl⟩) fun vu s3 ⟨u, H3, I3, pu, eu, e3⟩ => ?_
  subst eu e3
  refine thn (hst.run pins s3 σ H3 (fun o H4 => o = some (-1) ∧ H4 = H3) I3 ⟨1, rfl, -1, rfl, rfl, rfl⟩) fun vs s4 ⟨o, H4, I4, ps, eo, e4⟩ => ?_
  subst eo e4
  cases pl; cases pu
  cases ps with
  | int i tk =>
    have I5 : Inv X pins σ H4 { s4 with heap := s4.heap.push { cls := .type "slice", data := .fields #[.none, .none, .int (-1) tk] } } := I4.kept (t' := s4.toks) fun b ob q => Heap.get?_push_of_some _ q
    obtain ⟨its, r, ht, hz⟩ := I5.tuple hx
    show wpAny (model X.prog X.w) X.A (subscriptTail e (.Slice none none (some (.UnaryOp .USub (.Constant (.int 1) k p1) p2)) p3) (.ref a) (.ref s4.heap.objs.size)) (EP X pins σ Q) X.xe { s4 with heap := s4.heap.push { cls := .type "slice", data := .fields #[.none, .none, .int (-1) tk] } }
    refine tail_any (ops := [.ref a, .ref s4.heap.objs.size]) ht.typeIs (PyProof.Rows.slot_tuple_getitem.lookup) ?_ (by with_unfolding_all rfl)
    refine getItem_tuple_rev (u := tk) ht (Heap.IsSliceOf.new _ _ _ _) ?_ (by rw [List.size_toArray, ← r.length]; exact hz)
    exact laidT (tk := s4.toks) I5 r.reverse (by rw [List.length_reverse]; exact hz) q
/-- xs[lo::n] of a list -/
theorem pe_stepL {k n : Nat} {p1 p3 : Pos} (hn : n ≠ 0) (he : PE X e te) (hl : PE X lo tl) : PE X (.Subscript e (.Slice (some lo) none (some (.Constant (.int n) k p1)) p3) pos)
    (fun σ H Q => te σ H fun x H1 => tl σ H1 fun y H2 => ∃ j, y = .int j ∧ ∃ i, some j = some i ∧ ∃ a xs, x = .ref a ∧ SqL X.K H2 a xs ∧ ∀ p, H2 p = none → Q (.ref p) (upd H2 p (.lst (pickD xs (some i) none (some (n : Int)))))) := by
  refine ⟨fun pins s σ H Q I h => ?_⟩
  refine Subscript_ (thn (he.run pins s σ H _ I h) fun v s1 ⟨x, H1, I1, r1, q1⟩ => ?_)
  refine wpAny_Slice (thn ((po_some hl).run pins s1 σ H1 (fun o H2 => ∃ i, o = some i ∧ ∃ a xs, x = .ref a ∧ SqL X.K H2 a xs ∧ ∀ p, H2 p = none → Q (.ref p) (upd H2 p (.lst (pickD xs (some i) none (some (n : Int)))))) I1 q1) fun vl s2 ⟨l, H2, I2, pl, i, el, a, xs, ex, hx, q⟩ => ?_)
  subst el ex
  cases r1
  refine thn (po_none.run pins s2 σ H2 (fun o H3 => o = none ∧ H3 = H2) I2 ⟨rfl, rfl⟩) fun vu s3 ⟨u, H3, I3, pu, eu, e3⟩ => ?_
  subst eu e3
  refine thn ((po_some (pe_int (i := (n : Int)) (j := k) (pos := p1))).run pins s3 σ H3 (fun o H4 => o = some (n : Int) ∧ H4 = H3) I3 ⟨_, rfl, rfl, rfl⟩) fun vs s4 ⟨o, H4, I4, ps, eo, e4⟩ => ?_
  subst eo e4
  have I5 : Inv X pins σ H4 { s4 with heap := s4.heap.push { cls := .type "slice", data := .fields #[vl, vu, vs] } } := I4.kept (t' := s4.toks) fun b ob q => Heap.get?_push_of_some _ q
  obtain ⟨its, r, ht, hz⟩ := I5.list hx
  show wpAny (model X.prog X.w) X.A (subscriptTail e (.Slice (some lo) none (some (.Constant (.int n) k p1)) p3) (.ref a) (.ref s4.heap.objs.size)) (EP X pins σ Q) X.xe { s4 with heap := s4.heap.push { cls := .type "slice", data := .fields #[vl, vu, vs] } }
  refine tail_any (ops := [.ref a, .ref s4.heap.objs.size]) ht.isList.typeIs (PySem.slot_list_getitem.lookup) ?_ (by with_unfolding_all rfl)
  refine wpAny_getItem_list_slice ht.isList (Heap.IsSliceOf.new _ vl vu vs) pl pu ps (by intro z; cases z; exact hn rfl) ?_ (by rw [List.size_toArray, ← r.length]; exact hz)
  have hp : Vals (pickD xs (some i) none (some (n : Int))) (pickD its (some i) none (some (n : Int))) := by
    unfold pickD
    rw [r.length]
    exact vals_pick r _
  have hle := slicePick_size_le its.toArray (some i) none (some (n : Int))
  rw [pick_eq] at hle ⊢
  rw [List.size_toArray, List.size_toArray, ← hp.length, ← r.length] at hle
  refine ⟨.ref _, _, I5.laid (t' := s4.toks) (o := .lst (pickD xs (some i) none (some (n : Int)))) (fun b ob q => Heap.get?_push_of_some _ q) (Nat.le_refl _) ?_, rfl, q _ (I5.hok.fresh (Nat.le_refl _))⟩
  exact ⟨Nat.le_trans hle hz, _, 0, hp, Heap.get?_push_size _ rfl⟩
end
end Mj
/-! Mj7: a rule for each form of expression. -/
namespace Mj
open PySem PySem.Spec PyProof.Rows L2

section
variable {fa : FB} {W : WX} {X : Cx} {a b c e : Expr} {es : List Expr} {pos p : Pos} {f f1 f2 f3 : Rho → MH → Rx D}
theorem r_bad : PE X e (tE fa W fun _ _ => .bad) := ⟨fun pins s σ H Q I h => by
  obtain ⟨res, β, ρ, M, S, R, p⟩ := h
  exact p.elim⟩
theorem t_bad : PT X e (tB fa W fun _ _ => .bad) := ⟨fun pins s σ H Q I h => by
  obtain ⟨res, β, ρ, M, S, R, p⟩ := h
  exact p.elim⟩
theorem w_bad : PW X e (tB fa W fun _ _ => .bad) := ⟨fun wh pins s σ H Q I h => by
  obtain ⟨res, β, ρ, M, S, R, p⟩ := h
  exact p.elim⟩
theorem r_var {i : Nat} {x : Str} (hN : X.N[i]? = some x) (hv : Vis X.env.scope x) (hd : (x == ("__debug__" : Str)) = false) (hcd : (x == ("__classdict__" : Str)) = false) :
    PE X (.Name x pos) (tE fa W fun ρ M => match ρ[i]? with | some (some d) => .ok d M | _ => .bad) := by
  refine PE.weak (pe_var hN hv hd hcd) fun σ H Q h => ?_
  obtain ⟨res, β, ρ, M, S, R, h⟩ := h
  simp only at h
  split at h
  · rename_i q
    obtain ⟨v, h1, h2⟩ := R.at_ i _ q
    exact ⟨v, h1, Post.same h S h2⟩
  · exact h.elim
theorem r_C {d : D} {v : V} (h : PE X e (tC v)) (hr : ∀ β res H, Rep fa β res H d v) : PE X e (tE fa W fun _ M => .ok d M) := by
  refine PE.weak h fun σ H Q h => ?_
  obtain ⟨res, β, ρ, M, S, R, h⟩ := h
  exact Post.same h S (hr _ _ _)
theorem r_bin {o : Operator} {m : Bool} (ha : PE X a (tE fa W f1)) (hb : PE X b (tE fa W f2)) : PE X (.BinOp a o b pos) (tE fa W fun ρ M => (f1 ρ M).bind fun x M1 => (f2 ρ M1).bind fun y M2 => up (binD m o x y M2)) := by
  refine PE.weak (pe_op (sim_bin (fa := fa) m o) ha hb) fun σ H Q h => ?_
  obtain ⟨res, β, ρ, M, S, R, h⟩ := h
  refine tE.use S R h fun x M1 v H1 β1 s1 S1 R1 r1 h => tE.use S1 R1 h fun y M2 w H2 β2 s2 S2 R2 r2 h => ?_
  obtain ⟨d, M', e, P⟩ := h.leaf
  exact ⟨res, β2, M2, x, y, d, M', S2, r1.step s2 (by simp), r2, e, P.after (s1.trans s2)⟩
theorem r_neg (ha : PE X a (tE fa W f1)) : PE X (.UnaryOp .USub a pos) (tE fa W fun ρ M => (f1 ρ M).bind fun x M1 => match x with | .int i => .ok (.int (-i)) M1 | _ => .bad) := by
  refine PE.weak (pe_un un_neg ha) fun σ H Q h => ?_
  obtain ⟨res, β, ρ, M, S, R, h⟩ := h
  refine tE.use S R h fun x M1 v H1 β1 s1 S1 R1 r1 h => ?_
  split at h
  · cases r1; exact ⟨_, rfl, Post.same (Post.after h s1) S1 (.int _)⟩
  · exact h.elim
theorem truR_use {α : Type} {res β : List Addr} {H : Hp} {σ : L2.St} {M : MH} {d : D} {g : Bool → MH → Rx α} {P : α → MH → Prop} (h : PR fa W res β H σ ((truR d M).bind g) P) : ∃ k, truD M d = some k ∧ PR fa W res β H σ (g k M) P := by
  unfold truR at h
  split at h
  · rename_i k hk; exact ⟨k, hk, h⟩
  · exact h.elim
theorem r_not (ha : PE X a (tE fa W f1)) : PE X (.UnaryOp .Not a pos) (tE fa W fun ρ M => (f1 ρ M).bind fun x M1 => (truR x M1).bind fun k M2 => .ok (.bl (!k)) M2) := by
  refine PE.weak (pe_notT ha) fun σ H Q h => ?_
  obtain ⟨res, β, ρ, M, S, R, h⟩ := h
  refine tE.use S R h fun x M1 v H1 β1 s1 S1 R1 r1 h => ?_
  obtain ⟨k, hk, h⟩ := truR_use h
  exact ⟨k, truD_of S1 r1 hk, Post.same (Post.after h s1) S1 (.bl _)⟩
/-- the evaluation goes on from a later state -/
theorem PR.go {res β β1 : List Addr} {H H1 : Hp} {σ : L2.St} {r : Rx D} {Q : VK} (h : PR fa W res β1 H1 σ r fun d M' => Post fa res β H d M' Q) (s : Step [] β H β1 H1) : PR fa W res β1 H1 σ r fun d M' => Post fa res β1 H1 d M' Q := h.imp fun _ _ _ q => q.after s
theorem r_and {rest : List Expr} (ha : PE X a (tE fa W f1)) (hb : PE X (.BoolOp .And (b :: rest) pos) (tE fa W f2)) : PE X (.BoolOp .And (a :: b :: rest) pos) (tE fa W fun ρ M => (f1 ρ M).bind fun x M1 => (truR x M1).bind fun k M2 => if k = true then f2 ρ M2 else .ok x M2) := by
  refine PE.weak (pe_andT ha hb) fun σ H Q h => ?_
  obtain ⟨res, β, ρ, M, S, R, h⟩ := h
  refine tE.use S R h fun x M1 v H1 β1 s1 S1 R1 r1 h => ?_
  obtain ⟨k, hk, h⟩ := truR_use h
  refine ⟨k, truD_of S1 r1 hk, ?_⟩
  cases k with
  | true => rw [if_pos rfl] at h ⊢; exact ⟨res, β1, ρ, M1, S1, R1, h.go s1⟩
  | false => rw [if_neg Bool.false_ne_true] at h ⊢; exact Post.same (Post.after h s1) S1 r1
theorem r_or {rest : List Expr} (ha : PE X a (tE fa W f1)) (hb : PE X (.BoolOp .Or (b :: rest) pos) (tE fa W f2)) : PE X (.BoolOp .Or (a :: b :: rest) pos) (tE fa W fun ρ M => (f1 ρ M).bind fun x M1 => (truR x M1).bind fun k M2 => if k = true then .ok x M2 else f2 ρ M2) := by
  refine PE.weak (pe_orT ha hb) fun σ H Q h => ?_
  obtain ⟨res, β, ρ, M, S, R, h⟩ := h
  refine tE.use S R h fun x M1 v H1 β1 s1 S1 R1 r1 h => ?_
  obtain ⟨k, hk, h⟩ := truR_use h
  refine ⟨k, truD_of S1 r1 hk, ?_⟩
  cases k with
  | true => rw [if_pos rfl] at h ⊢; exact Post.same (Post.after h s1) S1 r1
  | false => rw [if_neg Bool.false_ne_true] at h ⊢; exact ⟨res, β1, ρ, M1, S1, R1, h.go s1⟩
theorem optB_use {α : Type} {res β : List Addr} {H : Hp} {σ : L2.St} {M : MH} {o : Option Bool} {g : Bool → MH → Rx α} {P : α → MH → Prop} (h : PR fa W res β H σ ((optB M o).bind g) P) : ∃ k, o = some k ∧ PR fa W res β H σ (g k M) P := by
  cases o with
  | some k => exact ⟨k, rfl, h⟩
  | none => exact h.elim
theorem optB_leaf {res β : List Addr} {H : Hp} {σ : L2.St} {M : MH} {o : Option Bool} {P : Bool → MH → Prop} (h : PR fa W res β H σ (optB M o) P) : ∃ k, o = some k ∧ P k M := by
  cases o with
  | some k => exact ⟨k, rfl, h⟩
  | none => exact h.elim
theorem r_cmp {o : CmpOp} (hu : X.A.units + 65 < cLine) (hK : X.K = fa.K) (ha : PE X a (tE fa W f1)) (hb : PE X b (tE fa W f2)) (hm : behindInMarks o b = false) : PE X (.Compare a [o] [b] pos) (tE fa W fun ρ M => (f1 ρ M).bind fun x M1 => (f2 ρ M1).bind fun y M2 => (optB M2 (cmpD o x y M2)).bind toD) := by
  refine PE.weak (pe_cmpR (sim_cmp (fa := fa) hu hK o) ha hb hm) fun σ H Q h => ?_
  obtain ⟨res, β, ρ, M, S, R, h⟩ := h
  refine tE.use S R h fun x M1 v H1 β1 s1 S1 R1 r1 h => tE.use S1 R1 h fun y M2 w H2 β2 s2 S2 R2 r2 h => ?_
  obtain ⟨k, hk, h⟩ := optB_use h
  exact ⟨res, β2, M2, x, y, k, S2, r1.step s2 (by simp), r2, hk, Post.same (Post.after h (s1.trans s2)) S2 (.bl _)⟩
theorem t_cmp {o : CmpOp} (hu : X.A.units + 65 < cLine) (hK : X.K = fa.K) (ha : PE X a (tE fa W f1)) (hb : PE X b (tE fa W f2)) (hm : behindInMarks o b = false) : PT X (.Compare a [o] [b] pos) (tB fa W fun ρ M => (f1 ρ M).bind fun x M1 => (f2 ρ M1).bind fun y M2 => optB M2 (cmpD o x y M2)) := by
  refine PT.weak (pt_cmpR (sim_cmp (fa := fa) hu hK o) ha hb hm) fun σ H Q h => ?_
  obtain ⟨res, β, ρ, M, S, R, h⟩ := h
  refine tE.use S R h fun x M1 v H1 β1 s1 S1 R1 r1 h => tE.use S1 R1 h fun y M2 w H2 β2 s2 S2 R2 r2 h => ?_
  obtain ⟨k, hk, h⟩ := optB_leaf h
  exact ⟨res, β2, M2, x, y, k, S2, r1.step s2 (by simp), r2, hk, _, rfl, h H2 β2 (s1.trans s2) S2⟩
theorem r_chain {o o' : CmpOp} (hu : X.A.units + 65 < cLine) (hK : X.K = fa.K) (ha : PE X a (tE fa W f1)) (hb : PE X b (tE fa W f2)) (hc : PE X c (tE fa W f3)) (hm : lastMarks [o, o'] [b, c] = false) :
    PE X (.Compare a [o, o'] [b, c] pos) (tE fa W fun ρ M => (f1 ρ M).bind fun x M1 => (f2 ρ M1).bind fun y M2 => (optB M2 (cmpD o x y M2)).bind fun k M3 => if k = true then (f3 ρ M3).bind fun z M4 => (optB M4 (cmpD o' y z M4)).bind toD else .ok (.bl false) M3) := by
  refine PE.weak (pe_chain (sim_cmp (fa := fa) hu hK o) (sim_cmp (fa := fa) hu hK o') ha hb hc hm) fun σ H Q h => ?_
  obtain ⟨res, β, ρ, M, S, R, h⟩ := h
  refine tE.use S R h fun x M1 v H1 β1 s1 S1 R1 r1 h => tE.use S1 R1 h fun y M2 w H2 β2 s2 S2 R2 r2 h => ?_
  obtain ⟨k, hk, h⟩ := optB_use h
  refine ⟨res, β2, M2, x, y, k, S2, r1.step s2 (by simp), r2, hk, k, rfl, ?_⟩
  cases k with
  | true =>
    rw [if_pos rfl] at h ⊢
    refine tE.use S2 R2 h fun z M4 u H3 β3 s3 S3 R3 r3 h => ?_
    obtain ⟨k', hk', h⟩ := optB_use h
    exact ⟨res, β3, _, y, z, k', S3, r2.step s3 (by simp), r3, hk', Post.same (Post.after h ((s1.trans s2).trans s3)) S3 (.bl _)⟩
  | false => rw [if_neg Bool.false_ne_true] at h ⊢; exact Post.same (Post.after h (s1.trans s2)) S2 (.bl _)
theorem t_chain {o o' : CmpOp} (hu : X.A.units + 65 < cLine) (hK : X.K = fa.K) (ha : PE X a (tE fa W f1)) (hb : PE X b (tE fa W f2)) (hc : PE X c (tE fa W f3)) (hm : lastMarks [o, o'] [b, c] = false) :
    PT X (.Compare a [o, o'] [b, c] pos) (tB fa W fun ρ M => (f1 ρ M).bind fun x M1 => (f2 ρ M1).bind fun y M2 => (optB M2 (cmpD o x y M2)).bind fun k M3 => if k = true then (f3 ρ M3).bind fun z M4 => optB M4 (cmpD o' y z M4) else .ok false M3) := by
  refine PT.weak (pt_chain (sim_cmp (fa := fa) hu hK o) (sim_cmp (fa := fa) hu hK o') ha hb hc hm) fun σ H Q h => ?_
  obtain ⟨res, β, ρ, M, S, R, h⟩ := h
  refine tE.use S R h fun x M1 v H1 β1 s1 S1 R1 r1 h => tE.use S1 R1 h fun y M2 w H2 β2 s2 S2 R2 r2 h => ?_
  obtain ⟨k, hk, h⟩ := optB_use h
  refine ⟨res, β2, M2, x, y, k, S2, r1.step s2 (by simp), r2, hk, k, rfl, ?_⟩
  cases k with
  | true =>
    rw [if_pos rfl] at h ⊢
    refine tE.use S2 R2 h fun z M4 u H3 β3 s3 S3 R3 r3 h => ?_
    obtain ⟨k', hk', h⟩ := optB_leaf h
    exact ⟨res, β3, _, y, z, k', S3, r2.step s3 (by simp), r3, hk', _, rfl, h H3 β3 ((s1.trans s2).trans s3) S3⟩
  | false => rw [if_neg Bool.false_ne_true] at h ⊢; exact ⟨_, rfl, h H2 β2 (s1.trans s2) S2⟩
theorem r_ife {g : Rho → MH → Rx Bool} (hc : PT X c (tB fa W g)) (ha : PE X a (tE fa W f1)) (hb : PE X b (tE fa W f2)) : PE X (.IfExp c a b pos) (tE fa W fun ρ M => (g ρ M).bind fun k M1 => if k = true then f1 ρ M1 else f2 ρ M1) := by
  refine PE.weak (pe_ifExp hc ha hb) fun σ H Q h => ?_
  obtain ⟨res, β, ρ, M, S, R, h⟩ := h
  refine tB.use S R h fun k M1 H1 β1 s1 S1 R1 h => ?_
  cases k with
  | true => rw [if_pos rfl] at h ⊢; exact ⟨res, β1, ρ, M1, S1, R1, h.go s1⟩
  | false => rw [if_neg Bool.false_ne_true] at h ⊢; exact ⟨res, β1, ρ, M1, S1, R1, h.go s1⟩
theorem l_nil : PA X [] (tL fa W fun _ M => .ok [] M) := by
  refine PA.weak pa_nil fun σ H Q h => ?_
  obtain ⟨res, β, ρ, M, S, R, h⟩ := h
  exact h [] H β Step.refl S .nil
theorem l_cons {g : Rho → MH → Rx (List D)} (ha : PE X a (tE fa W f1)) (hr : PA X es (tL fa W g)) (hs : starEach (a :: es) X.env = (false, eval a X.env) :: starEach es X.env) : PA X (a :: es) (tL fa W fun ρ M => (f1 ρ M).bind fun d M1 => (g ρ M1).bind fun ds M2 => .ok (d :: ds) M2) := by
  refine PA.weak (pa_cons ha hr hs) fun σ H Q h => ?_
  obtain ⟨res, β, ρ, M, S, R, h⟩ := h
  exact tE.use S R h fun x M1 v H1 β1 s1 S1 R1 r1 h => tL.use S1 R1 h fun y M2 w H2 β2 s2 S2 R2 r2 h => h _ H2 β2 (s1.trans s2) S2 (.cons (r1.step s2 (by simp)) r2)
theorem r_tup {g : Rho → MH → Rx (List D)} {n : Nat} (h : PA X es (tL fa W g)) : PE X (.Tuple es n pos) (tE fa W fun ρ M => (g ρ M).bind fun ds M1 => if ds.length ≤ sizeLine then .ok (.tup ds) M1 else .bad) := by
  refine PE.weak (pe_tupF h) fun σ H Q h => ?_
  obtain ⟨res, β, ρ, M, S, R, h⟩ := h
  refine tL.use S R h fun ds M1 vs H1 β1 s1 S1 R1 r1 h => ?_
  split at h
  · rename_i hz; exact ⟨by rw [← r1.length]; exact hz, Post.tup (Post.after h s1) S1 r1⟩
  · exact h.elim
theorem r_lst {g : Rho → MH → Rx (List D)} {m : Bool} (h : PA X es (tL fa W g)) : PE X (.List es pos) (tE fa W fun ρ M => (g ρ M).bind fun ds M1 => if ds.length ≤ sizeLine then up (newL m ds M1) else .bad) := by
  refine PE.weak (pe_lst h) fun σ H Q h => ?_
  obtain ⟨res, β, ρ, M, S, R, h⟩ := h
  refine tL.use S R h fun ds M1 vs H1 β1 s1 S1 R1 r1 h => ?_
  split at h
  · rename_i hz
    obtain ⟨d, M', e, P⟩ := h.leaf
    exact ⟨by rw [← r1.length]; exact hz, (P.after s1).newL S1 r1 e⟩
  · exact h.elim
theorem r_idx (hu : X.A.units + 65 < cLine) (ha : PE X a (tE fa W f1)) (hb : PE X b (tE fa W f2)) (hp : PlainIx b) : PE X (.Subscript a b pos) (tE fa W fun ρ M => (f1 ρ M).bind fun x M1 => (f2 ρ M1).bind fun y M2 => up (resO M2 (idxD x y M2))) := by
  refine ⟨fun pins s σ H Q I h => ?_⟩
  obtain ⟨res, β, ρ, M, S, R, h⟩ := h
  by_cases hd : ∃ x M1 y M2 kvs, f1 ρ M = .ok x M1 ∧ f2 ρ M1 = .ok y M2 ∧ getDict M2 x = some kvs
  · obtain ⟨x0, M10, y0, M20, kvs, e1, e2, hd⟩ := hd
    refine (pe_dget (by omega) ha hb hp).run pins s σ H Q I ?_
    refine tE.useE S R h fun x M1 v H1 β1 ex s1 S1 R1 r1 h => tE.useE S1 R1 h fun y M2 w H2 β2 ey s2 S2 R2 r2 h => ?_
    rw [e1] at ex; cases ex
    rw [e2] at ey; cases ey
    obtain ⟨d, M', e, P⟩ := h.leaf
    cases q : idxD x0 y0 M20 with
    | none => rw [q] at e; cases e
    | some z =>
      rw [q] at e
      cases e
      obtain ⟨a', w', h1, h2, h3⟩ := idx_dict S2 (r1.step s2 (by simp)) r2 hd q
      exact ⟨a', w', h1, h2, (P.after (s1.trans s2)).same S2 h3⟩
  · refine (pe_ix ix_seq ha hb hp).run pins s σ H Q I ?_
    refine tE.useE S R h fun x M1 v H1 β1 ex s1 S1 R1 r1 h => tE.useE S1 R1 h fun y M2 w H2 β2 ey s2 S2 R2 r2 h => ?_
    obtain ⟨d, M', e, P⟩ := h.leaf
    have hd : getDict M2 x = none := by
      cases q : getDict M2 x with
      | none => rfl
      | some kvs => exact absurd ⟨x, M1, y, M2, kvs, ex, ey, q⟩ hd
    cases q : idxD x y M2 with
    | none => rw [q] at e; cases e
    | some z =>
      rw [q] at e
      cases e
      exact idx_seq S2 (r1.step s2 (by simp)) r2 hd q fun w' h3 => (P.after (s1.trans s2)).same S2 h3
end
end Mj
/-! Mj9: slices, calls, built-ins, methods, tests. -/
namespace Mj
open PySem PySem.Spec PyProof.Rows L2

section
variable {fa : FB} {W : WX} {X : Cx} {a b c e : Expr} {es : List Expr} {pos p : Pos} {f f1 f2 f3 : Rho → MH → Rx D}
theorem o_none : PO X none (tO fa W fun _ M => .ok none M) := by
  refine PO.weak po_none fun σ H Q h => ?_
  obtain ⟨res, β, ρ, M, S, R, h⟩ := h
  exact h H β Step.refl S
theorem o_some (h : PE X e (tE fa W f)) : PO X (some e) (tO fa W fun ρ M => (f ρ M).bind fun d M1 => match d with | .int i => .ok (some i) M1 | _ => .bad) := by
  refine PO.weak (po_some h) fun σ H Q h => ?_
  obtain ⟨res, β, ρ, M, S, R, h⟩ := h
  refine tE.use S R h fun d M1 v H1 β1 s1 S1 R1 r1 h => ?_
  split at h
  · cases r1; exact ⟨_, rfl, h H1 β1 s1 S1⟩
  · exact h.elim
theorem r_slice {m : Bool} {lo hi : Option Expr} {gl gh : Rho → MH → Rx (Option Int)} {p2 : Pos} (hK : X.K = fa.K) (ha : PE X a (tE fa W f1)) (hl : PO X lo (tO fa W gl)) (hh : PO X hi (tO fa W gh)) :
    PE X (.Subscript a (.Slice lo hi none p2) pos) (tE fa W fun ρ M => (f1 ρ M).bind fun x M1 => (gl ρ M1).bind fun l M2 => (gh ρ M2).bind fun h M3 => up (sliceD m x l h M3)) := by
  refine PE.weak (pe_slice (sim_slice (fa := fa) hK m) ha hl hh) fun σ H Q h => ?_
  obtain ⟨res, β, ρ, M, S, R, h⟩ := h
  refine tE.use S R h fun x M1 v H1 β1 s1 S1 R1 r1 h => tO.use S1 R1 h fun l M2 H2 β2 s2 S2 R2 h => tO.use S2 R2 h fun u M3 H3 β3 s3 S3 R3 h => ?_
  obtain ⟨d, M', e, P⟩ := h.leaf
  exact ⟨res, β3, M3, x, d, M', S3, r1.step (s2.trans s3) (by simp), e, P.after (s1.trans (s2.trans s3))⟩
theorem r_revT {k : Nat} {p1 p2 p3 : Pos} (ha : PE X a (tE fa W f1)) : PE X (.Subscript a (.Slice none none (some (.UnaryOp .USub (.Constant (.int 1) k p1) p2)) p3) pos) (tE fa W fun ρ M => (f1 ρ M).bind fun x M1 => match x with
    | .tup xs => .ok (.tup xs.reverse) M1
    | _ => .bad) := by
  refine PE.weak (pe_revT ha) fun σ H Q h => ?_
  obtain ⟨res, β, ρ, M, S, R, h⟩ := h
  refine tE.use S R h fun x M1 v H1 β1 s1 S1 R1 r1 h => ?_
  split at h
  · cases r1 with
    | tup e1 pt nb nr q => exact ⟨_, _, rfl, SqT.ofF e1, Post.tup (Post.after h s1) S1 q.reverse⟩
  · exact h.elim
theorem r_stepL {m : Bool} {k n : Nat} {p1 p3 : Pos} (ha : PE X a (tE fa W f1)) (hb : PE X b (tE fa W f2)) (hn : n ≠ 0) : PE X (.Subscript a (.Slice (some b) none (some (.Constant (.int n) k p1)) p3) pos) (tE fa W fun ρ M => (f1 ρ M).bind fun x M1 => (f2 ρ M1).bind fun l M2 => match getL M2 x, l with
    | some xs, .int i => if n ≠ 0 then up (newL m (pickD xs (some i) none (some (n : Int))) M2) else .bad
    | _, _ => .bad) := by
  refine PE.weak (pe_stepL hn ha hb) fun σ H Q h => ?_
  obtain ⟨res, β, ρ, M, S, R, h⟩ := h
  refine tE.use S R h fun x M1 v H1 β1 s1 S1 R1 r1 h => tE.use S1 R1 h fun y M2 w H2 β2 s2 S2 R2 r2 h => ?_
  split at h
  · rename_i hx
    rw [if_pos hn] at h
    obtain ⟨d, M', e, P⟩ := h.leaf
    obtain ⟨a', vs, g1, g2, g3⟩ := getL_rep S2 (r1.step s2 (by simp)) hx
    cases r2
    refine ⟨_, rfl, _, rfl, a', vs, g1, SqL.of g2, (P.after (s1.trans s2)).newL S2 ?_ e⟩
    unfold pickD
    rw [g3.length]
    exact g3.pick _
  · exact h.elim
/-! ### calls -/
/-- a callee's end is the call's -/
theorem sp_use {cl : List D → MH → Rx D} {res β β1 : List Addr} {M1 : MH} {H H1 : Hp} {σ : L2.St} {ds : List D} {vs : List V} {Q : VK} (S1 : Sim fa β1 res M1 H1) (r1 : Reps fa β1 res H1 ds vs) (s1 : Step [] β H β1 H1)
    (h : PR fa W res β1 H1 σ (cl ds M1) fun d M' => Post fa res β H d M' Q) : spD fa.bare cl vs H1 Q fun c d H' => W c d σ H' := by
  refine ⟨res, β1, M1, ds, S1.bare, r1, ?_⟩
  cases q : cl ds M1 with
  | ok d M' =>
    rw [q] at h
    exact fun v H' β' st s r => h v H' β' (s1.trans st) (S1.back st s) r
  | exc x M' =>
    rw [q] at h
    exact fun H' β' cls dd st s rx => h H' β' cls dd st (S1.back st s) rx
  | bad => rw [q] at h; exact h
theorem r_call {k : Nat} {g : Rho → MH → Rx (List D)} {cl : List D → MH → Rx D} {x : Str} {fad : Addr} {kws : List (List Str × List Nat)} (F : FnG X.prog X.w X.K X.mg X.base k fad (spD fa.bare cl) kws) (hr : Room k X.A) (hgd : X.A.guards = some []) (tk : Takes X W) (hg : Gl X x)
    (hm : X.mg x = some (.ref fad)) (hk : PySem.W.keepIn X.K (.ref fad) = true) (ha : PA X (a :: es) (tL fa W g)) (hdb : (x == ("__debug__" : Str)) = false)
    (he : starEach (a :: es) X.env = (false, eval a X.env) :: starEach es X.env) (hpl : (backTo pos (starEach es X.env)).any (·.1) = false) : PE X (.Call (.Name x p) (a :: es) [] pos) (tE fa W fun ρ M => (g ρ M).bind fun ds M1 => cl ds M1) := by
  refine PE.weak (pe_callG F hr hgd tk hg hm hk ha hdb he hpl) fun σ H Q h => ?_
  obtain ⟨res, β, ρ, M, S, R, h⟩ := h
  exact tL.use S R h fun ds M1 vs H1 β1 s1 S1 R1 r1 h => sp_use S1 r1 s1 h
theorem r_call0 {k : Nat} {cl : List D → MH → Rx D} {x : Str} {fad : Addr} {kws : List (List Str × List Nat)} (F : FnG X.prog X.w X.K X.mg X.base k fad (spD fa.bare cl) kws) (hr : Room k X.A) (hgd : X.A.guards = some []) (tk : Takes X W) (hg : Gl X x)
    (hm : X.mg x = some (.ref fad)) (hk : PySem.W.keepIn X.K (.ref fad) = true) (hdb : (x == ("__debug__" : Str)) = false) : PE X (.Call (.Name x p) [] [] pos) (tE fa W fun ρ M => (Rx.ok [] M).bind fun ds M1 => cl ds M1) := by
  refine PE.weak (pe_callG0 F hr hgd tk hg hm hk hdb) fun σ H Q h => ?_
  obtain ⟨res, β, ρ, M, S, R, h⟩ := h
  exact sp_use S .nil Step.refl h
theorem r_callV {k i : Nat} {g : Rho → MH → Rx (List D)} {cl : Nat → List D → MH → Rx D} {x : Str} (hN : X.N[i]? = some x) (hv : Vis X.env.scope x) (hdb : (x == ("__debug__" : Str)) = false) (hcd : (x == ("__classdict__" : Str)) = false) (hr : Room k X.A) (hgd : X.A.guards = some []) (tk : Takes X W)
    (F : ∀ j, ∃ kws, FnG X.prog X.w X.K X.mg X.base k (fa j) (spD fa.bare (cl j)) kws ∧ PySem.W.keepIn X.K (.ref (fa j)) = true)
    (ha : PA X (a :: es) (tL fa W g)) (he : starEach (a :: es) X.env = (false, eval a X.env) :: starEach es X.env) (hpl : (backTo pos (starEach es X.env)).any (·.1) = false) : PE X (.Call (.Name x p) (a :: es) [] pos) (tE fa W fun ρ M => match ρ[i]? with
      | some (some (.fn k)) => (g ρ M).bind fun ds M1 => cl k ds M1
      | _ => .bad) := by
  refine PE.weak (pe_callGV hN hv hdb hcd hr hgd tk ha he hpl) fun σ H Q h => ?_
  obtain ⟨res, β, ρ, M, S, R, h⟩ := h
  simp only at h
  split at h
  · rename_i j hj
    obtain ⟨kws, G, hk⟩ := F j
    obtain ⟨v, h1, h2⟩ := R.at_ i _ hj
    cases h2
    refine ⟨fa j, _, kws, h1, G, hk, ?_⟩
    exact tL.use S R h fun ds M1 vs H1 β1 s1 S1 R1 r1 h => sp_use S1 r1 s1 h
  · exact h.elim
theorem pickAll_filterMap {res β : List Addr} {H : Hp} : ∀ {is : List Nat} {ds es : List D} {vs : List V}, Reps fa β res H ds vs → pickAll ds is = some es → Reps fa β res H es (is.filterMap (vs[·]?))
  | [], ds, es, vs, _, h => by cases h; exact .nil
  | i :: is, ds, es, vs, r, h => by
    unfold pickAll at h
    split at h
    · rename_i d q h1 h2
      cases h
      obtain ⟨v, e1, e2⟩ := r.get h1
      rw [List.filterMap_cons, e1]
      exact .cons e2 (pickAll_filterMap r h2)
    · cases h
/-- keyword arguments -/
def tKs (fa : FB) (W : WX) (g : Rho → MH → Rx (List D)) : TA := tL fa W g
theorem r_callW {k : Nat} {g : Rho → MH → Rx (List D)} {cl : List D → MH → Rx D} {x : Str} {fad : Addr} {kws : List (List Str × List Nat)} {kwl : List Keyword} {kq : List Str × List Nat} (F : FnG X.prog X.w X.K X.mg X.base k fad (spD fa.bare cl) kws) (hq : kq ∈ kws) (hr : Room k X.A) (hgd : X.A.guards = some []) (tk : Takes X W) (hg : Gl X x)
    (hm : X.mg x = some (.ref fad)) (hk : PySem.W.keepIn X.K (.ref fad) = true) (hkw : PK X kwl (tL fa W g)) (hlen : ∀ ρ M ds M', g ρ M = .ok ds M' → ds.length = kq.1.length) (hne : kwl ≠ []) (hall : (backToKw pos (keywordEach kwl X.env)).all (·.1.isSome) = true) (hks : (backToKw pos (keywordEach kwl X.env)).filterMap (·.1) = kq.1)
    (hno : (backToKw pos (keywordEach kwl X.env)).any (·.1.isNone) = false) (hdb : (x == ("__debug__" : Str)) = false) :
    PE X (.Call (.Name x p) [] kwl pos) (tE fa W fun ρ M => (g ρ M).bind fun ds M1 => match pickAll ds kq.2 with | some es => cl es M1 | none => .bad) := by
  refine PE.weak (pe_callGK F hq hr hgd tk hg hm hk hkw hne hall hks hno hdb) fun σ H Q h => ?_
  obtain ⟨res, β, ρ, M, S, R, h⟩ := h
  refine ⟨res, β, ρ, M, S, R, h.bind.imp fun ds M1 e h vs H1 β1 s1 S1 r1 => ?_⟩
  refine ⟨by rw [← r1.length]; exact hlen _ _ _ _ e, ?_⟩
  split at h
  · rename_i es he
    exact sp_use S1 (pickAll_filterMap r1 he) s1 (h.after s1)
  · exact h.elim
theorem r_CB {g : Rho → MH → Rx (List D)} {h : List D → MH → Res D} (ht : PE X e (tCB (rSl fa h) (tL fa W g))) : PE X e (tE fa W fun ρ M => (g ρ M).bind fun ds M1 => up (h ds M1)) := by
  refine PE.weak ht fun σ H Q h => ?_
  obtain ⟨res, β, ρ, M, S, R, h⟩ := h
  refine tL.use S R h fun ds M1 vs H1 β1 s1 S1 R1 r1 h => ?_
  obtain ⟨d, M', e, P⟩ := h.leaf
  exact ⟨res, β1, M1, ds, d, M', S1, r1, e, P.after s1⟩
/-- built-ins: those that want calm -/
def biHot : List String := ["len", "isinstance", "int", "str", "ord", "list", "tuple", "repr"]
def biCalm : List String := ["all", "dict", "sorted", "min", "max"]
theorem r_bi {m : Bool} {n : String} {x : Str} {g : Rho → MH → Rx (List D)} (hn : n ∈ biHot ∨ (n ∈ biCalm ∧ X.calm = true)) (hx : x = Str.ofString n) (hgd : X.A.guards = some []) (hu : X.A.units + 65 < cLine) (hg : Gl X x) (hm : X.mg x = none) (ha : PA X (a :: es) (tL fa W g))
    (he : starEach (a :: es) X.env = (false, eval a X.env) :: starEach es X.env) (hpl : (backTo pos (starEach es X.env)).any (·.1) = false) : PE X (.Call (.Name x p) (a :: es) [] pos) (tE fa W fun ρ M => (g ρ M).bind fun ds M1 => up (biD m n ds M1)) := by
  subst hx
  rcases hn with hn | ⟨hn, hc⟩
  · simp only [biHot, List.mem_cons, List.not_mem_nil, or_false] at hn
    rcases hn with rfl | rfl | rfl | rfl | rfl | rfl | rfl | rfl
    · exact r_CB (pe_callB bi_len hg hm (by decide +kernel) ha (by decide) (by decide) he hpl)
    · exact r_CB (pe_callB bi_isi hg hm (by decide +kernel) ha (by decide) (by decide) he hpl)
    · exact r_CB (pe_callTy bi_int hg hm (by decide +kernel) ha (by decide) (by decide) he hpl)
    · exact r_CB (pe_callTy bi_str hg hm (by decide +kernel) ha (by decide) (by decide) he hpl)
    · exact r_CB (pe_callB bi_ord hg hm (by decide +kernel) ha (by decide) (by decide) he hpl)
    · exact r_CB (pe_callTy bi_list hg hm (by decide +kernel) ha (by decide) (by decide) he hpl)
    · exact r_CB (pe_callTy bi_tuple hg hm (by decide +kernel) ha (by decide) (by decide) he hpl)
    · exact r_CB (pe_callB (bi_repr hgd hu) hg hm (by decide +kernel) ha (by decide) (by decide) he hpl)
  · simp only [biCalm, List.mem_cons, List.not_mem_nil, or_false] at hn
    rcases hn with rfl | rfl | rfl | rfl | rfl
    · exact r_CB (pe_callB (bi_all hc) hg hm (by decide +kernel) ha (by decide) (by decide) he hpl)
    · exact r_CB (pe_callTy (bi_dict hc) hg hm (by decide +kernel) ha (by decide) (by decide) he hpl)
    · exact r_CB (pe_callB (bi_sorted hc) hg hm (by decide +kernel) ha (by decide) (by decide) he hpl)
    · exact r_CB (pe_callB (bi_min hc) hg hm (by decide +kernel) ha (by decide) (by decide) he hpl)
    · exact r_CB (pe_callB (bi_max hc) hg hm (by decide +kernel) ha (by decide) (by decide) he hpl)
/-! ### methods -/
theorem lst_at {res β : List Addr} {M : MH} {H : Hp} {n : Nat} {xs : List D} {a : Addr} (S : Sim fa β res M H) (e : β[n]? = some a) (h : M[n]? = some (.lst xs)) : ∃ vs, H a = some (.lst vs) ∧ Reps fa β res H xs vs := by
  obtain ⟨ho, h1, h2⟩ := S.at_ n a _ e h
  cases h2 with
  | lst r => exact ⟨_, h1, r⟩
theorem idxOf_spec {p : PyData} : ∀ {qs : List PyData} {j : Nat}, idxOf p qs = some j → ∃ z, qs[j]? = some z ∧ PyData.eqv z p = true ∧ ∀ (m : Nat) (z' : PyData), m < j → qs[m]? = some z' → PyData.eqv z' p = false
  | [], j, h => by simp [idxOf] at h
  | q :: qs, j, h => by
    unfold idxOf at h
    split at h
    · rename_i hq
      cases h
      exact ⟨q, rfl, hq, fun m z' hm => absurd hm (Nat.not_lt_zero _)⟩
    · rename_i hq
      cases e : idxOf p qs with
      | none => rw [e] at h; cases h
      | some i =>
        rw [e] at h
        cases h
        obtain ⟨z, h1, h2, h3⟩ := idxOf_spec e
        refine ⟨z, by simpa using h1, h2, fun m z' hm hz => ?_⟩
        cases m with
        | zero => simp at hz; subst hz; simpa using hq
        | succ m =>
          have hm' : m + 1 < i + 1 := hm
          exact h3 m z' (by omega) (by simpa using hz)
theorem pop_use {x : V} {xs : List V} {H : Hp} {Q : VK} (h : ∃ res β M dx ds d M', Sim fa β res M H ∧ Rep fa β res H dx x ∧ Reps fa β res H ds xs ∧ mtPop dx ds M = .ok d M' ∧ Post fa res β H d M' Q) : rPopAt x xs H Q := by
  obtain ⟨res, β, M, dx, ds, d, M', S, r1, r2, e, P⟩ := h
  unfold mtPop at e
  split at e
  · rename_i i
    cases r1 with
    | ref e1 =>
      obtain ⟨y, rfl, ry⟩ := reps1' r2
      cases ry
      split at e
      · rename_i ys hq
        split at e
        · rename_i hz
          split at e
          · rename_i w hw
            cases e
            obtain ⟨vs, g1, g2⟩ := lst_at S e1 hq
            obtain ⟨u, k1, k2⟩ := g2.get hw
            have hsl : ys.length ≤ 2 ^ 24 := hz.2.2
            refine ⟨_, vs, i, i.toNat, u, rfl, rfl, g1, by omega, by omega, ?_, k1, P.write S e1 (.lst (g2.eraseIdx _)) k2⟩
            rw [← g2.length]
            exact seqIndex_of hz.1 hz.2.1
          · cases e
        · cases e
      · cases e
  · cases e
theorem pop0_use {K : PySem.W.Frag} {x : V} {H : Hp} {Q : VK} (h : ∃ res β M dx d M', Sim fa β res M H ∧ Rep fa β res H dx x ∧ mtPop0 dx [] M = .ok d M' ∧ Post fa res β H d M' Q) : tyV K "list" x H ∧ rPop x [] H Q := by
  obtain ⟨res, β, M, dx, d, M', S, r1, e, P⟩ := h
  unfold mtPop0 at e
  split at e
  · cases r1 with
    | ref e1 =>
      split at e
      · rename_i ys hq
        split at e
        · rename_i w hw
          cases e
          obtain ⟨vs, g1, g2⟩ := lst_at S e1 hq
          have hw' : ys[ys.length - 1]? = some d := by rw [← List.getLast?_eq_getElem?]; exact hw
          obtain ⟨u, k1, k2⟩ := g2.get hw'
          exact ⟨.inl ⟨rfl, _, SqL.of g1⟩, _, vs, u, rfl, rfl, g1, by rw [← g2.length]; exact k1, P.write S e1 (.lst g2.dropLast) k2⟩
        · cases e
      · cases e
  · cases e
theorem mtKind_list {n : String} {x : D} {M : MH} (hn : n = "append" ∨ n = "extend" ∨ n = "pop" ∨ n = "index") (h : mtKind n x M = true) : (getL M x).isSome = true := by
  unfold mtKind at h
  rcases hn with rfl | rfl | rfl | rfl <;> exact h
/-- methods of lists with arguments -/
theorem gen_meth {n : String} {g : Rho → MH → Rx (List D)} (hn : n = "append" ∨ n = "extend" ∨ n = "pop" ∨ n = "index") (r : V → List V → Hp → VK → Prop) (hr : ∀ x xs H Q, (∃ res β M dx ds d M', Sim fa β res M H ∧ Rep fa β res H dx x ∧ Reps fa β res H ds xs ∧ mtD n dx ds M = .ok d M' ∧ Post fa res β H d M' Q) → r x xs H Q)
    {σ : L2.St} {H : Hp} {Q : VK} (h : tE fa W (fun ρ M => (f1 ρ M).bind fun x M1 => if mtKind n x M1 = true then (g ρ M1).bind fun ds M2 => up (mtD n x ds M2) else .bad) σ H Q) : tBM X.K "list" r (tE fa W f1) (tL fa W g) σ H Q := by
  obtain ⟨res, β, ρ, M, S, R, h⟩ := h
  refine tE.use S R h fun x M1 v H1 β1 s1 S1 R1 r1 h => ?_
  split at h
  · rename_i hk
    refine ⟨?_, tL.use S1 R1 h fun ds M2 vs H2 β2 s2 S2 R2 r2 h => ?_⟩
    · obtain ⟨ys, hy⟩ := Option.isSome_iff_exists.mp (mtKind_list hn hk)
      obtain ⟨a', vs, g1, g2, g3⟩ := getL_rep S1 r1 hy
      subst g1
      exact .inl ⟨rfl, _, SqL.of g2⟩
    · obtain ⟨d, M', e, P⟩ := h.leaf
      exact hr _ _ _ _ ⟨res, β2, M2, x, ds, d, M', S2, r1.step s2 (by simp), r2, e, P.after (s1.trans s2)⟩
  · exact h.elim
theorem r_meth {n : String} {x : Str} {g : Rho → MH → Rx (List D)} {apos cpos : Pos} (hn : n = "append" ∨ n = "extend" ∨ n = "pop" ∨ n = "index") (hx : x = Str.ofString n) (hu : X.A.units + 65 < cLine) (ho : PE X b (tE fa W f1)) (ha : PA X (a :: es) (tL fa W g)) (hbase : attributeBase b x X.env (eval b X.env) = eval b X.env) (hpo : ∀ ρ M ds M', g ρ M = .ok ds M' → ds ≠ [])
    (hfew : ((backTo cpos (starEach (a :: es) X.env)).all (fun x => !x.1) && (backToKw cpos (keywordEach [] X.env)).all (fun x => x.1.isSome) && decide ((a :: es).length + ([] : List Keyword).length + (if ([] : List Keyword).isEmpty then 0 else 1) < 30)) = true)
    (hline : (apos.endLine == cpos.line) = true) (hs : starEach (a :: es) X.env = (false, eval a X.env) :: starEach es X.env) (hplain : (backTo cpos (starEach es X.env)).any (·.1) = false) :
    PE X (.Call (.Attribute b x apos) (a :: es) [] cpos) (tE fa W fun ρ M => (f1 ρ M).bind fun x M1 => if mtKind n x M1 = true then (g ρ M1).bind fun ds M2 => up (mtD n x ds M2) else .bad) := by
  subst hx
  rcases hn with rfl | rfl | rfl | rfl
  · refine PE.weak (pe_bm PySem.F.plainAttrs_list PySem.F.slot_list_append PySem.F.type_list_append mt_append ho ha hbase hfew hline hs hplain) fun σ H Q h => gen_meth (by simp) _ (fun x xs H Q h => ?_) h
    obtain ⟨res, β, M, dx, ds, d, M', S, r1, r2, e, P⟩ := h
    replace e : mtAppend dx ds M = .ok d M' := e
    unfold mtAppend at e
    split at e
    · cases r1 with
      | ref e1 =>
        obtain ⟨y, rfl, ry⟩ := reps1' r2
        split at e
        · rename_i ys hq
          split at e
          · rename_i hz
            cases e
            obtain ⟨vs, g1, g2⟩ := lst_at S e1 hq
            exact ⟨_, vs, y, rfl, rfl, g1, by rw [← g2.length]; exact hz, P.write S e1 (.lst (g2.append (.cons ry .nil))) .non⟩
          · cases e
        · cases e
    · cases e
  · refine PE.weak (pe_bm PySem.F.plainAttrs_list PySem.F.slot_list_extend PySem.F.type_list_extend mt_extend ho ha hbase hfew hline hs hplain) fun σ H Q h => gen_meth (by simp) _ (fun x xs H Q h => ?_) h
    obtain ⟨res, β, M, dx, ds, d, M', S, r1, r2, e, P⟩ := h
    replace e : mtExtend dx ds M = .ok d M' := e
    unfold mtExtend at e
    split at e
    · cases r1 with
      | ref e1 =>
        obtain ⟨y, rfl, ry⟩ := reps1' r2
        split at e
        · rename_i ys zs hq hz2
          split at e
          · rename_i hz
            cases e
            obtain ⟨vs, g1, g2⟩ := lst_at S e1 hq
            obtain ⟨a', ws, k1, k2, k3⟩ := getL_rep S ry hz2
            subst k1
            exact ⟨_, a', vs, ws, rfl, rfl, g1, k2, by rw [← g2.length, ← k3.length]; exact hz, P.write S e1 (.lst (g2.append k3)) .non⟩
          · cases e
        · cases e
    · cases e
  · refine PE.weak (pe_bm PySem.F.plainAttrs_list PySem.F.slot_list_pop PySem.F.type_list_pop mt_popAt ho ha hbase hfew hline hs hplain) fun σ H Q h => ?_
    have h' : tE fa W (fun ρ M => (f1 ρ M).bind fun x M1 => if mtKind "pop" x M1 = true then (g ρ M1).bind fun ds M2 => up (mtPop x ds M2) else .bad) σ H Q := by
      obtain ⟨res, β, ρ, M, S, R, h⟩ := h
      refine ⟨res, β, ρ, M, S, R, ?_⟩
      have ee : (fun x M1 => if mtKind "pop" x M1 = true then (g ρ M1).bind fun ds M2 => up (mtD "pop" x ds M2) else .bad) = (fun x M1 => if mtKind "pop" x M1 = true then (g ρ M1).bind fun ds M2 => up (mtPop x ds M2) else .bad) := by
        funext x M1
        cases q : g ρ M1 with
        | ok ds M2 =>
          have := hpo ρ M1 ds M2 q
          have e0 : mtD "pop" x ds M2 = mtPop x ds M2 := by
            show (if ds.isEmpty = true then mtPop0 x ds M2 else mtPop x ds M2) = _
            cases ds with
            | nil => exact absurd rfl this
            | cons _ _ => rfl
          simp only [Rx.bind, e0]
        | exc _ _ => rfl
        | bad => rfl
      show PR fa W res β H σ ((f1 ρ M).bind fun x M1 => if mtKind "pop" x M1 = true then (g ρ M1).bind fun ds M2 => up (mtPop x ds M2) else .bad) _
      have h : PR fa W res β H σ ((f1 ρ M).bind fun x M1 => if mtKind "pop" x M1 = true then (g ρ M1).bind fun ds M2 => up (mtD "pop" x ds M2) else .bad) _ := h
      rw [ee] at h
      exact h
    obtain ⟨res, β, ρ, M, S, R, h⟩ := h'
    refine tE.use S R h fun x M1 v H1 β1 s1 S1 R1 r1 h => ?_
    split at h
    · rename_i hk
      refine ⟨?_, tL.use S1 R1 h fun ds M2 vs H2 β2 s2 S2 R2 r2 h => ?_⟩
      · obtain ⟨ys, hy⟩ := Option.isSome_iff_exists.mp (mtKind_list (by simp) hk)
        obtain ⟨a', vs, g1, g2, g3⟩ := getL_rep S1 r1 hy
        subst g1
        exact .inl ⟨rfl, _, SqL.of g2⟩
      · obtain ⟨d, M', e, P⟩ := h.leaf
        exact pop_use ⟨res, β2, M2, x, ds, d, M', S2, r1.step s2 (by simp), r2, e, P.after (s1.trans s2)⟩
    · exact h.elim
  · refine PE.weak (pe_bm PySem.F.plainAttrs_list PySem.F.slot_list_index PySem.F.type_list_index (mt_indexD hu) ho ha hbase hfew hline hs hplain) fun σ H Q h => gen_meth (by simp) _ (fun x xs H Q h => ?_) h
    obtain ⟨res, β, M, dx, ds, d, M', S, r1, r2, e, P⟩ := h
    replace e : mtIndex dx ds M = .ok d M' := e
    unfold mtIndex at e
    split at e
    · obtain ⟨y, rfl, ry⟩ := reps1' r2
      split at e
      · rename_i qs p h1 h2
        split at e
        · rename_i hz
          split at e
          · rename_i j hj
            cases e
            rw [Bool.and_eq_true] at hz
            obtain ⟨z, k1, k2, k3⟩ := idxOf_spec hj
            have dp := pyM_dp (K := X.K) S r1 h1
            have : ∃ a, x = .ref a := by cases dp with | lst _ _ => exact ⟨_, rfl⟩
            obtain ⟨a', rfl⟩ := this
            exact ⟨a', y, p, qs, j, z, rfl, rfl, dp, ry.dp h2, hz.2, hz.1, k1, k2, k3, P.same S (.int _)⟩
          · cases e
        · cases e
      · cases e
    · cases e
/-- d.get(k), d.get(k, x) -/
theorem get_use {dx dk : D} {x k : V} {M : MH} {kvs : List (Key × D)} {kk : Key} {res β : List Addr} {H : Hp} (S : Sim fa β res M H) (r1 : Rep fa β res H dx x) (r2 : Rep fa β res H dk k) (hd : getDict M dx = some kvs) (hk : keyOf dk = some kk) :
    ∃ a o, x = .ref a ∧ DGet H a k o ∧ ∀ d v, Rep fa β res H d v → Rep fa β res H ((lookK kvs kk).getD d) (o.getD v) := by
  obtain ⟨a, vs, h1, h2, h3⟩ := getDict_rep S r1 hd
  have hkv := keyOf_rep r2 hk
  subst h1 hkv
  refine ⟨a, valV vs kk, rfl, DGet.k h2, fun d v r => ?_⟩
  cases q : lookK kvs kk with
  | none =>
    have : valV vs kk = none := by
      cases z : valV vs kk with
      | none => rfl
      | some w =>
        have z1 := any_rep (k := kk) h3
        rw [z] at z1
        obtain ⟨kv, hkv, hq⟩ := List.any_eq_true.mp z1.symm
        unfold lookK at q
        rw [Option.map_eq_none_iff, List.find?_eq_none] at q
        exact absurd hq (q kv hkv)
    rw [this]
    exact r
  | some d' =>
    obtain ⟨w, k1, k2⟩ := lookK_rep h3 q
    rw [k1]
    exact k2
theorem isD_of {dx : D} {x : V} {M : MH} {res β : List Addr} {H : Hp} (S : Sim fa β res M H) (r : Rep fa β res H dx x) (h : (getDict M dx).isSome = true) : ∃ a, x = .ref a ∧ IsD H a := by
  obtain ⟨kvs, hk⟩ := Option.isSome_iff_exists.mp h
  obtain ⟨a, vs, h1, h2, _⟩ := getDict_rep S r hk
  exact ⟨a, h1, .inl ⟨vs, .inl h2⟩⟩
theorem r_get1 {apos cpos : Pos} (hu : X.A.units + 65 < cLine) (ho : PE X b (tE fa W f1)) (ha : PE X a (tE fa W f2)) (m : M1 X b "get" apos a cpos) :
    PE X (.Call (.Attribute b "get" apos) [a] [] cpos) (tE fa W fun ρ M => (f1 ρ M).bind fun x M1 => if mtKind "get" x M1 = true then ((f2 ρ M1).bind fun d M2 => (Rx.ok [] M2).bind fun ds M3 => .ok (d :: ds) M3).bind fun ds M2 => up (mtD "get" x ds M2) else .bad) := by
  refine PE.weak (pe_dget1 (by omega) ho ha m) fun σ H Q h => ?_
  obtain ⟨res, β, ρ, M, S, R, h⟩ := h
  refine tE.use S R h fun x M1 v H1 β1 s1 S1 R1 r1 h => ?_
  split at h
  · rename_i hk
    obtain ⟨a', e1, e2⟩ := isD_of S1 r1 hk
    refine ⟨a', e1, e2, tE.use S1 R1 h.bind fun y M2 u H2 β2 s2 S2 R2 r2 h => ?_⟩
    obtain ⟨d, M', e, P⟩ := PR.leaf h
    replace e : (match getDict M2 x, keyOf y with | some kvs, some k => Res.ok ((lookK kvs k).getD .non) M2 | _, _ => .bad) = .ok d M' := e
    split at e
    · rename_i kvs kk g1 g2
      cases e
      obtain ⟨a2, o, q1, q2, q3⟩ := get_use S2 (r1.step s2 (by simp)) r2 g1 g2
      rw [e1] at q1
      cases q1
      exact ⟨o, q2, (P.after (s1.trans s2)).same S2 (q3 _ _ .non)⟩
    · cases e
  · exact h.elim
theorem r_get2 {apos cpos : Pos} (hu : X.A.units + 65 < cLine) (ho : PE X b (tE fa W f1)) (ha : PE X a (tE fa W f2)) (hc : PE X c (tE fa W f3)) (m : M2 X b "get" apos a c cpos) :
    PE X (.Call (.Attribute b "get" apos) [a, c] [] cpos) (tE fa W fun ρ M => (f1 ρ M).bind fun x M1 => if mtKind "get" x M1 = true then ((f2 ρ M1).bind fun d M2 => ((f3 ρ M2).bind fun d' M3 => (Rx.ok [] M3).bind fun ds M4 => .ok (d' :: ds) M4).bind fun ds M3 => .ok (d :: ds) M3).bind fun ds M2 => up (mtD "get" x ds M2) else .bad) := by
  refine PE.weak (pe_dget2 (by omega) ho ha hc m) fun σ H Q h => ?_
  obtain ⟨res, β, ρ, M, S, R, h⟩ := h
  refine tE.use S R h fun x M1 v H1 β1 s1 S1 R1 r1 h => ?_
  split at h
  · rename_i hk
    obtain ⟨a', e1, e2⟩ := isD_of S1 r1 hk
    refine ⟨a', e1, e2, tE.use S1 R1 h.bind fun y M2 u H2 β2 s2 S2 R2 r2 h => tE.use S2 R2 h.bind fun z M3 u' H3 β3 s3 S3 R3 r3 h => ?_⟩
    obtain ⟨d, M', e, P⟩ := PR.leaf h
    replace e : (match getDict M3 x, keyOf y with | some kvs, some k => Res.ok ((lookK kvs k).getD z) M3 | _, _ => .bad) = .ok d M' := e
    split at e
    · rename_i kvs kk g1 g2
      cases e
      obtain ⟨a2, o, q1, q2, q3⟩ := get_use S3 (r1.step (s2.trans s3) (by simp)) (r2.step s3 (by simp)) g1 g2
      rw [e1] at q1
      cases q1
      exact ⟨o, q2, (P.after (s1.trans (s2.trans s3))).same S3 (q3 _ _ r3)⟩
    · cases e
  · exact h.elim
theorem r_upper {x : Str} {apos cpos : Pos} (hx : x = Str.ofString "upper") (ho : PE X b (tE fa W f1)) (hbase : attributeBase b x X.env (eval b X.env) = eval b X.env) (hline : (apos.endLine == cpos.line) = true) :
    PE X (.Call (.Attribute b x apos) [] [] cpos) (tE fa W fun ρ M => (f1 ρ M).bind fun x M1 => if mtKind "upper" x M1 = true then (Rx.ok [] M1).bind fun ds M2 => up (mtD "upper" x ds M2) else .bad) := by
  subst hx
  refine PE.weak (pe_bm0 PySem.F.plainAttrs_str PySem.F.slot_str_upper PySem.F.type_str_upper mt_upper ho hbase hline) fun σ H Q h => ?_
  obtain ⟨res, β, ρ, M, S, R, h⟩ := h
  refine tE.use S R h fun x M1 v H1 β1 s1 S1 R1 r1 h => ?_
  split at h
  · rename_i hk
    obtain ⟨d, M', e, P⟩ := PR.leaf h
    replace e : mtUpper x [] M1 = .ok d M' := e
    unfold mtUpper at e
    split at e
    · cases r1
      split at e
      · rename_i hz; cases e; exact ⟨rfl, _, rfl, rfl, hz, (P.after s1).same S1 (.str _)⟩
      · cases e
    · cases e
  · exact h.elim
theorem r_pop0 {x : Str} {apos cpos : Pos} (hx : x = Str.ofString "pop") (ho : PE X b (tE fa W f1)) (hbase : attributeBase b x X.env (eval b X.env) = eval b X.env) (hline : (apos.endLine == cpos.line) = true) :
    PE X (.Call (.Attribute b x apos) [] [] cpos) (tE fa W fun ρ M => (f1 ρ M).bind fun x M1 => if mtKind "pop" x M1 = true then (Rx.ok [] M1).bind fun ds M2 => up (mtD "pop" x ds M2) else .bad) := by
  subst hx
  refine PE.weak (pe_bm0 PySem.F.plainAttrs_list PySem.F.slot_list_pop PySem.F.type_list_pop mt_pop ho hbase hline) fun σ H Q h => ?_
  obtain ⟨res, β, ρ, M, S, R, h⟩ := h
  refine tE.use S R h fun x M1 v H1 β1 s1 S1 R1 r1 h => ?_
  split at h
  · rename_i hk
    obtain ⟨d, M', e, P⟩ := PR.leaf h
    replace e : mtPop0 x [] M1 = .ok d M' := e
    exact pop0_use ⟨res, β1, M1, x, d, M', S1, r1, e, P.after s1⟩
  · exact h.elim
/-! ### tests -/
theorem t_truth (ha : PE X e (tE fa W f)) (he : ∀ whole, isTrue e X.env whole = (do let v ← whole; standAt e.pos; holding [v] (truthy v))) : PT X e (tB fa W fun ρ M => (f ρ M).bind truR) := by
  refine PT.weak (pt_truth ha he) fun σ H Q h => ?_
  obtain ⟨res, β, ρ, M, S, R, h⟩ := h
  refine tE.use S R h fun x M1 v H1 β1 s1 S1 R1 r1 h => ?_
  unfold truR at h
  split at h
  · rename_i k hk; exact ⟨_, truD_of S1 r1 hk, h H1 β1 s1 S1⟩
  · exact h.elim
theorem t_not {g : Rho → MH → Rx Bool} (ha : PT X a (tB fa W g)) : PT X (.UnaryOp .Not a pos) (tB fa W fun ρ M => (g ρ M).bind fun b M1 => .ok (!b) M1) := by
  refine PT.weak (pt_not ha) fun σ H Q h => ?_
  obtain ⟨res, β, ρ, M, S, R, h⟩ := h
  exact tB.use S R h fun k M1 H1 β1 s1 S1 R1 h => h H1 β1 s1 S1
theorem PR.goB {res β β1 : List Addr} {H H1 : Hp} {σ : L2.St} {r : Rx Bool} {Q : Bool → Hp → Prop} (h : PR fa W res β1 H1 σ r fun b M' => ∀ H' β', Step [] β H β' H' → Sim fa β' res M' H' → Q b H') (s : Step [] β H β1 H1) : PR fa W res β1 H1 σ r fun b M' => ∀ H' β', Step [] β1 H1 β' H' → Sim fa β' res M' H' → Q b H' := h.imp fun _ _ _ q H' β' st S => q H' β' (s.trans st) S
theorem t_and {g g' : Rho → MH → Rx Bool} {rest : List Expr} (ha : PT X a (tB fa W g)) (hb : PW X (.BoolOp .And (b :: rest) pos) (tB fa W g')) : PW X (.BoolOp .And (a :: b :: rest) pos) (tB fa W fun ρ M => (g ρ M).bind fun x M1 => if x = true then g' ρ M1 else .ok false M1) := by
  refine PW.weak (pw_and ha hb) fun σ H Q h => ?_
  obtain ⟨res, β, ρ, M, S, R, h⟩ := h
  refine tB.use S R h fun k M1 H1 β1 s1 S1 R1 h => ?_
  cases k with
  | true => rw [if_pos rfl] at h ⊢; exact ⟨res, β1, ρ, M1, S1, R1, h.goB s1⟩
  | false => rw [if_neg Bool.false_ne_true] at h ⊢; exact h H1 β1 s1 S1
theorem t_or {g g' : Rho → MH → Rx Bool} {rest : List Expr} (ha : PT X a (tB fa W g)) (hb : PW X (.BoolOp .Or (b :: rest) pos) (tB fa W g')) : PW X (.BoolOp .Or (a :: b :: rest) pos) (tB fa W fun ρ M => (g ρ M).bind fun x M1 => if x = true then .ok true M1 else g' ρ M1) := by
  refine PW.weak (pw_or ha hb) fun σ H Q h => ?_
  obtain ⟨res, β, ρ, M, S, R, h⟩ := h
  refine tB.use S R h fun k M1 H1 β1 s1 S1 R1 h => ?_
  cases k with
  | true => rw [if_pos rfl] at h ⊢; exact h H1 β1 s1 S1
  | false => rw [if_neg Bool.false_ne_true] at h ⊢; exact ⟨res, β1, ρ, M1, S1, R1, h.goB s1⟩
end
end Mj
/-! Mj10: what loops walk. -/
namespace Mj
open PySem PySem.Spec PyProof.Rows L2

/-- the sizes that the model keeps -/
structure LenOk (H : Hp) : Prop where
  lst : ∀ a xs, H a = some (.lst xs) → xs.length ≤ sizeLine
  tup : ∀ a xs, H a = some (.tup xs) → xs.length ≤ sizeLine
  frz : ∀ a o xs, H a = some (.frz o (.tup xs)) → xs.length ≤ sizeLine
section
variable {fa : FB} {W : WX} {X : Cx} {res β : List Addr} {M M' : MH} {H : Hp} {d : D} {v : V} {a b e : Expr} {f f1 f2 : Rho → MH → Rx D} {tg : Expr} {pos p : Pos}
theorem Inv.lens {pins : List (Addr × Obj)} {s : Shared} {σ : L2.St} (I : Inv X pins σ H s) : LenOk H :=
  ⟨fun a xs h => let ⟨z, _⟩ := I.hok a _ h; z, fun a xs h => let ⟨z, _⟩ := I.hok a _ h; z, fun a o xs h => let ⟨_, z, _⟩ := I.hok a _ h; z⟩
theorem PE.heap {t : TE} (h : PE X e t) : PE X e (fun σ H Q => t σ H fun x H1 => LenOk H1 → Q x H1) := ⟨fun pins s σ H Q I q => thn (h.run pins s σ H _ I q) fun u s1 ⟨w, H1, I1, r1, q1⟩ => ⟨w, H1, I1, r1, q1 (Inv.lens I1)⟩⟩
theorem PA.heap {es : List Expr} {t : TA} (h : PA X es t) : PA X es (fun σ H Q => t σ H fun x H1 => LenOk H1 → Q x H1) := ⟨fun pos pins s σ H Q I q => thn (h.run pos pins s σ H _ I q) fun u s1 ⟨w, H1, I1, r1, q1⟩ => ⟨w, H1, I1, r1, q1 (Inv.lens I1)⟩⟩
theorem PI.weak {iter : Expr} {w w' : TI} (h : PI X tg iter w) (hw : ∀ σ H R, w' σ H R → w σ H R) : PI X tg iter w' := ⟨fun pins s σ H R I q => h.run pins s σ H R I (hw σ H R q)⟩

inductive ItOk (fa : FB) (K : PySem.W.Frag) (res β : List Addr) (H : Hp) : L2.It → Src → Prop where
  | lst {a : Addr} {ds : List D} {vs : List V} : H a = some (.lst vs) → a ∉ β → a ∉ res → Reps fa β res H ds vs → ItOk fa K res β H (Itl K a) (.vals ds)
  | tup {a : Addr} {o : Obj} {ds : List D} {vs : List V} : H a = some (.frz o (.tup vs)) → a ∉ β → a ∉ res → Reps fa β res H ds vs → ItOk fa K res β H (Itt K a) (.vals ds)
  | live {a : Addr} {n len : Nat} : β[n]? = some a → ItOk fa K res β H (Itl K a) (.live n len)
  | str (x : Str) : ItOk fa K res β H (Its x) (.vals (x.cps.toList.map fun c => .str ⟨#[c]⟩))
  | rng (lo : Int) (n : Nat) : ItOk fa K res β H (Itr lo n) (.vals ((List.range n).map fun (k : Nat) => D.int (lo + (k : Int))))
  | zip {a b : Addr} {ds es : List D} {vs ws : List V} : H a = some (.lst vs) → a ∉ β → a ∉ res → Reps fa β res H ds vs → H b = some (.lst ws) → b ∉ β → b ∉ res → Reps fa β res H es ws → ItOk fa K res β H (Itz K a b) (.zipL ds es)
  | zipT {a b : Addr} {o o' : Obj} {ds es : List D} {vs ws : List V} : H a = some (.frz o (.tup vs)) → a ∉ β → a ∉ res → Reps fa β res H ds vs → H b = some (.frz o' (.tup ws)) → b ∉ β → b ∉ res → Reps fa β res H es ws → ItOk fa K res β H (RZ.ItzT K a b) (.zipL ds es)
  | enu {a : Addr} {ds : List D} {vs : List V} : H a = some (.lst vs) → a ∉ β → a ∉ res → Reps fa β res H ds vs → ItOk fa K res β H (Ite K a) (.enuL ds)
theorem ItOk.step {K : PySem.W.Frag} {J : L2.It} {src : Src} {mv β' : List Addr} {H' : Hp} (h : ItOk fa K res β H J src) (s : Step mv β H β' H') (hm : ∀ a ∈ mv, a ∈ res) : ItOk fa K res β' H' J src := by
  have kp : ∀ {a : Addr} {o : HO}, H a = some o → NoTbl o → a ∉ β → a ∉ res → H' a = some o := fun e nt nb nr => s.keep _ _ e nb (fun q => nr (hm _ q)) nt
  have ni : ∀ {a : Addr} {o : HO}, H a = some o → a ∉ β → a ∉ β' := fun e nb => s.notin (by rw [e]; simp) nb
  have nl : ∀ {vs : List V}, NoTbl (.lst vs) := fun _ z => nomatch z
  have nt : ∀ {o : Obj} {u : HO}, NoTbl (.frz o u) := fun _ z => nomatch z
  cases h with
  | lst e nb nr r => exact .lst (kp e nl nb nr) (ni e nb) nr (r.step s hm)
  | tup e nb nr r => exact .tup (kp e nt nb nr) (ni e nb) nr (r.step s hm)
  | live e =>
    obtain ⟨γ, rfl, _⟩ := s.pre
    refine .live ?_
    rw [List.getElem?_append_left (List.getElem?_eq_some_iff.mp e).1]
    exact e
  | str x => exact .str x
  | rng lo n => exact .rng lo n
  | zip e nb nr r e' nb' nr' r' => exact .zip (kp e nl nb nr) (ni e nb) nr (r.step s hm) (kp e' nl nb' nr') (ni e' nb') nr' (r'.step s hm)
  | zipT e nb nr r e' nb' nr' r' => exact .zipT (kp e nt nb nr) (ni e nb) nr (r.step s hm) (kp e' nt nb' nr') (ni e' nb') nr' (r'.step s hm)
  | enu e nb nr r => exact .enu (kp e nl nb nr) (ni e nb) nr (r.step s hm)
theorem ItOk.hold {K : PySem.W.Frag} {J : L2.It} {src : Src} {p : Addr} {o : HO} (h : ItOk fa K res β H J src) (hp : H p = none) : ItOk fa K (p :: res) β (upd H p o) J src := by
  have nr' : ∀ {a : Addr} {u : HO}, H a = some u → a ∉ res → a ∉ p :: res := fun {a u} e nr q => by
    rcases List.mem_cons.mp q with q | q
    · rw [q, hp] at e; cases e
    · exact nr q
  have up : ∀ {a : Addr} {u : HO}, H a = some u → upd H p o a = some u := fun e => by rw [upd_ne (ne_of_none e hp)]; exact e
  cases h with
  | lst e nb nr r => exact .lst (up e) nb (nr' e nr) (r.hold hp)
  | tup e nb nr r => exact .tup (up e) nb (nr' e nr) (r.hold hp)
  | live e => exact .live e
  | str x => exact .str x
  | rng lo n => exact .rng lo n
  | zip e nb nr r e' nb' nr2 r' => exact .zip (up e) nb (nr' e nr) (r.hold hp) (up e') nb' (nr' e' nr2) (r'.hold hp)
  | zipT e nb nr r e' nb' nr2 r' => exact .zipT (up e) nb (nr' e nr) (r.hold hp) (up e') nb' (nr' e' nr2) (r'.hold hp)
  | enu e nb nr r => exact .enu (up e) nb (nr' e nr) (r.hold hp)
/-- a fresh pair of a walk -/
theorem pair_new {T : Addr} {d1 d2 : D} {v1 v2 : V} (S : Sim fa β res M H) (q2 : H T = none) (h2 : Rep fa β res H d1 v1) (k2 : Rep fa β res H d2 v2) :
    Step [] β H β (upd H T (.tup [v1, v2])) ∧ Sim fa β res M (upd H T (.tup [v1, v2])) ∧ Rep fa β res (upd H T (.tup [v1, v2])) (.ptup [d1, d2]) (.ref T) :=
  ⟨step_new q2, S.new q2, .ptup upd_same (S.fresh q2) (fun q => S.rt T q q2) (.cons (h2.step (mv := []) (step_new q2) (by simp)) (.cons (k2.step (mv := []) (step_new q2) (by simp)) .nil))⟩
theorem ItOk.item {K : PySem.W.Frag} {J : L2.It} {src : Src} {i : Nat} (S : Sim fa β res M H) (h : ItOk fa K res β H J src) (e : srcAt M i src = some d) :
    J.go i H ∧ ∀ x H', J.yld i H x H' → Step [] β H β H' ∧ Sim fa β res M H' ∧ Rep fa β res H' d x := by
  cases h with
  | lst e1 nb nr r =>
    obtain ⟨w, h1, h2⟩ := r.get e
    refine ⟨⟨_, w, SqL.of e1, h1⟩, fun x H' ⟨q1, q2⟩ => ?_⟩
    subst q1
    have := (q2 _ (SqL.of e1)).symm.trans h1
    cases this
    exact ⟨Step.refl, S, h2⟩
  | tup e1 nb nr r =>
    obtain ⟨w, h1, h2⟩ := r.get e
    refine ⟨⟨_, w, SqT.ofF e1, h1⟩, fun x H' ⟨q1, q2⟩ => ?_⟩
    subst q1
    have := (q2 _ (SqT.ofF e1)).symm.trans h1
    cases this
    exact ⟨Step.refl, S, h2⟩
  | @live a n len e1 =>
    unfold srcAt at e
    simp only at e
    split at e
    · rename_i ys hq
      split at e
      · obtain ⟨vs, g1, g2⟩ := lst_at S e1 hq
        obtain ⟨w, h1, h2⟩ := g2.get e
        refine ⟨⟨_, w, SqL.of g1, h1⟩, fun x H' ⟨q1, q2⟩ => ?_⟩
        subst q1
        have := (q2 _ (SqL.of g1)).symm.trans h1
        cases this
        exact ⟨Step.refl, S, h2⟩
      · cases e
    · cases e
  | str x =>
    have e' : (x.cps.toList.map fun c => D.str ⟨#[c]⟩)[i]? = some d := e
    rw [List.getElem?_map] at e'
    cases q : x.cps.toList[i]? with
    | none => rw [q] at e'; cases e'
    | some c =>
      rw [q] at e'
      cases e'
      have hq : x.cps[i]? = some c := by simpa using q
      refine ⟨(Array.getElem?_eq_some_iff.mp hq).1, fun y H' ⟨q1, c', h1, h2⟩ => ?_⟩
      subst q1 h2
      rw [hq] at h1
      cases h1
      exact ⟨Step.refl, S, .str _⟩
  | rng lo n =>
    have e' : ((List.range n).map fun (k : Nat) => D.int (lo + (k : Int)))[i]? = some d := e
    rw [List.getElem?_map] at e'
    by_cases hi : i < n
    · rw [List.getElem?_range hi] at e'
      cases e'
      refine ⟨hi, fun y H' ⟨q1, q2⟩ => ?_⟩
      subst q1 q2
      exact ⟨Step.refl, S, .int _⟩
    · rw [List.getElem?_eq_none (by simpa using hi)] at e'
      cases e'
  | @zip a b ds es vs ws e1 nb nr r e2 nb' nr' r' =>
    unfold srcAt at e
    simp only at e
    split at e
    · rename_i x y hx hy
      cases e
      obtain ⟨w1, h1, h2⟩ := r.get hx
      obtain ⟨w2, k1, k2⟩ := r'.get hy
      refine ⟨⟨_, _, w1, w2, SqL.of e1, SqL.of e2, h1, k1⟩, fun z H' ⟨T, x1, x2, q1, q2, q3, q4, q5⟩ => ?_⟩
      subst q1 q3
      have z1 := (q4 _ (SqL.of e1)).symm.trans h1
      have z2 := (q5 _ (SqL.of e2)).symm.trans k1
      cases z1; cases z2
      exact pair_new S q2 h2 k2
    · cases e
  | @zipT a b o o' ds es vs ws e1 nb nr r e2 nb' nr' r' =>
    unfold srcAt at e
    simp only at e
    split at e
    · rename_i x y hx hy
      cases e
      obtain ⟨w1, h1, h2⟩ := r.get hx
      obtain ⟨w2, k1, k2⟩ := r'.get hy
      refine ⟨⟨_, _, w1, w2, SqT.ofF e1, SqT.ofF e2, h1, k1⟩, fun z H' ⟨T, x1, x2, q1, q2, q3, q4, q5⟩ => ?_⟩
      subst q1 q3
      have z1 := (q4 _ (SqT.ofF e1)).symm.trans h1
      have z2 := (q5 _ (SqT.ofF e2)).symm.trans k1
      cases z1; cases z2
      exact pair_new S q2 h2 k2
    · cases e
  | @enu a ds vs e1 nb nr r =>
    unfold srcAt at e
    simp only at e
    split at e
    · rename_i x hx
      cases e
      obtain ⟨w1, h1, h2⟩ := r.get hx
      refine ⟨⟨_, w1, SqL.of e1, h1⟩, fun z H' ⟨T, x1, q1, q2, q3, q4⟩ => ?_⟩
      subst q1 q3
      have z1 := (q4 _ (SqL.of e1)).symm.trans h1
      cases z1
      exact pair_new S q2 (.int _) h2
    · cases e
theorem ItOk.stop {K : PySem.W.Frag} {J : L2.It} {src : Src} (S : Sim fa β res M H) (h : ItOk fa K res β H J src) (e : srcEnd M src = true) : J.stop (srcLen src) H := by
  cases h with
  | lst e1 nb nr r => exact ⟨_, SqL.of e1, by rw [← r.length]; exact Nat.le_refl _⟩
  | tup e1 nb nr r => exact ⟨_, SqT.ofF e1, by rw [← r.length]; exact Nat.le_refl _⟩
  | @live a n len e1 =>
    unfold srcEnd at e
    simp only at e
    split at e
    · rename_i ys hq
      obtain ⟨vs, g1, g2⟩ := lst_at S e1 hq
      refine ⟨_, SqL.of g1, ?_⟩
      rw [← g2.length]
      exact Nat.le_of_eq (eq_of_beq e)
    · cases e
  | str x =>
    show x.cps.size ≤ (x.cps.toList.map fun c => D.str ⟨#[c]⟩).length
    simp
  | rng lo n =>
    show n ≤ ((List.range n).map fun (k : Nat) => D.int (lo + (k : Int))).length
    simp
  | @zip a b ds es vs ws e1 nb nr r e2 nb' nr' r' =>
    refine ⟨_, _, SqL.of e1, SqL.of e2, ?_⟩
    show vs.length ≤ min ds.length es.length ∨ ws.length ≤ min ds.length es.length
    rw [r.length, r'.length]
    omega
  | @zipT a b o o' ds es vs ws e1 nb nr r e2 nb' nr' r' =>
    refine ⟨_, _, SqT.ofF e1, SqT.ofF e2, ?_⟩
    show vs.length ≤ min ds.length es.length ∨ ws.length ≤ min ds.length es.length
    rw [r.length, r'.length]
    omega
  | @enu a ds vs e1 nb nr r => exact ⟨_, SqL.of e1, by rw [← r.length]; exact Nat.le_refl _⟩
def iS (fa : FB) (W : WX) (K : PySem.W.Frag) (f : Rho → MH → Rx Src) : TI := fun σ H R => ∃ res β ρ M, Sim fa β res M H ∧ RepS fa β res H ρ σ ∧ PR fa W res β H σ (f ρ M) fun src M' => ∀ J H' β', Step [] β H β' H' → Sim fa β' res M' H' → ItOk fa K res β' H' J src → srcLen src ≤ sizeLine → R J H'
theorem i_seq (he : PE X e (tE fa W f)) : PI X tg e (iS fa W X.K fun ρ M => (f ρ M).bind fun d M1 => match srcOf M1 d with | some s => .ok s M1 | none => .bad) := by
  refine ⟨fun pins s σ H R I h => ?_⟩
  obtain ⟨res, β, ρ, M, S, R0, h⟩ := h
  simp only at h
  have exc : (∀ d M1, f ρ M ≠ .ok d M1) → wpAny (model X.prog X.w) X.A (eval _ X.env) (fun v s1 => wpAny (model X.prog X.w) X.A (pyIter v) (PIE X pins σ tg R) X.xe s1) X.xe s := fun no =>
    (pi_list (tg := tg) he).run pins s σ H R I (tE.useE S R0 h fun d M1 v H1 β1 e _ _ _ _ _ => absurd e (no d M1))
  cases q : f ρ M with
  | bad => rw [q] at h; exact h.elim
  | exc x Mx => exact exc fun d M1 z => by rw [q] at z; cases z
  | ok d M1 =>
    have hb := h
    rw [q] at hb
    replace hb : PR fa W res β H σ (match srcOf M1 d with | some s => .ok s M1 | none => .bad) fun src M' => ∀ J H' β', Step [] β H β' H' → Sim fa β' res M' H' → ItOk fa X.K res β' H' J src → srcLen src ≤ sizeLine → R J H' := hb
    have use : ∀ {G : V → Hp → Prop}, (∀ v H1 β1, Step [] β H β1 H1 → Sim fa β1 res M1 H1 → Rep fa β1 res H1 d v → G v H1) → tE fa W f σ H G := fun g => tE.useE S R0 h fun d' M1' v H1 β1 e s1 S1 R1 r1 _ => by
      rw [q] at e
      cases e
      exact g v H1 β1 s1 S1 r1
    have lists : (∀ v H1 β1, Step [] β H β1 H1 → Sim fa β1 res M1 H1 → Rep fa β1 res H1 d v → LenOk H1 → ∃ a, v = V.ref a ∧ (∃ xs, SqL X.K H1 a xs) ∧ R (Itl X.K a) H1) → wpAny (model X.prog X.w) X.A (eval _ X.env) (fun v s1 => wpAny (model X.prog X.w) X.A (pyIter v) (PIE X pins σ tg R) X.xe s1) X.xe s := fun g =>
      (pi_list (tg := tg) (PE.heap he)).run pins s σ H R I (use fun v H1 β1 s1 S1 r1 lo => g v H1 β1 s1 S1 r1 lo)
    cases hs : srcOf M1 d with
    | none => rw [hs] at hb; exact hb.elim
    | some src =>
      rw [hs] at hb
      replace hb : ∀ J H' β', Step [] β H β' H' → Sim fa β' res M1 H' → ItOk fa X.K res β' H' J src → srcLen src ≤ sizeLine → R J H' := hb
      cases d with
      | str x =>
        refine (pi_str (tg := tg) he).run pins s σ H R I (use fun v H1 β1 s1 S1 r1 => ?_)
        cases r1
        unfold srcOf at hs
        simp only at hs
        split at hs
        · rename_i hz
          cases hs
          refine ⟨_, rfl, hb _ H1 β1 s1 S1 (.str x) ?_⟩
          show (x.cps.toList.map fun c => D.str ⟨#[c]⟩).length ≤ sizeLine
          rw [List.length_map]
          exact hz
        · cases hs
      | tup xs =>
        cases hs
        refine (pi_tup (tg := tg) (PE.heap he)).run pins s σ H R I (use fun v H1 β1 s1 S1 r1 lo => ?_)
        cases r1 with
        | tup e1 pt nb nr q => exact ⟨_, rfl, ⟨_, SqT.ofF e1⟩, hb _ H1 β1 s1 S1 (.tup e1 nb nr q) (by show xs.length ≤ _; rw [q.length]; exact lo.frz _ _ _ e1)⟩
      | lst xs =>
        cases hs
        refine lists fun v H1 β1 s1 S1 r1 lo => ?_
        cases r1 with
        | lst e1 nb nr q => exact ⟨_, rfl, ⟨_, SqL.of e1⟩, hb _ H1 β1 s1 S1 (.lst e1 nb nr q) (by show xs.length ≤ _; rw [q.length]; exact lo.lst _ _ e1)⟩
      | ref n =>
        unfold srcOf at hs
        simp only at hs
        split at hs
        · rename_i ys hq
          cases hs
          refine lists fun v H1 β1 s1 S1 r1 lo => ?_
          cases r1 with
          | ref e1 =>
            obtain ⟨vs, g1, g2⟩ := lst_at S1 e1 hq
            exact ⟨_, rfl, ⟨_, SqL.of g1⟩, hb _ H1 β1 s1 S1 (.live e1) (by show ys.length ≤ _; rw [g2.length]; exact lo.lst _ _ g1)⟩
        · cases hs
      | _ => cases hs
theorem i_rng1 (hg : Gl X "range") (hm : X.mg "range" = none) (ha : PE X a (tE fa W f)) (hs : starEach [a] X.env = [(false, eval a X.env)]) : PI X tg (.Call (.Name "range" p) [a] [] pos) (iS fa W X.K fun ρ M => (f ρ M).bind fun d M1 => match d with
    | .int j => if -(2 ^ 62) ≤ j ∧ j ≤ 10000 then .ok (.vals ((List.range j.toNat).map fun (k : Nat) => D.int (0 + (k : Int)))) M1 else .bad
    | _ => .bad) := by
  refine PI.weak (pi_range1 hg hm (pa_cons ha pa_nil hs) hs) fun σ H R h => ?_
  obtain ⟨res, β, ρ, M, S, R0, h⟩ := h
  refine tE.use S R0 h fun d M1 v H1 β1 s1 S1 R1 r1 h => ?_
  split at h
  · rename_i j
    split at h
    · rename_i hz
      cases r1
      refine ⟨j, rfl, hz.1, by omega, h _ H1 β1 s1 S1 (.rng 0 _) ?_⟩
      show ((List.range j.toNat).map fun (k : Nat) => D.int (0 + (k : Int))).length ≤ 2 ^ 24
      simp
      omega
    · exact h.elim
  · exact h.elim
theorem i_rng2 (hg : Gl X "range") (hm : X.mg "range" = none) (ha : PE X a (tE fa W f1)) (hb : PE X b (tE fa W f2)) (hs : starEach [a, b] X.env = [(false, eval a X.env), (false, eval b X.env)]) (hs2 : starEach [b] X.env = [(false, eval b X.env)]) : PI X tg (.Call (.Name "range" p) [a, b] [] pos) (iS fa W X.K fun ρ M => (f1 ρ M).bind fun x M1 => (f2 ρ M1).bind fun y M2 => match x, y with
    | .int i, .int j => if (-10000 ≤ i ∧ i ≤ 10000) ∧ (-10000 ≤ j ∧ j ≤ 10000) then .ok (.vals ((List.range (j - i).toNat).map fun (k : Nat) => D.int (i + (k : Int)))) M2 else .bad
    | _, _ => .bad) := by
  refine PI.weak (pi_range2 hg hm (pa_cons ha (pa_cons hb pa_nil hs2) (by rw [hs, hs2])) hs hs2) fun σ H R h => ?_
  obtain ⟨res, β, ρ, M, S, R0, h⟩ := h
  refine tE.use S R0 h fun x M1 v H1 β1 s1 S1 R1 r1 h => tE.use S1 R1 h fun y M2 w H2 β2 s2 S2 R2 r2 h => ?_
  split at h
  · rename_i i j _
    split at h
    · rename_i hz
      cases r1; cases r2
      refine ⟨i, j, rfl, ⟨by omega, by omega, by omega, by omega⟩, h _ H2 β2 (s1.trans s2) S2 (.rng i _) ?_⟩
      show ((List.range (j - i).toNat).map fun (k : Nat) => D.int (i + (k : Int))).length ≤ 2 ^ 24
      simp
      omega
    · exact h.elim
  · exact h.elim
theorem i_zip {elts : List Expr} {kk : Nat} {tpos : Pos} (hg : Gl X "zip") (hm : X.mg "zip" = none) (ha : PE X a (tE fa W f1)) (hb : PE X b (tE fa W f2)) (hs : starEach [a, b] X.env = (false, eval a X.env) :: starEach [b] X.env) (hs2 : starEach [b] X.env = (false, eval b X.env) :: starEach [] X.env) (hpl : (backTo pos (starEach [b] X.env)).any (·.1) = false) :
    PI X (.Tuple elts kk tpos) (.Call (.Name "zip" p) [a, b] [] pos) (iS fa W X.K fun ρ M => (f1 ρ M).bind fun x M1 => (f2 ρ M1).bind fun y M2 => match x, y with
    | .lst xs, .lst ys => .ok (.zipL xs ys) M2
    | .tup xs, .tup ys => .ok (.zipL xs ys) M2
    | _, _ => .bad) := by
  refine PI.weak (RZ.pi_zipA hg hm (PA.heap (pa_cons ha (pa_cons hb pa_nil hs2) hs)) hs hpl) fun σ H R h => ?_
  obtain ⟨res, β, ρ, M, S, R0, h⟩ := h
  refine tE.use S R0 h fun x M1 v H1 β1 s1 S1 R1 r1 h => tE.use S1 R1 h fun y M2 w H2 β2 s2 S2 R2 r2 h => ?_
  intro lo
  have r1' := r1.step s2 (by simp)
  split at h
  · rename_i xs ys _
    cases r1' with
    | lst e1 nb nr q =>
      cases r2 with
      | lst e2 nb' nr' q' =>
        refine ⟨_, _, _, _, rfl, .inl ⟨SqL.of e1, SqL.of e2, h _ H2 β2 (s1.trans s2) S2 (.zip e1 nb nr q e2 nb' nr' q') ?_⟩⟩
        show min xs.length ys.length ≤ sizeLine
        have := lo.lst _ _ e1
        rw [← q.length] at this
        omega
  · rename_i xs ys _
    cases r1' with
    | tup e1 pt nb nr q =>
      cases r2 with
      | tup e2 pt' nb' nr' q' =>
        refine ⟨_, _, _, _, rfl, .inr ⟨SqT.ofF e1, SqT.ofF e2, h _ H2 β2 (s1.trans s2) S2 (.zipT e1 nb nr q e2 nb' nr' q') ?_⟩⟩
        show min xs.length ys.length ≤ sizeLine
        have := lo.frz _ _ _ e1
        rw [← q.length] at this
        omega
  · exact h.elim
theorem i_enum {elts : List Expr} {kk : Nat} {tpos : Pos} (hg : Gl X "enumerate") (hm : X.mg "enumerate" = none) (ha : PE X a (tE fa W f1)) (hs : starEach [a] X.env = [(false, eval a X.env)]) :
    PI X (.Tuple elts kk tpos) (.Call (.Name "enumerate" p) [a] [] pos) (iS fa W X.K fun ρ M => (f1 ρ M).bind fun x M1 => match x with
    | .lst xs => .ok (.enuL xs) M1
    | _ => .bad) := by
  refine PI.weak (pi_enum hg hm (PA.heap (pa_cons ha pa_nil hs)) hs) fun σ H R h => ?_
  obtain ⟨res, β, ρ, M, S, R0, h⟩ := h
  refine tE.use S R0 h fun x M1 v H1 β1 s1 S1 R1 r1 h => ?_
  intro lo
  split at h
  · rename_i xs
    cases r1 with
    | lst e1 nb nr q =>
      refine ⟨_, _, rfl, SqL.of e1, h _ H1 β1 s1 S1 (.enu e1 nb nr q) ?_⟩
      show xs.length ≤ sizeLine
      have := lo.lst _ _ e1
      rw [← q.length] at this
      exact this
  · exact h.elim
end
end Mj
/-! Mj11: targets, comprehensions, loops, statements. -/
namespace Mj
open PySem PySem.Spec PyProof.Rows L2

section
variable {fa : FB} {W : WX} {X : Cx} {res β : List Addr} {M M' : MH} {H : Hp} {d : D} {v : V} {a b c e : Expr} {f f1 f2 : Rho → MH → Rx D} {tg : Expr} {pos p : Pos}
/-! ### targets -/
def Tgs.len : Tgs → Nat
  | .nil => 0
  | .cons _ r => Tgs.len r + 1
mutual
def gT (K : PySem.W.Frag) : Tg → TG
  | .name i => gName i
  | .tup ts => gTup K ts.len (gTs K ts)
def gTs (K : PySem.W.Frag) : Tgs → TGs
  | .nil => gNil
  | .cons t r => gCons (gT K t) (gTs K r)
end
structure Touch (is : List Nat) (σ σ' : L2.St) : Prop where
  len : σ'.length = σ.length
  out : ∀ j, j ∉ is → σ'[j]? = σ[j]?
theorem bindTs_len : ∀ (ts : Tgs) (ds : List D) (ρ ρ' : Rho), bindTs ts ds ρ = some ρ' → ds.length = ts.len
  | .nil, [], _, _, _ => rfl
  | .nil, _ :: _, _, _, e => by simp [bindTs] at e
  | .cons t r, [], _, _, e => by simp [bindTs] at e
  | .cons t r, d :: ds, ρ, ρ', e => by
    simp only [bindTs] at e
    split at e
    · simp [Tgs.len, bindTs_len r ds _ _ e]
    · cases e
mutual
theorem gT_use {Q : L2.St → Hp → Prop} {K : PySem.W.Frag} : ∀ {t : Tg} {d : D} {v : V} {ρ ρ' : Rho} {σ : L2.St}, (∀ i ∈ t.own, i ∉ fa.fix.map Prod.fst) → RepS fa β res H ρ σ → Rep fa β res H d v → bindT t d ρ = some ρ' → (∀ σ', RepS fa β res H ρ' σ' → Touch t.own σ σ' → Q σ' H) → gT K t v σ H Q
  | .name i, d, v, ρ, ρ', σ, hf, R, r, e, h => by
    simp only [bindT] at e
    cases e
    simp only [gT]
    exact h _ (R.set i r (hf i (by simp [Tg.own]))) ⟨by simp, fun j hj => by rw [List.getElem?_set_ne (fun q => hj (by rw [q]; simp [Tg.own]))]⟩
  | .tup ts, d, v, ρ, ρ', σ, hf, R, r, e, h => by
    simp only [bindT] at e
    simp only [gT]
    split at e
    · rename_i ds
      cases r with
      | tup e1 pt nb nr q => exact ⟨_, _, rfl, SqT.ofF e1, by rw [← q.length]; exact bindTs_len _ _ _ _ e, gTs_use (ts := ts) (by simpa only [Tg.own] using hf) R q e (by simpa only [Tg.own] using h)⟩
    · rename_i ds
      cases r with
      | ptup e1 nb nr q => exact ⟨_, _, rfl, SqT.of e1, by rw [← q.length]; exact bindTs_len _ _ _ _ e, gTs_use (ts := ts) (by simpa only [Tg.own] using hf) R q e (by simpa only [Tg.own] using h)⟩
    · cases e
theorem gTs_use {Q : L2.St → Hp → Prop} {K : PySem.W.Frag} : ∀ {ts : Tgs} {ds : List D} {vs : List V} {ρ ρ' : Rho} {σ : L2.St}, (∀ i ∈ ts.own, i ∉ fa.fix.map Prod.fst) → RepS fa β res H ρ σ → Reps fa β res H ds vs → bindTs ts ds ρ = some ρ' → (∀ σ', RepS fa β res H ρ' σ' → Touch ts.own σ σ' → Q σ' H) → gTs K ts vs σ H Q
  | .nil, ds, vs, ρ, ρ', σ, hf, R, r, e, h => by
    cases r with
    | nil =>
      simp only [bindTs] at e
      cases e
      simp only [gTs]
      exact ⟨rfl, h σ R ⟨rfl, fun _ _ => rfl⟩⟩
    | cons _ _ => simp [bindTs] at e
  | .cons t r, ds, vs, ρ, ρ', σ, hf, R, rr, e, h => by
    cases rr with
    | nil => simp [bindTs] at e
    | @cons d1 w ds1 ws r1 r2 =>
      simp only [bindTs] at e
      simp only [gTs]
      split at e
      · rename_i ρ1 hb
        refine ⟨w, ws, rfl, gT_use (t := t) (fun i hi => hf i (by simp [Tgs.own, hi])) R r1 hb fun σ1 R1 t1 => gTs_use (ts := r) (fun i hi => hf i (by simp [Tgs.own, hi])) R1 r2 e fun σ2 R2 t2 => h σ2 R2 ⟨t2.len.trans t1.len, fun j hj => ?_⟩⟩
        simp only [Tgs.own, List.mem_append, not_or] at hj
        rw [t2.out j hj.2, t1.out j hj.1]
      · cases e
end
theorem wipe_in {σ : L2.St} {j : Nat} : ∀ {vs : List Nat}, j ∈ vs → (wipe σ vs)[j]? = if j < σ.length then some none else none
  | v :: vs, h => by
    show ((wipe σ vs).set v none)[j]? = _
    by_cases q : v = j
    · subst q
      by_cases hl : v < σ.length
      · rw [List.getElem?_set_self (by rw [wipe_length]; exact hl), if_pos hl]
      · rw [List.getElem?_eq_none (by rw [List.length_set, wipe_length]; omega), if_neg hl]
    · rw [List.getElem?_set_ne q]
      rcases List.mem_cons.mp h with e | h
      · exact absurd e.symm q
      · exact wipe_in h
theorem wipe_touch {σ σ2 : L2.St} {vs : List Nat} (t : Touch vs (wipe σ vs) σ2) : wipe σ2 vs = wipe σ vs := by
  apply List.ext_getElem?
  intro j
  by_cases h : j ∈ vs
  · rw [wipe_in h, wipe_in h, t.len, wipe_length]
  · rw [wipe_out h, t.out j h]
theorem wipeR_some {ρ : Rho} {i : Nat} {d : D} : ∀ {vs : List Nat}, (wipeR ρ vs)[i]? = some (some d) → ρ[i]? = some (some d) ∧ i ∉ vs
  | [], h => ⟨h, by simp⟩
  | v :: vs, h => by
    have h : ((wipeR ρ vs).set v none)[i]? = some (some d) := h
    by_cases q : v = i
    · subst q
      by_cases hl : v < (wipeR ρ vs).length
      · rw [List.getElem?_set_self hl] at h; cases h
      · rw [List.getElem?_eq_none (by rw [List.length_set]; omega)] at h; cases h
    · rw [List.getElem?_set_ne q] at h
      obtain ⟨h1, h2⟩ := wipeR_some h
      exact ⟨h1, fun z => (List.mem_cons.mp z).elim (fun e => q e.symm) h2⟩
theorem wipeR_length (ρ : Rho) : ∀ vs : List Nat, (wipeR ρ vs).length = ρ.length
  | [] => rfl
  | v :: vs => by
    show ((wipeR ρ vs).set v none).length = _
    rw [List.length_set, wipeR_length ρ vs]
theorem RepS.wipe {ρ : Rho} {σ : L2.St} (hf : fa.fix = []) (R : RepS fa β res H ρ σ) (vs : List Nat) : RepS fa β res H (wipeR ρ vs) (wipe σ vs) := by
  refine ⟨by rw [wipeR_length, wipe_length]; exact R.len, fun p hp => (by rw [hf] at hp; cases hp), fun i d h => ?_⟩
  obtain ⟨h1, h2⟩ := wipeR_some h
  obtain ⟨w, k1, k2⟩ := R.at_ i d h1
  exact ⟨w, by rw [wipe_out h2]; exact k1, k2⟩
theorem Step.ofHold {β β' : List Addr} {H H' : Hp} {p : Addr} {o : HO} (s : Step [p] β (upd H p o) β' H') (hp : H p = none) : Step [] β H β' H' := by
  refine ⟨?_, fun a u e nb _ nt => ?_, fun a h => s.dom a (by
    by_cases q : a = p
    · subst q; exact absurd hp h
    · rw [upd_ne q]; exact h)⟩
  · obtain ⟨γ, h1, h2⟩ := s.pre
    refine ⟨γ, h1, fun a ha => ?_⟩
    have := h2 a ha
    by_cases q : a = p
    · subst q; rw [upd_same] at this; cases this
    · rw [upd_ne q] at this; exact this
  · have hne := ne_of_none e hp
    exact s.keep a u (by rw [upd_ne hne]; exact e) nb (by simpa using hne) nt
theorem Step.adopt {β β' : List Addr} {H H' : Hp} {p : Addr} (s : Step [] β H β' H') (hp : H p = none) : Step [] β H (β' ++ [p]) H' := by
  obtain ⟨⟨γ, rfl, f⟩, k, d⟩ := s
  exact ⟨⟨γ ++ [p], by simp, fun a ha => (List.mem_append.mp ha).elim (f a) fun z => by rw [List.mem_singleton.mp z]; exact hp⟩, k, d⟩
theorem Step.none_of {mv β β' : List Addr} {H H' : Hp} {p : Addr} (s : Step mv β H β' H') (hp : H' p = none) : H p = none := by
  cases q : H p with
  | none => rfl
  | some o => exact absurd hp (s.dom p (by rw [q]; simp))
theorem notin_adopt {a p : Addr} (nb : a ∉ β) (nr : a ∉ p :: res) : a ∉ β ++ [p] ∧ a ∉ res :=
  ⟨fun q => (List.mem_append.mp q).elim nb fun z => nr (by rw [List.mem_singleton.mp z]; simp), fun q => nr (List.mem_cons_of_mem _ q)⟩
mutual
theorem Rep.adopt {p : Addr} {d : D} {v : V} : Rep fa β (p :: res) H d v → Rep fa (β ++ [p]) res H d v
  | .non => .non
  | .bl b => .bl b
  | .int i => .int i
  | .str x => .str x
  | .ty t => .ty t
  | .fn k => .fn k
  | .ref e => .ref (by rw [List.getElem?_append_left (List.getElem?_eq_some_iff.mp e).1]; exact e)
  | .tup e pt nb nr r => .tup e pt (notin_adopt nb nr).1 (notin_adopt nb nr).2 (Reps.adopt r)
  | .ptup e nb nr r => .ptup e (notin_adopt nb nr).1 (notin_adopt nb nr).2 (Reps.adopt r)
  | .lst e nb nr r => .lst e (notin_adopt nb nr).1 (notin_adopt nb nr).2 (Reps.adopt r)
  | .scr e nb nr => .scr e (notin_adopt nb nr).1 (notin_adopt nb nr).2
  | .scrK h => .scrK h
theorem Reps.adopt {p : Addr} {ds : List D} {vs : List V} : Reps fa β (p :: res) H ds vs → Reps fa (β ++ [p]) res H ds vs
  | .nil => .nil
  | .cons r q => .cons (Rep.adopt r) (Reps.adopt q)
end
theorem RepKV.adopt {p : Addr} : ∀ {ds : List (Key × D)} {vs : List (Key × V)}, RepKV fa β (p :: res) H ds vs → RepKV fa (β ++ [p]) res H ds vs
  | _, _, .nil => .nil
  | _, _, .cons r q => .cons r.adopt (RepKV.adopt q)
/-- a reserved object becomes one that may change -/
theorem Sim.adopt {p : Addr} {o : MO} {ho : HO} (s : Sim fa β (p :: res) M H) (hpr : p ∉ res) (e : H p = some ho) (r : RepO fa β (p :: res) H o ho) : Sim fa (β ++ [p]) res (M ++ [o]) H ∧ p ∉ β := by
  have hpb : p ∉ β := fun q => s.nr p q (by simp)
  have repO : ∀ {o : MO} {ho : HO}, RepO fa β (p :: res) H o ho → RepO fa (β ++ [p]) res H o ho := by
    intro o ho h
    cases h with
    | lst r => exact .lst r.adopt
    | dict r => exact .dict r.adopt
  refine ⟨⟨by simp [s.len], ?_, fun a h => ?_, fun a h => s.rt a (List.mem_cons_of_mem _ h), fun a h => s.rp a (List.mem_cons_of_mem _ h), s.tabs, fun q hq => ⟨(s.fx q hq).1, (notin_adopt (s.fx q hq).2.1 (s.fx q hq).2.2.1).1, (notin_adopt (s.fx q hq).2.1 (s.fx q hq).2.2.1).2, (s.fx q hq).2.2.2⟩, fun q hq => (s.kn q hq).adopt, fun n a mo e1 e2 => ?_⟩, hpb⟩
  · rw [List.nodup_append]
    exact ⟨s.nd, by simp, fun a h b h' q => by rw [List.mem_singleton.mp h'] at q; subst q; exact hpb h⟩
  · rcases List.mem_append.mp h with h | h
    · exact fun q => s.nr a h (List.mem_cons_of_mem _ q)
    · rw [List.mem_singleton.mp h]
      exact hpr
  · by_cases hn : n < β.length
    · rw [List.getElem?_append_left hn] at e1
      rw [List.getElem?_append_left (by rw [← s.len]; exact hn)] at e2
      obtain ⟨ho', h1, h2⟩ := s.at_ n a mo e1 e2
      exact ⟨ho', h1, repO h2⟩
    · have en : n = β.length := by
        have := (List.getElem?_eq_some_iff.mp e1).1
        simp at this
        omega
      subst en
      rw [List.getElem?_append_right (Nat.le_refl _)] at e1
      rw [s.len, List.getElem?_append_right (Nat.le_refl _)] at e2
      simp at e1 e2
      subst e1 e2
      exact ⟨ho, e, repO r⟩

/-! ### comprehensions -/
/-- no exception is let out -/
abbrev W0 : WX := fun _ _ _ _ => False
theorem comp_noX {src : Src} {bind : D → Option Rho} {cond : Rho → MH → Rx Bool} {elt : Rho → MH → Rx D} {x : XV} {Mx : MH} : ∀ (k i : Nat) (acc : List D) (M : MH), compLoop src bind cond elt k i acc M ≠ .exc x Mx
  | 0, i, acc, M => by unfold compLoop; split <;> exact fun z => nomatch z
  | k + 1, i, acc, M => by
    unfold compLoop
    split
    · split
      · cases cond _ M with
        | ok b M1 =>
          simp only [noX, Rx.bind]
          split
          · cases elt _ M1 with
            | ok e M2 => exact comp_noX k (i + 1) _ M2
            | exc _ _ => exact fun z => nomatch z
            | bad => exact fun z => nomatch z
          · exact comp_noX k (i + 1) _ M1
        | exc _ _ => exact fun z => nomatch z
        | bad => exact fun z => nomatch z
      · exact fun z => nomatch z
    · exact fun z => nomatch z
theorem noX_ok {α : Type} {r : Rx α} {a : α} {M1 : MH} (h : noX r = .ok a M1) : r = .ok a M1 := by
  cases r <;> first | exact h | cases h
theorem Rx.bind_ok {α γ : Type} {r : Rx α} {g : α → MH → Rx γ} {b : γ} {M : MH} (h : r.bind g = .ok b M) : ∃ a M1, r = .ok a M1 ∧ g a M1 = .ok b M := by
  cases r with
  | ok a M1 => exact ⟨a, M1, rfl, h⟩
  | exc _ _ => cases h
  | bad => cases h
theorem tB.useO {g : Rho → MH → Rx Bool} {ρ : Rho} {σ : L2.St} {k : Bool} {M1 : MH} {W : WX} {Q : Bool → Hp → Prop} (S : Sim fa β res M H) (R : RepS fa β res H ρ σ) (e : g ρ M = .ok k M1) (h : ∀ H' β', Step [] β H β' H' → Sim fa β' res M1 H' → RepS fa β' res H' ρ σ → Q k H') : tB fa W g σ H Q :=
  ⟨res, β, ρ, M, S, R, by rw [e]; exact fun H' β' st s => h H' β' st s (R.step st (by simp))⟩
theorem tE.useO {g : Rho → MH → Rx D} {ρ : Rho} {σ : L2.St} {d : D} {M1 : MH} {W : WX} {Q : VK} (S : Sim fa β res M H) (R : RepS fa β res H ρ σ) (e : g ρ M = .ok d M1) (h : ∀ v H' β', Step [] β H β' H' → Sim fa β' res M1 H' → RepS fa β' res H' ρ σ → Rep fa β' res H' d v → Q v H') : tE fa W g σ H Q :=
  ⟨res, β, ρ, M, S, R, by rw [e]; exact fun v H' β' st s r => h v H' β' st s (R.step st (by simp)) r⟩
theorem PR.comp {σ : L2.St} {γ : Type} {src : Src} {bind : D → Option Rho} {cond : Rho → MH → Rx Bool} {elt : Rho → MH → Rx D} {k i : Nat} {acc : List D} {g : List D → MH → Rx γ} {P : γ → MH → Prop} (h : PR fa W res β H σ ((compLoop src bind cond elt k i acc M).bind g) P) : ∃ ds M2, compLoop src bind cond elt k i acc M = .ok ds M2 ∧ PR fa W res β H σ (g ds M2) P := by
  cases q : compLoop src bind cond elt k i acc M with
  | ok ds M2 => rw [q] at h; exact ⟨ds, M2, rfl, h⟩
  | exc x Mx => exact absurd q (comp_noX k i acc M)
  | bad => rw [q] at h; exact h.elim
theorem lc_use {m : Bool} {t : Tg} {fI : Rho → MH → Rx Src} {fc : Rho → MH → Rx Bool} {fe : Rho → MH → Rx D} {K : PySem.W.Frag} {σ : L2.St} {H : Hp} {Q : VK} (hf : fa.fix = [])
    (h : tE fa W (fun ρ M => (fI ρ M).bind fun src M1 => (compLoop src (fun d => bindT t d (wipeR ρ t.own)) fc fe (srcLen src) 0 [] M1).bind fun ds M2 => up (newL m ds M2)) σ H Q) :
    tLc (iS fa W K fI) (gT K t) (tB fa W0 fc) (tE fa W0 fe) t.own σ H Q := by
  obtain ⟨res, β, ρ, M, S, R, h⟩ := h
  refine ⟨res, β, ρ, M, S, R, h.bind.imp fun src M1 e1 h J H1 β1 s1 S1 it hsz p hp => ?_⟩
  obtain ⟨fin, Mf, e2, h⟩ := h.comp
  obtain ⟨d, M', e3, P⟩ := h.leaf
  have hpr : p ∉ res := fun q => S1.rt p q hp
  have R1 : RepS fa β1 res H1 ρ σ := R.step s1 (by simp)
  have it1 : ItOk fa K (p :: res) β1 (upd H1 p (.lst [])) J src := it.hold hp
  have R2 : RepS fa β1 (p :: res) (upd H1 p (.lst [])) (wipeR ρ t.own) (wipe σ t.own) := (R1.hold hp).wipe hf t.own
  have sub : ∀ a ∈ [p], a ∈ p :: res := fun a h => by rw [List.mem_singleton.mp h]; simp
  have pl : ∀ {vs : List V}, Pl (.lst vs) := .inl ⟨_, rfl⟩
  have nt : ∀ {vs : List V}, NoTbl (.lst vs) := fun _ z => nomatch z
  refine ⟨fun i m H => ∃ β' M' ds vs, Step [p] β1 (upd H1 p (.lst [])) β' H ∧ Sim fa β' (p :: res) M' H ∧ H p = some (.lst vs) ∧ Reps fa β' (p :: res) H ds vs ∧ ds.length ≤ i ∧ i + m = srcLen src ∧ compLoop src (fun d => bindT t d (wipeR ρ t.own)) fc fe m i ds M' = .ok fin Mf,
    ⟨srcLen src, β1, M1, [], [], Step.refl, S1.hold hp pl, upd_same, .nil, Nat.le_refl _, by omega, e2⟩, fun i mm H hW => ?_⟩
  obtain ⟨β', M', ds, vs, st, S', ep, r, hl, hi, e⟩ := hW
  have it' : ItOk fa K (p :: res) β' H J src := it1.step st sub
  have R' : RepS fa β' (p :: res) H (wipeR ρ t.own) (wipe σ t.own) := R2.step st sub
  have hpb : p ∉ β' := fun q => S'.nr p q (by simp)
  cases mm with
  | zero =>
    left
    unfold compLoop at e
    split at e
    · rename_i hend
      cases e
      have ei : i = srcLen src := by omega
      subst ei
      refine ⟨it'.stop S' hend, ?_⟩
      have st0 : Step [] β _ β' H := s1.trans (st.ofHold hp)
      unfold newL at e3
      cases m with
      | false =>
        rw [if_neg Bool.false_ne_true] at e3
        cases e3
        exact P _ H β' st0 S'.unreserve (.lst ep hpb hpr r.unreserve)
      | true =>
        rw [if_pos rfl] at e3
        cases e3
        obtain ⟨S2, _⟩ := S'.adopt hpr ep (.lst r)
        refine P (.ref p) H (β' ++ [p]) ?_ S2 (.ref ?_)
        · exact st0.adopt (s1.none_of hp)
        · rw [← S'.len, List.getElem?_append_right (Nat.le_refl _)]
          simp
    · cases e
  | succ k =>
    right
    unfold compLoop at e
    split at e
    · rename_i it0 hit
      split at e
      · rename_i ρ1 hb
        obtain ⟨bb, M2, ec, e⟩ := Rx.bind_ok e
        replace ec := noX_ok ec
        obtain ⟨hgo, hyl⟩ := it'.item S' hit
        refine ⟨hgo, fun H' => ∃ β' M' ds vs, Step [p] β1 (upd H1 p (.lst [])) β' H' ∧ Sim fa β' (p :: res) M' H' ∧ H' p = some (.lst vs) ∧ Reps fa β' (p :: res) H' ds vs ∧ ds.length ≤ i + 1 ∧ (i + 1) + k = srcLen src ∧ compLoop src (fun d => bindT t d (wipeR ρ t.own)) fc fe k (i + 1) ds M' = .ok fin Mf,
          fun H' hN => ⟨k, Nat.lt_succ_self k, hN⟩, fun x H' hy => ?_⟩
        obtain ⟨sy, Sy, ry⟩ := hyl x H' hy
        have epy : H' p = some (.lst vs) := sy.keep p _ ep hpb (by simp) nt
        refine gT_use (t := t) (fun i _ z => by rw [hf] at z; cases z) (R'.step sy (by simp)) ry hb fun σ2 R2' tch => ⟨wipe_touch tch, ?_⟩
        refine tB.useO Sy R2' ec fun H3 β3 s3 S3 R3 => ?_
        have ep3 : H3 p = some (.lst vs) := s3.keep p _ epy hpb (by simp) nt
        have st3 : Step [p] β1 (upd H1 p (.lst [])) β3 H3 := st.trans ((sy.trans s3).more)
        have r3 : Reps fa β3 (p :: res) H3 ds vs := r.step (sy.trans s3) (by simp)
        have hpb3 : p ∉ β3 := fun q => S3.nr p q (by simp)
        cases bb with
        | false =>
          rw [if_neg Bool.false_ne_true] at e ⊢
          exact ⟨β3, M2, ds, vs, st3, S3, ep3, r3, by omega, by omega, e⟩
        | true =>
          rw [if_pos rfl] at e ⊢
          obtain ⟨y, M3, ee, e⟩ := Rx.bind_ok e
          replace ee := noX_ok ee
          refine tE.useO S3 R3 ee fun w H4 β4 s4 S4 R4 r4 => ?_
          have ep4 : H4 p = some (.lst vs) := s4.keep p _ ep3 hpb3 (by simp) nt
          refine ⟨vs, ep4, ?_, β4, M3, ds ++ [y], vs ++ [w], (st3.trans s4.more).trans step_mv, S4.mvd (by simp) pl, upd_same, ?_, by simp; omega, by omega, e⟩
          · rw [← r.length]
            omega
          · exact ((r3.step s4 (by simp)).append (.cons r4 .nil)).step step_mv sub
      · cases e
    · cases e
theorem r_comp {m : Bool} {t : Tg} {elt iter : Expr} {ifs : List Expr} {scope : Scope} {own : List (Str × Nat)} {fI : Rho → MH → Rx Src} {fc : Rho → MH → Rx Bool} {fe : Rho → MH → Rx D} (hf : fa.fix = []) (hc : X.calm = true) (hN : X.N.Nodup) (hi : PI X tg iter (iS fa W X.K fI)) (ok : BlkOk X.N X.env.scope scope own) (ho : own.map (·.2) = t.own)
    (hg : ∀ (s : Shared) (H : Hp) (C : Addr) (cl : List (Str × Addr)) (fp : List Addr), PG (X.blk s H scope (compEnvC scope cl C X.env) fp) tg (gT X.K t)) (ht : ∀ (s : Shared) (H : Hp) (C : Addr) (cl : List (Str × Addr)) (fp : List Addr), PTs (X.blk s H scope (compEnvC scope cl C X.env) fp) ifs (tB fa W0 fc))
    (he : ∀ (s : Shared) (H : Hp) (C : Addr) (cl : List (Str × Addr)) (fp : List Addr), PE (X.blk s H scope (compEnvC scope cl C X.env) fp) elt (tE fa W0 fe)) (hs : ∀ x, foldedSetIterable iter X.env x = pure x) :
    PE X (.ListComp elt [⟨tg, iter, ifs, 0⟩] scope pos) (tE fa W fun ρ M => (fI ρ M).bind fun src M1 => (compLoop src (fun d => bindT t d (wipeR ρ t.own)) fc fe (srcLen src) 0 [] M1).bind fun ds M2 => up (newL m ds M2)) := by
  refine PE.weak (pe_lc hc hN hi ok hg ht he hs) fun σ H Q h => ?_
  rw [ho]
  exact lc_use hf h

/-! ### statements -/
variable {st : Stmt} {sts : List Stmt} {g g1 g2 : Rho → MH → Res Fl}
theorem s_nil : PSs X [] (tF fa W fun ρ M => .ok (.nx ρ) M) := by
  refine PSs.weak pss_nil fun En σ H h => ?_
  obtain ⟨res, β, ρ, M, o, M', S, R, e, P⟩ := h
  cases e
  exact P σ H β Step.refl S R
theorem s_cons (h1 : PS X st (tF fa W g1)) (h2 : PSs X sts (tF fa W g2)) : PSs X (st :: sts) (tF fa W fun ρ M => (g1 ρ M).bind fun f M1 => match f with | .nx ρ1 => g2 ρ1 M1 | f => .ok f M1) := by
  refine PSs.weak (pss_cons h1 h2) fun En σ H h => ?_
  obtain ⟨res, β, ρ, M, o, M', S, R, e, P⟩ := h
  obtain ⟨f, M1, e1, e⟩ := Res.bind_ok e
  refine ⟨res, β, ρ, M, f, M1, S, R, e1, ?_⟩
  cases f with
  | nx ρ1 => exact fun σ' H' β' s1 S1 R1 => ⟨res, β', ρ1, M1, o, M', S1, R1, e, P.after s1⟩
  | rt d => cases e; exact P
  | xc x ρ1 => cases e; exact P
theorem s_ret (he : PE X e (tE fa W f)) : PS X (.Return (some e) pos) (tF fa W fun ρ M => liftS ρ (f ρ M) fun d M1 => .ok (.rt d) M1) := by
  refine PS.weak (ps_ret he) fun En σ H h => ?_
  obtain ⟨res, β, ρ, M, o, M', S, R, e, P⟩ := h
  refine tE.useS S R e P fun d M1 v H1 β1 s1 S1 R1 r1 e P => ?_
  cases e
  exact Post.same P S1 r1
theorem s_expr (he : PE X e (tE fa W f)) (hs : swapsWith e none pos.line X.env = pure false) : PS X (.Expr e pos) (tF fa W fun ρ M => liftS ρ (f ρ M) fun _ M1 => .ok (.nx ρ) M1) := by
  refine PS.weak (ps_expr he hs) fun En σ H h => ?_
  obtain ⟨res, β, ρ, M, o, M', S, R, e, P⟩ := h
  refine tE.useS S R e P fun d M1 v H1 β1 s1 S1 R1 r1 e P => ?_
  cases e
  exact P σ H1 β1 Step.refl S1 R1
theorem s_set {i : Nat} {x : Str} {pos' : Pos} (hfx : i ∉ fa.fix.map Prod.fst) (hN : X.N.Nodup) (hi : X.N[i]? = some x) (hx : Loc X.env.scope x) (he : PE X e (tE fa W f)) (hs : swapsWith e (some (.Name x pos')) pos.line X.env = pure false) (hf : X.fn x = true ∨ X.env.scope.names.lookup x = some .local) :
    PS X (.Assign [.Name x pos'] e pos) (tF fa W fun ρ M => liftS ρ (f ρ M) fun d M1 => .ok (.nx (ρ.set i (some d))) M1) := by
  refine PS.weak (ps_set hN hi hx he hs hf) fun En σ H h => ?_
  obtain ⟨res, β, ρ, M, o, M', S, R, e, P⟩ := h
  refine tE.useS S R e P fun d M1 v H1 β1 s1 S1 R1 r1 e P => ?_
  cases e
  exact P _ H1 β1 Step.refl S1 (R1.set i r1 hfx)
theorem s_setLc {i : Nat} {y : Str} {py spos : Pos} {m : Bool} {t : Tg} {elt iter : Expr} {ifs : List Expr} {scope : Scope} {own : List (Str × Nat)} {fI : Rho → MH → Rx Src} {fc : Rho → MH → Rx Bool} {fe : Rho → MH → Rx D} (hf : fa.fix = []) (hc : X.calm = true) (hN : X.N.Nodup) (hy : X.N[i]? = some y) (hyl : X.env.scope.names.lookup y = some .local)
    (hsw : swapsWith (.ListComp elt [⟨tg, iter, ifs, 0⟩] scope pos) (some (.Name y py)) spos.line X.env = pure true) (hi : PI X tg iter (iS fa W X.K fI)) (ok : BlkOk X.N X.env.scope scope own) (ho : own.map (·.2) = t.own)
    (hg : ∀ (s : Shared) (H : Hp) (C : Addr) (cl : List (Str × Addr)) (fp : List Addr), PG (X.blk s H scope (compEnvC scope cl C X.env) fp) tg (gT X.K t)) (ht : ∀ (s : Shared) (H : Hp) (C : Addr) (cl : List (Str × Addr)) (fp : List Addr), PTs (X.blk s H scope (compEnvC scope cl C X.env) fp) ifs (tB fa W0 fc))
    (he : ∀ (s : Shared) (H : Hp) (C : Addr) (cl : List (Str × Addr)) (fp : List Addr), PE (X.blk s H scope (compEnvC scope cl C X.env) fp) elt (tE fa W0 fe)) (hs : ∀ x, foldedSetIterable iter X.env x = pure x) :
    PS X (.Assign [.Name y py] (.ListComp elt [⟨tg, iter, ifs, 0⟩] scope pos) spos) (tF fa W fun ρ M => liftS ρ ((fI ρ M).bind fun src M1 => (compLoop src (fun d => bindT t d (wipeR ρ t.own)) fc fe (srcLen src) 0 [] M1).bind fun ds M2 => up (newL m ds M2)) fun d M1 => .ok (.nx (ρ.set i (some d))) M1) := by
  refine PS.weak (ps_setLc hc hN hy hyl hsw hi ok hg ht he hs) fun En σ H h => ?_
  obtain ⟨res, β, ρ, M, o, M', S, R, e, P⟩ := h
  show tLc _ _ _ _ _ σ H _
  rw [ho]
  refine lc_use (m := m) hf (tE.useS S R e P fun d M1 v H1 β1 s1 S1 R1 r1 e P => ?_)
  cases e
  exact P _ H1 β1 Step.refl S1 (R1.set i r1 (by rw [hf]; simp))
theorem s_if {k : Rho → MH → Rx Bool} {bs cs : List Stmt} (hc : PT X c (tB fa W k)) (ha : PSs X bs (tF fa W g1)) (hb : PSs X cs (tF fa W g2)) : PS X (.If c bs cs pos) (tF fa W fun ρ M => liftS ρ (k ρ M) fun b M1 => if b = true then g1 ρ M1 else g2 ρ M1) := by
  refine PS.weak (ps_if hc ha hb) fun En σ H h => ?_
  obtain ⟨res, β, ρ, M, o, M', S, R, e, P⟩ := h
  refine tB.useS S R e P fun b M1 H1 β1 s1 S1 R1 e P => ?_
  cases b with
  | true => rw [if_pos rfl] at e ⊢; exact ⟨res, β1, ρ, M1, o, M', S1, R1, e, P⟩
  | false => rw [if_neg Bool.false_ne_true] at e ⊢; exact ⟨res, β1, ρ, M1, o, M', S1, R1, e, P⟩
theorem s_setIx {k : Str} {j : Nat} {kp pos' : Pos} (hu : X.A.units + 65 < cLine) (ho : PE X a (tE fa W f1)) (he : PE X e (tE fa W f2)) (hs : swapsWith e (some (.Subscript a (.Constant (.str k) j kp) pos')) pos.line X.env = pure false) :
    PS X (.Assign [.Subscript a (.Constant (.str k) j kp) pos'] e pos) (tF fa W fun ρ M => liftS ρ (f2 ρ M) fun v M1 => liftS ρ (f1 ρ M1) fun x M2 => match x with
      | .ref n => (match M2[n]? with
        | some (.dict kvs) => if kvs.length < 1000 then .ok (.nx ρ) (M2.set n (.dict (putD kvs (.inr k) v))) else .bad
        | _ => .bad)
      | _ => .bad) := by
  refine PS.weak (ps_dput (by omega) ho pe_str he hs) fun En σ H h => ?_
  obtain ⟨res, β, ρ, M, o, M', S, R, e, P⟩ := h
  refine tE.useS S R e P fun v M1 w H1 β1 s1 S1 R1 r1 e P => tE.useS S1 R1 e P fun x M2 u H2 β2 s2 S2 R2 r2 e P => ?_
  split at e
  · rename_i n
    split at e
    · rename_i kvs hq
      split at e
      · rename_i hz
        cases e
        cases r2 with
        | ref e3 =>
          obtain ⟨ho, h1, h2⟩ := S2.at_ n _ _ e3 hq
          cases h2 with
          | dict r =>
            have hm := List.mem_of_getElem? e3
            refine ⟨_, _, rfl, DPut.k (k := Sum.inr k) h1 ?_, ?_⟩
            · rw [← r.length]
              exact Nat.lt_trans hz (by decide)
            · exact P σ _ β2 (step_write hm) (S2.write e3 (.dict (putD_rep r (r1.step s2 (by simp))))) (R2.step (step_write (mv := []) hm) (by simp))
      · cases e
    · cases e
  · cases e
theorem s_for {t : Tg} {iter : Expr} {body : List Stmt} {fI : Rho → MH → Rx Src} (hfx : ∀ i ∈ t.own, i ∉ fa.fix.map Prod.fst) (hp : PassesOwn (model X.prog X.w) X.A X.env X.xe) (hc : X.calm = true) (hi : PI X tg iter (iS fa W X.K fI)) (hg : PG X tg (gT X.K t)) (hb : PSs X body (tF fa W g)) (hs : ∀ x, foldedSetIterable iter X.env x = pure x) :
    PS X (.For tg iter body [] pos) (tF fa W fun ρ M => liftS ρ (fI ρ M) fun src M1 => forLoop src (bindT t) g (srcLen src) 0 ρ M1) := by
  refine PS.weak (ps_for hp hc hi hg hb hs) fun En σ H h => ?_
  obtain ⟨res, β, ρ, M, o, Mf, S, R, e, P⟩ := h
  refine ⟨res, β, ρ, M, S, R, (lift_use R e P).imp fun src M1 e1 e2 J H1 β1 s1 S1 it hsz => ?_⟩
  refine ⟨fun i m σ H => ∃ β' M' ρ', Step [] β1 H1 β' H ∧ Sim fa β' res M' H ∧ RepS fa β' res H ρ' σ ∧ i + m = srcLen src ∧ forLoop src (bindT t) g m i ρ' M' = .ok o Mf,
    ⟨srcLen src, β1, M1, ρ, Step.refl, S1, R.step s1 (by simp), by omega, e2⟩, fun i m σ H hW => ?_⟩
  obtain ⟨β', M', ρ', st, S', R', hi, e⟩ := hW
  have it' : ItOk fa X.K res β' H J src := it.step st (by simp)
  cases m with
  | zero =>
    left
    unfold forLoop at e
    split at e
    · rename_i hend
      cases e
      have ei : i = srcLen src := by omega
      subst ei
      exact ⟨it'.stop S' hend, P σ H β' (s1.trans st) S' R'⟩
    · cases e
  | succ k =>
    right
    unfold forLoop at e
    split at e
    · rename_i it0 hit
      split at e
      · rename_i ρ1 hb
        obtain ⟨ff, M2, ec, e⟩ := Res.bind_ok e
        obtain ⟨hgo, hyl⟩ := it'.item S' hit
        refine ⟨hgo, fun σ' H' => ∃ β' M' ρ', Step [] β1 H1 β' H' ∧ Sim fa β' res M' H' ∧ RepS fa β' res H' ρ' σ' ∧ (i + 1) + k = srcLen src ∧ forLoop src (bindT t) g k (i + 1) ρ' M' = .ok o Mf, fun σ' H' hN => ⟨k, Nat.lt_succ_self k, hN⟩, fun x H' hy => ?_⟩
        obtain ⟨sy, Sy, ry⟩ := hyl x H' hy
        refine gT_use (t := t) hfx (R'.step sy (by simp)) ry hb fun σ2 R2' tch => ?_
        refine ⟨res, β', ρ1, M', ff, M2, Sy, R2', ec, ?_⟩
        cases ff with
        | nx ρ2 => exact fun σ' H3 β3 s3 S3 R3 => ⟨β3, M2, ρ2, st.trans (sy.trans s3), S3, R3, by omega, e⟩
        | rt d =>
          cases e
          exact Post.after P (s1.trans (st.trans sy))
        | xc x ρ2 =>
          cases e
          exact PostF.after (En := En) P (s1.trans (st.trans sy))
      · cases e
    · cases e
theorem s_while {n : Nat} {k : Rho → MH → Rx Bool} {body : List Stmt} (hp : PassesOwn (model X.prog X.w) X.A X.env X.xe) (hc : PT X c (tB fa W k)) (hb : PSs X body (tF fa W g)) : PS X (.While c body [] pos) (tF fa W fun ρ M => whileLoop k g n ρ M) := by
  refine PS.weak (ps_while hp hc hb) fun En σ H h => ?_
  obtain ⟨res, β, ρ, M, o, Mf, S, R, e, P⟩ := h
  refine ⟨fun m σ1 H1 => ∃ β1 ρ1 M1, Step [] β H β1 H1 ∧ Sim fa β1 res M1 H1 ∧ RepS fa β1 res H1 ρ1 σ1 ∧ whileLoop k g m ρ1 M1 = .ok o Mf, ⟨n, β, ρ, M, Step.refl, S, R, e⟩, fun m σ1 H1 hW => ?_⟩
  obtain ⟨β1, ρ1, M1, s1, S1, R1, e⟩ := hW
  cases m with
  | zero => simp [whileLoop] at e
  | succ m =>
    unfold whileLoop at e
    refine tB.useS S1 R1 e (P.after s1) fun b M2 H2 β2 s2 S2 R2 e P2 => ?_
    cases b with
    | false =>
      rw [if_neg Bool.false_ne_true] at e ⊢
      cases e
      exact P2 σ1 H2 β2 Step.refl S2 R2
    | true =>
      rw [if_pos rfl] at e ⊢
      obtain ⟨ff, M3, ec, e⟩ := Res.bind_ok e
      refine ⟨fun σ' H' => ∃ β' ρ' M', Step [] β H β' H' ∧ Sim fa β' res M' H' ∧ RepS fa β' res H' ρ' σ' ∧ whileLoop k g m ρ' M' = .ok o Mf, fun σ' H' hN => ⟨m, Nat.lt_succ_self m, hN⟩, ?_⟩
      refine ⟨res, β2, ρ1, M2, ff, M3, S2, R2, ec, ?_⟩
      cases ff with
      | nx ρ2 => exact fun σ' H3 β3 s3 S3 R3 => ⟨β3, ρ2, M3, s1.trans (s2.trans s3), S3, R3, e⟩
      | rt d => cases e; exact P2
      | xc x ρ2 => cases e; exact P2
end
end Mj
/-! Me1: an own exception over ValueError whose __init__ says super().__init__(..) and keeps its arguments. -/
namespace Mi
open PySem PySem.Spec PyProof.Rows L2 NdefX

/-- ValueError.__init__, bound to the exception at e by super(), is called -/
theorem call_mw {prog : Program} {w : World} {A : Around} {E : Value → Shared → Prop} {h : Heap} {g : Array GenState} {d : Drawn} {t : Nat} {os : OsState}
    {nm q : Str} {C N u e t0 : Addr} {bs bm : List Value} {hdct : Bool} {sn : List Str} {sub : List Value} {ab : Bool} {col : Option Bool} {dd : Option Addr} {k0 k1 k2 k3 k5 : Option Value} {rest : List Value} {Q : Value → Shared → Prop}
    (clsAt : h.get? C = some (excClassObj nm q C N bs bm hdct sn sub ab col dd k0 k1 k2 k3 k5 "ValueError.__new__")) (excAt : h.get? e = some (PySem.W.excObj C t0 none .none)) (mwAt : h.get? u = some (PySem.W.kxs_mw "ValueError.__init__" e)) (few : rest.length ≤ sizeLine)
    (done : ∀ h', (∀ b o, b ≠ e → h.get? b = some o → h'.get? b = some o) → h'.get? e = some (PySem.W.excObj C h.objs.size none .none) → Q .none ⟨h', g, d, t, os⟩) :
    wpAny (model prog w) A (call (.ref u) rest) Q E ⟨h, g, d, t, os⟩ := by
  have FB := F.excBase_ValueError
  refine wpAny_call (codeAny_of_tree ?_)
  show wpAny _ _ (callAny (Value.ref u) ⟨rest, []⟩) _ _ (⟨h, g, d, t, os⟩ : Shared)
  simp only [callAny]
  refine wpAny_bind (wpAny_load mwAt ?_)
  have isMw : (Value.type "method-wrapper" == Value.type "method" || Value.type "method-wrapper" == Value.type "builtin_function_or_method" || Value.type "method-wrapper" == Value.type "method-wrapper") = true := by decide
  simp only [PySem.W.kxs_mw, isMw, if_true]
  refine PySem.W.KFB.if_so (by decide) ?_
  refine wpAny_bind (PySem.W.check_bound_init FB.toExcCallFacts clsAt excAt rfl ?_)
  refine wpAny_bind (wpAny_pure (wpAny_pure ?_))
  refine ⟨PySem.plainId_quiet FB.init.plain _, codeAny_builtin FB.initEntry ?_⟩
  rw [Around.under_plainId FB.init.plain _]
  exact PySem.W.exc_init_tree (cls := .ref C) (t0 := t0) (dv := none) (c2 := .none) (c3 := .none) (b4 := .bool false) excAt few fun h' k1 k2 _ => done h' k1 k2
end Mi
/-! Me2: the __init__ of such an exception. -/
namespace Mi
open PySem PySem.Spec PyProof.Rows L2 NdefX

/-- what the written part says of a class and its __init__ -/
structure InitC (prog : Program) (K : PySem.W.Frag) (C fI : Addr) (fd : FuncData) (st : Stmt) (ps : List Str) : Prop where
  fn : ∃ (qual : Str) (oc : Value) (od : Option Addr) (kV doc pm : Value) (an : Option Addr) (cda : Addr) (ct : Value) (cc : Addr) (osl : Array (Option Value)) (ccl : Value) (cdd : Option Addr) (vs : Array Value) (ccs : Array (Option Value)) (file : Str) (tf : Tok) (cl : Value) (cld : Option Addr) (csl : Array (Option Value)) (cdD : ClassData),
    fd = PySem.W.ksFn "__init__" qual (defArgs st) (defBody st) (defScope st) .none kV doc pm an (.ref cda) ct cc ∧ K.lookup fI = some ⟨oc, od, .func fd, osl⟩ ∧ PySem.W.codeIn K (.ref cda) qual = true ∧
    K.lookup cda = some ⟨ccl, cdd, .fields vs, ccs⟩ ∧ vs[2]? = some (.str file tf) ∧ ((prog.main.file : Str) == file) = true ∧ K.lookup cc = some ⟨cl, cld, .cell (some (.ref C)), csl⟩ ∧ PySem.W.clsIn K C = some cdD
  mro : PySem.W.mroIn K C (.ref C) = some true
  opq : PySem.W.nsIn K cStatics "thirdparty.any" = some none
  sup : PySem.W.ks_superIn K C C "__init__" = some (some (.builtin "ValueError.__init__"))
  ve : PySem.W.subIn K (.ref C) (.type "ValueError") = some true
  oex : OexC K C
  top : (prog.main.scope.names.lookup ("super" : Str)).isSome = false
  boot : bootBuiltins "super" = some (.type "super")
  par : ((defArgs st).posonlyargs ++ (defArgs st).args).head?.map (·.arg) = some "self"
  sc : NScope (("self" : Str) :: ps ++ [("__class__" : Str)]) (("self" : Str) :: ps) [("__class__" : Str)] (defScope st)
  ks : (defScope st).names.lookup ("super" : Str) = some .globalImplicit
  no : ∀ f ∈ ps, PySem.W.findIn K (.ref C) f = some none

/-- what is left of the exception: its dict -/
def spInit (C : Addr) (ps : List Str) : Sp := fun vs H Q _ => ∃ (a : Addr) (ws : List V), vs = .ref a :: ws ∧ ws.length = ps.length ∧ H a = some (exo a C none) ∧
  ∀ d, H d = none → d ≠ a → Q .non (upd (upd H d (exd d ((ps.zip ws).reverse))) a (exo a C (some d)))

section
variable {X : Cx} {body : List Stmt} {pins : List (Addr × Obj)} {σ : L2.St} {H : Hp} {s : Shared}
/-- super().__init__(..) in the frame of X -/
theorem at_super {C f cda cc a : Addr} {cdD : ClassData} {ccl cl : Value} {cdd cld : Option Addr} {ccs csl : Array (Option Value)} {vs : Array Value} {file : Str} {tf : Tok} {oc : Value} {od : Option Addr} {osl : Array (Option Value)} {fd : FuncData} {ar : Arg} {e : Expr} {es : List Expr} {ta : TA} {p0 p1 p2 pos : Pos} {Q : Value → Shared → Prop} {c : Code} {pl : Sem Bool}
    (hbody : c = .func body X.env) (I : Inv X pins σ H s) (hea : H a = some (exo a C none)) (hfu : X.env.func = some f) (hcode : X.env.code = .ref cda) (hcel : X.env.cells.lookup ("__class__" : Str) = some cc) (hfd : X.K.lookup f = some ⟨oc, od, .func fd, osl⟩)
    (hp : (fd.params.posonlyargs ++ fd.params.args).head? = some ar) (har : ar.arg = "self") (hcd : X.K.lookup cda = some ⟨ccl, cdd, .fields vs, ccs⟩) (hvs : vs[2]? = some (.str file tf)) (hfile : ((X.prog.main.file : Str) == file) = true)
    (hcell : X.K.lookup cc = some ⟨cl, cld, .cell (some (.ref C)), csl⟩) (hD : PySem.W.clsIn X.K C = some cdD) (mro : PySem.W.mroIn X.K C (.ref C) = some true) (opq : PySem.W.nsIn X.K cStatics "thirdparty.any" = some none)
    (sup : PySem.W.ks_superIn X.K C C "__init__" = some (some (.builtin "ValueError.__init__"))) (ve : PySem.W.subIn X.K (.ref C) (.type "ValueError") = some true) (oex : OexC X.K C) (top : (X.prog.main.scope.names.lookup ("super" : Str)).isSome = false) (boot : bootBuiltins "super" = some (.type "super"))
    (hN : X.N[0]? = some ("self" : Str)) (hs : σ[0]? = some (some (.ref a))) (hsup : X.mg "super" = none) (hkS : X.env.kindOf "self" = some .local) (hkC : X.env.kindOf "__class__" = some .free) (hkU : X.env.kindOf "super" = some .globalImplicit)
    (ha : PA X (e :: es) ta) (hta : ∀ G : List V → Hp → Prop, (∀ vs, vs.length ≤ 1000 → G vs H) → ta σ H G) (done : ∀ s', Inv X pins σ H s' → Q .none s')
    (he : starEach (e :: es) X.env = (false, eval e X.env) :: starEach es X.env) (hpl : (backTo pos (starEach es X.env)).any (·.1) = false)
    (ev : eval (.Call (.Attribute (.Call (.Name "super" p0) [] [] p1) "__init__" p2) (e :: es) [] pos) X.env = (do
      let ov ← attributeBase (.Call (.Name "super" p0) [] [] p1) "__init__" X.env (eval (.Call (.Name "super" p0) [] [] p1) X.env)
      standAt p2.atName
      let (f, first) ← holding [ov] (getMethod ov "__init__" pl)
      callWith pos f first (backTo pos (starEach (e :: es) X.env)) [])) :
    _root_.PySem.wpAt (model X.prog X.w) X.A c (eval (.Call (.Attribute (.Call (.Name "super" p0) [] [] p1) "__init__" p2) (e :: es) [] pos) X.env) Q X.xe s := by
  subst hbody
  have kin := I.kIn
  obtain ⟨t1, ho⟩ := exo_at I.hok hea
  obtain ⟨oD, hD1, hD2⟩ : ∃ oD, s.heap.get? C = some oD ∧ oD.data = .cls cdD := by
    unfold PySem.W.clsIn at hD
    split at hD
    · rename_i h0
      cases hD
      exact ⟨_, kin _ _ h0, rfl⟩
    · cases hD
  rw [ev]
  refine _root_.PySem.wpAt_bind (ks_wpAt_mono (Q := fun ov s₁ => wpAny (model X.prog X.w) X.A (getMethod ov "__init__" pl) (fun fx s₂ => wpAny (model X.prog X.w) X.A (callWith pos fx.1 fx.2 (backTo pos (starEach (e :: es) X.env)) []) Q X.xe s₂) X.xe s₁) ?_ (fun ov s₁ h₁ => _root_.PySem.wpAt_of_wpAny (wpAny_bind (wpAny_standAt (wpAny_bind (wpAny_holding (wpAny_mono h₁ (fun fx s₂ h₂ => h₂) fun _ _ z => z)))))) fun _ _ z => z)
  refine ks_wpAt_super_base hkU hkC (by decide) hfu (kin _ _ hfd) rfl hp hcode (kin _ _ hcd) rfl hvs hfile top ?_
  have ISO : PySem.W.InstAt s.heap a { cls := .ref C, dict := none, data := .fields #[.ref t1, .none, .none, .none, .bool false, .none] } C none := ⟨ho, rfl, rfl, trivial⟩
  have isVE : PySem.W.Looks (model X.prog X.w) s.heap (isInstance (.ref a) (.type "ValueError")) true := ISO.type.andThen (PySem.W.looks_subIn kin ve)
  obtain ⟨mb, hb1, hb2⟩ := I.mod.blt
  refine PySem.W.ks_loadName_global I.ok.kind hkU (Calls.loadGlobal_builtin (by rw [I.ok.glob]; exact I.mod.glob.keeps I.bk) hsup (by rw [I.ok.blt]; exact hb1.keeps I.bk) ((hb2 _ (by decide)).trans boot) ⟨rfl, ?_⟩)
  refine wpAny_loadName_free I.ok.kind hkC hcel ⟨_, kin _ _ hcell, rfl⟩ ?_ (by decide)
  obtain ⟨m, hn, hl⟩ := id I.loc
  obtain ⟨u, ru, lk⟩ := hl 0 "self" (.ref a) hN hs (.inl hkS)
  cases ru
  have hmS : m "self" = some (.ref a) := by
    rcases lk with ⟨_, z⟩ | ⟨z, _⟩
    · exact z
    · rw [hkS] at z
      rcases z with z | z <;> cases z
  rw [har]
  refine wpAny_loadName_local I.ok.kind hkS hn hmS ?_
  refine ks_wpAny_isType_cls hD1 hD2 ⟨rfl, ?_⟩
  obtain ⟨hp0, g0, dr0, tk0, os0⟩ := s
  refine ks_wpAny_call_super hD1 hD2 ho rfl (fun c z => nomatch z) (PySem.W.looks_mroIn kin mro) fun h' hso k => ?_
  have I1 : Inv X pins σ H ⟨h', g0, dr0, tk0, os0⟩ := I.kept (t' := tk0) k
  have hxC : a ≠ C := PySem.W.ks_ne kin ISO hD
  unfold PySem.W.ks_superIn at sup
  rw [hD] at sup
  have ISO1 : PySem.W.InstAt h' a { cls := .ref C, dict := none, data := .fields #[.ref t1, .none, .none, .none, .bool false, .none] } C none := ⟨k _ _ ho, rfl, rfl, trivial⟩
  refine PySem.W.kxs_getMethod PySem.W.kxs_ValueError hso (PySem.W.looks_opaque I1.kIn opq) (l₀ := cdD.mro) (fun A Q E s k q => wpAny_bind ((PySem.W.looks_clsIn I1.kIn hD) A _ E s k (wpAny_pure q))) rfl I1.kIn sup (ISO1.type.andThen (PySem.W.looks_subIn I1.kIn ve)) hxC (by decide) ?_
  have kp : ∀ b o, h'.get? b = some o → (h'.push (PySem.W.kxs_mw "ValueError.__init__" a)).get? b = some o := fun b o q => Heap.get?_push_of_some _ q
  have hmw : (h'.push (PySem.W.kxs_mw "ValueError.__init__" a)).get? h'.objs.size = some (PySem.W.kxs_mw "ValueError.__init__" a) := Heap.get?_push_at rfl rfl
  have I2 : Inv X pins σ H ⟨h'.push (PySem.W.kxs_mw "ValueError.__init__" a), g0, dr0, tk0 + 1, os0⟩ := I1.kept (t' := tk0 + 1) kp
  have I3 : Inv X ((h'.objs.size, PySem.W.kxs_mw "ValueError.__init__" a) :: (X.pn ++ pins)) σ H ⟨h'.push (PySem.W.kxs_mw "ValueError.__init__" a), g0, dr0, tk0 + 1, os0⟩ := by
    refine I2.pins_of fun p hp => ?_
    rcases List.mem_cons.mp hp with rfl | hp
    · exact ⟨hmw, I1.hok.fresh (Nat.le_refl _), Nat.ne_of_gt I1.lt, I1.nofs (Nat.le_refl _), fun v z => nomatch z⟩
    · exact I2.pin p hp
  rw [he]
  refine PySem.W.kxs_callWith (i := "ValueError.__init__") (x := a) (by show (false || (backTo pos (starEach es X.env)).any (·.1)) = false; rw [hpl]; rfl) ?_
  refine Calls.evalArgs_plain ?_
  have hrun := ha.run pos _ _ σ H (fun vs H1 => vs.length ≤ 1000 ∧ H1 = H) I3 (hta _ fun vs hv => ⟨hv, rfl⟩)
  rw [he] at hrun
  refine thn hrun fun us s4 ⟨vs', H4, I4, r4, hl4, e4⟩ => ?_
  subst e4
  have pinned : s4.heap.get? h'.objs.size = some (PySem.W.kxs_mw "ValueError.__init__" a) := (I4.pin (h'.objs.size, PySem.W.kxs_mw "ValueError.__init__" a) (List.mem_append_right _ List.mem_cons_self)).1
  refine ⟨pinned, ?_⟩
  have I5 : Inv X pins σ H4 s4 := I4.pins_of fun p hp => I4.pin p (List.mem_append_right _ (List.mem_cons_of_mem _ (List.mem_append_right _ hp)))
  obtain ⟨t4, ho4⟩ := exo_at I5.hok hea
  obtain ⟨nm, qn, Nn, bs, bm, sn, sub, ab, col, dd, k0, k1, k2, k3, k5, hC, hbm⟩ := oex.cls
  obtain ⟨hp4, g4, dr4, tk4, os4⟩ := s4
  refine call_mw (I5.kIn _ _ hC) ho4 pinned (by show us.length ≤ _; rw [← Paired.length r4, sizeLine_eq]; omega) fun h5 kk hx5 => done _ ?_
  have J := I5.write (t' := tk4) (x := a) (e := a) (o := exo a C none) (by rw [hea]; exact True.intro) (.inl rfl) kk ⟨_, hx5⟩ (exo_ok hx5)
  have same : upd H4 a (exo a C none) = H4 := by
    funext b
    by_cases hb : b = a
    · rw [hb, upd_same, hea]
    · rw [upd_ne hb]
  rw [same] at J
  exact J
end

section
variable {P : Program} {w : World} {K : PySem.W.Frag} {mg : Str → Option Value} {base : Heap} {C fI : Addr} {fd : FuncData} {st : Stmt}
/-- self.f = f, one after the other -/
theorem init_fn {ps : List Str} {e : Expr} {es : List Expr} {rest : List Stmt} {p0 p1 p2 pos pos' : Pos} (T : InitC P K C fI fd st ps) (hsup : mg "super" = none)
    (hbody : defBody st = .Expr (.Call (.Attribute (.Call (.Name "super" p0) [] [] p1) "__init__" p2) (e :: es) [] pos) pos' :: rest)
    (ev : ∀ env : Env, ∃ pl : Sem Bool, eval (.Call (.Attribute (.Call (.Name "super" p0) [] [] p1) "__init__" p2) (e :: es) [] pos) env = (do
      let ov ← attributeBase (.Call (.Name "super" p0) [] [] p1) "__init__" env (eval (.Call (.Name "super" p0) [] [] p1) env)
      standAt p2.atName
      let (f, first) ← holding [ov] (getMethod ov "__init__" pl)
      callWith pos f first (backTo pos (starEach (e :: es) env)) []))
    (he : ∀ env : Env, starEach (e :: es) env = (false, eval e env) :: starEach es env) (hpl : ∀ env : Env, (backTo pos (starEach es env)).any (·.1) = false)
    (hargs : ∀ (X : Cx), X.N = ("self" : Str) :: ps ++ [("__class__" : Str)] → X.env.scope = defScope st → ∃ ta, PA X (e :: es) ta ∧ ∀ (σ : L2.St) (H : Hp) (G : List V → Hp → Prop), (∀ i, i < ps.length + 1 → ∃ v, σ[i]? = some (some v)) → (∀ vs, vs.length ≤ 1000 → G vs H) → ta σ H G)
    (hrest : ∀ (X : Cx) (a : Addr) (ws : List V) (H : Hp) (D : Ends), X.K = K → X.N = ("self" : Str) :: ps ++ [("__class__" : Str)] → X.env.scope = defScope st → ws.length = ps.length → H a = some (exo a C none) →
      (∀ d, H d = none → d ≠ a → D.nx (startF (("self" : Str) :: ps ++ [("__class__" : Str)]) (.ref a :: ws) [none]) (upd (upd H d (exd d ((ps.zip ws).reverse))) a (exo a C (some d)))) → ∃ t, PSs X rest t ∧ t D (startF (("self" : Str) :: ps ++ [("__class__" : Str)]) (.ref a :: ws) [none]) H) :
    FnOk P w K mg base CX0 1 fI fd (("self" : Str) :: ps) (spInit C ps) := by
  obtain ⟨qual, oc, od, kV, doc, pm, an, cda, ct, cc, osl, ccl, cdd, vs0, ccs, file, tf, cl, cld, csl, cdD, rfl, lk, hcd, lc, hvs, hfile, hcell, hD⟩ := T.fn
  refine ⟨fun vs H Q E h => ?_, fun A outer s H args us vs Q E hr env hbd rel hsp => ?_⟩
  · obtain ⟨a, ws, rfl, hw, _⟩ := h
    simp [hw]
  · obtain ⟨a, ws, rfl, hw, hea, hQ⟩ := hsp
    have inK : K.In s.heap := env.mod.kin.keeps fun b o q => (env.bs b o q).1
    have nolim : s.heap.NoLimit := env.mod.nolimit.keeps fun b o q => (env.bs b o q).1
    have hul : us.length = ps.length + 1 := by rw [← rel.length]; simp [hw]
    refine ks_codeAny_call_defAt (body := defBody st) hr.depth (inK _ _ lk) rfl nolim (PySem.W.codeRec_of inK hcd) rfl hbd T.sc.nocell (fun y hy => T.sc.par y.1 (List.of_mem_zip hy).1) (fun h₁ hns hk₁ => ?_) T.sc.co T.sc.gen T.sc.kind
    have cells : CellsAt [(("__class__" : Str), cc)] [("__class__" : Str)] [none] s.heap H := by
      have one : ∀ (y : Str) (c : Addr), [(("__class__" : Str), cc)].lookup y = some c → y = "__class__" ∧ c = cc := fun y c h => by
        have := PySem.mem_of_lookup h
        simp only [List.mem_singleton, Prod.mk.injEq] at this
        exact this
      refine ⟨rfl, fun y c h => ?_, fun x y c h1 h2 => (one x c h1).1.trans (one y c h2).1.symm, fun i y h => ?_⟩
      · obtain ⟨_, rfl⟩ := one y c h
        obtain ⟨b1, b2⟩ := env.bs _ _ (env.mod.kin _ _ hcell)
        exact ⟨b2, _, _, b1, rfl⟩
      · match i, h with
        | 0, h => cases h; exact ⟨cc, by simp [List.lookup], fun v z => by simp at z⟩
    have I0 : Inv (ncx CX0 P w K mg base (("self" : Str) :: ps ++ [("__class__" : Str)]) ⟨"__init__", qual, defArgs st, defBody st, defScope st, [(("__class__" : Str), cc)], cda⟩ fI A outer s H E) [] (startF (("self" : Str) :: ps ++ [("__class__" : Str)]) (.ref a :: ws) [none]) H { s with heap := h₁, toks := s.toks + ((("self" : Str) :: ps).zip us).length } :=
      inv_startN T.sc hr.hd env (by simp [hw]) rel cells hns hk₁
    rw [hbody]
    have fin : ∀ {σ' : L2.St} {H' : Hp} {v : V} {u : Value} {s' : Shared}, Inv (ncx CX0 P w K mg base (("self" : Str) :: ps ++ [("__class__" : Str)]) ⟨"__init__", qual, defArgs st, defBody st, defScope st, [(("__class__" : Str), cc)], cda⟩ fI A outer s H E) [] σ' H' s' → L2.RelV v u → Q v H' → CE outer P w H s Q u s' :=
      fun {σ' H' v u s'} J rv q => ⟨v, H', J.os, J.bare, J.base, J.hok, rv, q⟩
    obtain ⟨ta, hta, hta2⟩ := hargs (ncx CX0 P w K mg base (("self" : Str) :: ps ++ [("__class__" : Str)]) ⟨"__init__", qual, defArgs st, defBody st, defScope st, [(("__class__" : Str), cc)], cda⟩ fI A outer s H E) rfl rfl
    obtain ⟨pl, ev⟩ := ev (ncx CX0 P w K mg base (("self" : Str) :: ps ++ [("__class__" : Str)]) ⟨"__init__", qual, defArgs st, defBody st, defScope st, [(("__class__" : Str), cc)], cda⟩ fI A outer s H E).env
    obtain ⟨t, ht, hq⟩ := hrest (ncx CX0 P w K mg base (("self" : Str) :: ps ++ [("__class__" : Str)]) ⟨"__init__", qual, defArgs st, defBody st, defScope st, [(("__class__" : Str), cc)], cda⟩ fI A outer s H E) a ws H { nx := fun _ H' => Q .non H', rt := Q } rfl rfl rfl hw hea fun d h1 h2 => hQ d h1 h2
    have hself : ∃ ar : Arg, ((defArgs st).posonlyargs ++ (defArgs st).args).head? = some ar ∧ ar.arg = "self" := by
      have := T.par
      cases q : ((defArgs st).posonlyargs ++ (defArgs st).args).head? with
      | none => rw [q] at this; cases this
      | some ar => rw [q] at this; exact ⟨ar, rfl, Option.some.inj this⟩
    obtain ⟨ar, har1, har2⟩ := hself
    have look : ∀ {x : Str} {k : NameKind}, (defScope st).names.lookup x = some k → (ncx CX0 P w K mg base (("self" : Str) :: ps ++ [("__class__" : Str)]) ⟨"__init__", qual, defArgs st, defBody st, defScope st, [(("__class__" : Str), cc)], cda⟩ fI A outer s H E).env.kindOf x = some k := fun h => h
    refine ks_wpAt_mono (E := (ncx CX0 P w K mg base (("self" : Str) :: ps ++ [("__class__" : Str)]) ⟨"__init__", qual, defArgs st, defBody st, defScope st, [(("__class__" : Str), cc)], cda⟩ fI A outer s H E).xe) (ks_wpAt_execs_cons (ks_wpAt_Expr_any (at_super (X := ncx CX0 P w K mg base (("self" : Str) :: ps ++ [("__class__" : Str)]) ⟨"__init__", qual, defArgs st, defBody st, defScope st, [(("__class__" : Str), cc)], cda⟩ fI A outer s H E) rfl I0 hea rfl rfl (by simp [ncx, List.lookup]) lk har1 har2 lc hvs hfile hcell hD T.mro T.opq T.sup T.ve T.oex T.top T.boot rfl rfl hsup (look (T.sc.par _ List.mem_cons_self)) (look (T.sc.frk _ List.mem_cons_self)) (look T.ks) hta (fun G hG => hta2 _ _ G (fun i hi => ?_) hG) (fun s' J => ?_) (he _) (hpl _) ev) I0.quiet rfl)) (fun _ _ h => h) fun _ _ h => h
    · unfold startF
      rw [List.getElem?_append_left (by simp [hw]; omega), List.getElem?_map]
      rw [List.getElem?_eq_getElem (by simp [hw]; omega)]
      exact ⟨_, rfl⟩
    · refine _root_.PySem.wpAt_of_wpAny (wpAny_mono (ht.run [] s' _ H _ J hq) (fun fl s2 hs => ?_) fun _ _ h => h)
      cases fl with
      | ret u =>
        obtain ⟨v, σ', H', J', rv, q⟩ := hs
        exact fin J' rv q
      | next =>
        obtain ⟨σ', H', J', q⟩ := hs
        exact fin (v := V.non) (u := Value.none) J' rfl q
      | brk =>
        obtain ⟨_, _, _, q⟩ := hs
        exact False.elim q
      | cont =>
        obtain ⟨_, _, _, q⟩ := hs
        exact False.elim q
end
end Mi
/-! Me3: exceptions with one and two attributes; C(e, ..) -/
namespace Mi
open PySem PySem.Spec PyProof.Rows L2 NdefX

theorem ev_meth {o : Expr} {name : Str} {apos pos : Pos} {args : List Expr} {env : Env} (few : methodCallForm (args.length + ([] : List Keyword).length) (backTo pos (starEach args env)) (backToKw pos (keywordEach [] env)) = true) (hline : (apos.endLine == pos.line) = true) :
    ∃ pl : Sem Bool, eval (.Call (.Attribute o name apos) args [] pos) env = (do
      let ov ← attributeBase o name env (eval o env)
      standAt apos.atName
      let (f, first) ← holding [ov] (getMethod ov name pl)
      callWith pos f first (backTo pos (starEach args env)) []) := by
  refine ⟨?_, ?_⟩
  rotate_left
  · rw [arm_eval_Call]
    unfold methodCall
    rw [few]
    unfold calleeOf methodCallPos
    simp only [hline, if_true, Bool.not_true, Bool.or_true, pure_bind]
    rfl
/-- the body of such an __init__ -/
def initB (ps : List Str) (body : List Stmt) : Bool := match body with
  | [.Expr (.Call (.Attribute (.Call (.Name s _) [] [] _) i ap) [.Name f _] [] cp) _, .Assign [.Attribute (.Name o _) f' _] (.Name f'' _) _] =>
    decide (s = "super") && decide (i = "__init__") && decide (o = "self") && decide (ps = [f]) && decide (f' = f) && decide (f'' = f) && (ap.endLine == cp.line)
  | [.Expr (.Call (.Attribute (.Call (.Name s _) [] [] _) i ap) [.Name f _, .Name g _] [] cp) _, .Assign [.Attribute (.Name o _) f' _] (.Name f'' _) _, .Assign [.Attribute (.Name o' _) g' _] (.Name g'' _) _] =>
    decide (s = "super") && decide (i = "__init__") && decide (o = "self") && decide (o' = "self") && decide (ps = [f, g]) && decide (f' = f) && decide (f'' = f) && decide (g' = g) && decide (g'' = g) && (ap.endLine == cp.line)
  | _ => false
section
variable {P : Program} {w : World} {K : PySem.W.Frag} {mg : Str → Option Value} {base : Heap} {C fI : Addr} {fd : FuncData} {st : Stmt} {ps : List Str}
theorem init_ok (T : InitC P K C fI fd st ps) (hsup : mg "super" = none) (hb : initB ps (defBody st) = true) (hd : ∀ f ∈ ps, (f == ("__debug__" : Str)) = false ∧ (f == ("__classdict__" : Str)) = false) : FnOk P w K mg base CX0 1 fI fd (("self" : Str) :: ps) (spInit C ps) := by
  have vis : ∀ (X : Cx) (y : Str), X.env.scope = defScope st → y ∈ ("self" : Str) :: ps → Vis X.env.scope y := fun X y h hy => by rw [h]; exact .inl (T.sc.par y hy)
  unfold initB at hb
  split at hb
  · rename_i s p0 p1 i p2 f p3 pos pos' o p4 f' p5 f'' p6 p7 hbd
    simp only [Bool.and_eq_true, decide_eq_true_eq] at hb
    obtain ⟨⟨⟨⟨⟨⟨rfl, rfl⟩, rfl⟩, rfl⟩, rfl⟩, rfl⟩, hline⟩ := hb
    obtain ⟨d1, d2⟩ := hd _ List.mem_cons_self
    refine init_fn T hsup hbd (fun env => ev_meth rfl hline) (fun _ => rfl) (fun _ => rfl) (fun X hN hs => ?_) fun X a ws H D hK hN hs hw hea hQ => ?_
    · refine ⟨_, pa_cons (pe_var (i := 1) (by rw [hN]; rfl) (vis X _ hs (by simp)) d1 d2) pa_nil, fun σ H G hv hG => ?_⟩
      obtain ⟨v, hv⟩ := hv 1 (by simp)
      exact ⟨v, hv, hG [v] (by simp)⟩
    · match ws, hw with
      | [v], _ =>
        refine ⟨_, pss_one (ps_ost (pe_var (i := 0) (by rw [hN]; rfl) (vis X _ hs (by simp)) (by decide) (by decide)) (pe_var (i := 1) (by rw [hN]; rfl) (vis X _ hs (by simp)) d1 d2)), ?_⟩
        refine ⟨v, rfl, .ref a, rfl, a, C, rfl, by rw [hK]; exact T.oex, by rw [hK]; exact T.no _ List.mem_cons_self, .inl ⟨hea, fun d h1 h2 => hQ d h1 h2⟩⟩
  · rename_i s p0 p1 i p2 f p3 g p3' pos pos' o p4 f' p5 f'' p6 p7 o' p8 g' p9 g'' p10 p11 hbd
    simp only [Bool.and_eq_true, decide_eq_true_eq] at hb
    obtain ⟨⟨⟨⟨⟨⟨⟨⟨⟨rfl, rfl⟩, rfl⟩, rfl⟩, rfl⟩, rfl⟩, rfl⟩, rfl⟩, rfl⟩, hline⟩ := hb
    obtain ⟨d1, d2⟩ := hd _ List.mem_cons_self
    obtain ⟨d3, d4⟩ := hd _ (List.mem_cons_of_mem _ List.mem_cons_self)
    refine init_fn T hsup hbd (fun env => ev_meth rfl hline) (fun _ => rfl) (fun _ => rfl) (fun X hN hs => ?_) fun X a ws H D hK hN hs hw hea hQ => ?_
    · refine ⟨_, pa_cons (pe_var (i := 1) (by rw [hN]; rfl) (vis X _ hs (by simp)) d1 d2) (pa_cons (pe_var (i := 2) (by rw [hN]; rfl) (vis X _ hs (by simp)) d3 d4) pa_nil), fun σ H G hv hG => ?_⟩
      obtain ⟨v, hv1⟩ := hv 1 (by simp)
      obtain ⟨v', hv2⟩ := hv 2 (by simp)
      exact ⟨v, hv1, v', hv2, hG [v, v'] (by simp)⟩
    · match ws, hw with
      | [v, v'], _ =>
        refine ⟨_, pss_cons (ps_ost (pe_var (i := 0) (by rw [hN]; rfl) (vis X _ hs (by simp)) (by decide) (by decide)) (pe_var (i := 1) (by rw [hN]; rfl) (vis X _ hs (by simp)) d1 d2)) (pss_one (ps_ost (pe_var (i := 0) (by rw [hN]; rfl) (vis X _ hs (by simp)) (by decide) (by decide)) (pe_var (i := 2) (by rw [hN]; rfl) (vis X _ hs (by simp)) d3 d4))), ?_⟩
        refine ⟨v, rfl, .ref a, rfl, a, C, rfl, by rw [hK]; exact T.oex, by rw [hK]; exact T.no _ List.mem_cons_self, .inl ⟨hea, fun d h1 h2 => ?_⟩⟩
        refine ⟨v', rfl, .ref a, rfl, a, C, rfl, by rw [hK]; exact T.oex, by rw [hK]; exact T.no _ (List.mem_cons_of_mem _ List.mem_cons_self), .inr ⟨d, _, upd_same, by rw [upd_ne h2]; exact upd_same, by simp, ?_⟩⟩
        have e : upd (upd (upd H d (exd d [(f'', v)])) a (exo a C (some d))) d (exd d [(g'', v'), (f'', v)]) = upd (upd H d (exd d (([f'', g''].zip [v, v']).reverse))) a (exo a C (some d)) := by
          funext b
          by_cases hbd : b = d
          · subst hbd
            rw [upd_same, upd_ne h2, upd_same]
            rfl
          · rw [upd_ne hbd]
            by_cases hba : b = a
            · subst hba
              rw [upd_same, upd_same]
            · rw [upd_ne hba, upd_ne hba, upd_ne hbd, upd_ne hbd]
        rw [e]
        exact hQ d h1 h2
  · cases hb
end
/-- C(e, ..) -/
def tMk (C : Addr) (ps : List Str) (ta : TA) : L2.St → Hp → XK → Prop := fun σ H Q => ta σ H fun vs H1 => vs.length = ps.length ∧ ∀ d, H1 d = none → Q (.ref C) (some d) (upd H1 d (.xd (ps.zip vs).reverse))
theorem PA.weak' {X : Cx} {es : List Expr} {t t' : TA} (h : PA X es t) (w : ∀ σ H Q, t' σ H Q → t σ H Q) : PA X es t' := ⟨fun pos pins s σ H Q I q => h.run pos pins s σ H Q I (w σ H Q q)⟩
theorem pmk_sup {X : Cx} {x : Str} {C fI : Addr} {fd : FuncData} {ps : List Str} {e : Expr} {es : List Expr} {ta : TA} {p pos : Pos} (T : OexC X.K C) (F1 : FnOk X.prog X.w X.K X.mg X.base CX0 1 fI fd (("self" : Str) :: ps) (spInit C ps))
    (iC : PySem.W.findIn X.K (.ref C) "__init__" = some (some (.ref fI))) (tI : PySem.W.typeIn X.K (.ref fI) = some (.type "function")) (hr : Room 2 X.A) (hb : Binds X.K fd (("self" : Str) :: ps) []) (hps : ps.length ≤ 2) (hg : Gl X x) (hm : X.mg x = some (.ref C)) (ha : PA X (e :: es) ta)
    (hta : ∀ σ H (Q Q' : List V → Hp → Prop), (∀ vs H', Q vs H' → Q' vs H') → ta σ H Q → ta σ H Q')
    (hdb : (x == ("__debug__" : Str)) = false) (he : starEach (e :: es) X.env = (false, eval e X.env) :: starEach es X.env) (hpl : (backTo pos (starEach es X.env)).any (·.1) = false) :
    PMk X (.Call (.Name x p) (e :: es) [] pos) (tMk C ps ta) := by
  intro pins s σ H Q I h
  refine pmk_oex (dvs := []) (ds := []) T iC tI F1 hr hb .nil (fun _ _ _ _ _ _ _ z => z.elim) hg hm ha hdb he hpl pins s σ H Q I (hta σ H _ _ (fun vs H1 ⟨h1, h2⟩ => ⟨by omega, fun a hna => ?_⟩) h)
  refine ⟨a, vs, by rw [List.append_nil], h1, upd_same, fun d hd hda => ⟨rfl, d, _, upd_same, by rw [upd_ne hda]; exact upd_same, by rw [upd_ne hda] at hd; exact hd, ?_⟩⟩
  have hd' : H1 d = none := by rw [upd_ne hda] at hd; exact hd
  have e : upd (del (upd (upd (upd H1 a (exo a C none)) d (exd d (ps.zip vs).reverse)) a (exo a C (some d))) a) d (.xd (ps.zip vs).reverse) = upd H1 d (.xd (ps.zip vs).reverse) := by
    funext b
    by_cases hbd : b = d
    · subst hbd
      rw [upd_same, upd_same]
    · rw [upd_ne hbd, upd_ne hbd]
      by_cases hba : b = a
      · subst hba
        rw [del_same, hna]
      · rw [del_ne hba, upd_ne hba, upd_ne hbd, upd_ne hba]
  rw [e]
  exact h2 d hd'
end Mi
/-! Mj12: several names at once, dict displays, exceptions. -/
namespace Mj
open PySem PySem.Spec PyProof.Rows L2

def plainE : Expr → Bool
  | .Starred .. => false
  | _ => true
theorem star_plain {e : Expr} {es : List Expr} {env : Env} (h : plainE e = true) : starEach (e :: es) env = (false, eval e env) :: starEach es env := by
  cases e <;> first | rfl | cases h
theorem star_none {env : Env} {pos : Pos} : ∀ {es : List Expr}, es.all plainE = true → (backTo pos (starEach es env)).any (·.1) = false
  | [], _ => rfl
  | e :: es, h => by
    rw [List.all_cons, Bool.and_eq_true] at h
    rw [star_plain h.1]
    show ((false || (backTo pos (starEach es env)).any (·.1)) : Bool) = false
    rw [star_none h.2]
    rfl
theorem star_all {env : Env} {pos : Pos} : ∀ {es : List Expr}, es.all plainE = true → (backTo pos (starEach es env)).all (fun x => !x.1) = true
  | [], _ => rfl
  | e :: es, h => by
    rw [List.all_cons, Bool.and_eq_true] at h
    rw [star_plain h.1]
    show ((!false && (backTo pos (starEach es env)).all (fun x => !x.1)) : Bool) = true
    rw [star_all h.2]
    rfl
section
variable {env : Env} {x y : Str} {px py pt pt2 : Pos} {kt k2 : Nat} {a b : Expr}
theorem star_is (e : Expr) : (match e with | .Starred .. => true | _ => false) = !plainE e := by
  cases e <;> rfl
theorem swap_some (hk : env.blockKind = .function) (hx : env.kindOf x = some .local) (hy : env.kindOf y = some .local) (hl : (py.line == px.line) = true) (hne : x ≠ y) (ha : plainE a = true) (hb : plainE b = true) (h1 : ([a, b].all (foldedForSure 8)) = false) (h2 : ([a, b].all (constantsAlone 8)) = false) :
    swappedStores [.Tuple [.Name x px, .Name y py] kt pt] (.Tuple [a, b] k2 pt2) env = pure (some [x, y]) := by
  have st : ([a, b].any fun | .Starred .. => true | _ => false) = false := by
    rw [List.any_cons, List.any_cons, List.any_nil, star_is, star_is, ha, hb]; rfl
  have ee : ([x, y] : List Str).eraseDups.length = 2 := by
    simp [List.eraseDups_cons, hne, Ne.symm hne]
  have e1 : ([Expr.Name x px, Expr.Name y py].filterMap fun
    | .Name id pos => if (env.kindOf id == some .local && pos.line == (([Expr.Name x px, Expr.Name y py].head?.map (·.pos.line)).getD 0)) = true then some id else none
    | _ => none) = [x, y] := by
    have l0 : (([Expr.Name x px, Expr.Name y py].head?.map (·.pos.line)).getD 0) = px.line := rfl
    have hl' : py.line = px.line := by simpa using hl
    rw [l0, List.filterMap_cons, List.filterMap_cons, List.filterMap_nil]
    simp only [hx, hy, hl']
    simp
  have kk : (env.blockKind != ScopeKind.function) = false := by rw [hk]; rfl
  unfold swappedStores
  simp only []
  refine (if_neg ?_).trans ((if_neg ?_).trans ((if_neg ?_).trans ((if_neg ?_).trans ((if_neg ?_).trans ?_))))
  · rw [kk]
    simp
  · intro z
    exact Bool.false_ne_true (st.symm.trans z)
  · have key : ∀ l : List Str, l = [x, y] → ¬ ((l.length != 2 || l.eraseDups.length != l.length) = true) := by
      rintro _ rfl
      rw [ee]
      simp
    exact key _ e1
  · rw [h1]
    decide
  · rw [h2]
    decide
  · exact congrArg (fun l => pure (some l)) e1
theorem swap_none (h : env.kindOf x ≠ some .local ∨ env.kindOf y ≠ some .local) : swappedStores [.Tuple [.Name x px, .Name y py] kt pt] (.Tuple [a, b] k2 pt2) env = pure none := by
  have e1 : (([Expr.Name x px, Expr.Name y py].filterMap fun
    | .Name id pos => if (env.kindOf id == some .local && pos.line == (([Expr.Name x px, Expr.Name y py].head?.map (·.pos.line)).getD 0)) = true then some id else none
    | _ => none).length != 2) = true := by
    have nx : ∀ {z : Str}, env.kindOf z ≠ some .local → (env.kindOf z == some .local) = false := fun hz => by simpa using hz
    rw [List.filterMap_cons, List.filterMap_cons, List.filterMap_nil]
    rcases h with h | h
    · simp only [nx h, Bool.false_and, Bool.false_eq_true, if_false]
      split <;> rfl
    · simp only [nx h, Bool.false_and, Bool.false_eq_true, if_false]
      split <;> rfl
  unfold swappedStores
  simp only []
  have e2 : (([x, y] : List Str).length) = 2 := rfl
  split
  · rfl
  · split
    · rfl
    · refine if_pos ?_
      have key : ∀ l : List Str, (l.length != 2) = true → (l.length != 2 || l.eraseDups.length != l.length) = true := fun l h => by rw [h]; rfl
      exact key _ e1
end
section
variable {fa : FA} {β res : List Addr} {H : Hp}
theorem RepF.unres {p : Addr} : ∀ {ds : List (Str × D)} {vs : List (Str × V)}, RepF fa β (p :: res) H ds vs → RepF fa β res H ds vs
  | _, _, .nil => .nil
  | _, _, .cons r q => .cons r.unreserve (RepF.unres q)
end
section
variable {fa : FB} {W : WX} {X : Cx} {a b e : Expr} {f f1 f2 : Rho → MH → Rx D} {pos : Pos} {x y : Str} {i j : Nat} {px py pt pt2 : Pos} {kt k2 : Nat}
theorem s_parL (hfi : i ∉ fa.fix.map Prod.fst) (hfj : j ∉ fa.fix.map Prod.fst) (hc : X.calm = true) (hN : X.N.Nodup) (hi : X.N[i]? = some x) (hj : X.N[j]? = some y) (hij : i ≠ j) (hx : X.env.scope.names.lookup x = some .local) (hy : X.env.scope.names.lookup y = some .local) (ha : PE X a (tE fa W f1)) (hb : PE X b (tE fa W f2)) (pa : plainE a = true) (pb : plainE b = true)
    (hw : swappedStores [.Tuple [.Name x px, .Name y py] kt pt] (.Tuple [a, b] k2 pt2) X.env = pure (some [x, y])) : PS X (.Assign [.Tuple [.Name x px, .Name y py] kt pt] (.Tuple [a, b] k2 pt2) pos) (tF fa W fun ρ M => liftS ρ (f1 ρ M) fun u M1 => liftS ρ (f2 ρ M1) fun w M2 => .ok (.nx ((ρ.set i (some u)).set j (some w))) M2) := by
  refine PS.weak (ps_par hc hN hi hj hij hx hy (pa_cons ha (pa_cons hb pa_nil (star_plain pb)) (star_plain pa)) hw rfl) fun En σ H h => ?_
  obtain ⟨res, β, ρ, M, o, M', S, R, e, P⟩ := h
  refine tE.useS S R e P fun u M1 v H1 β1 s1 S1 R1 r1 e P => tE.useS S1 R1 e P fun w M2 z H2 β2 s2 S2 R2 r2 e P => ?_
  cases e
  exact ⟨v, z, rfl, P _ H2 β2 Step.refl S2 ((R2.set i (r1.step s2 (by simp)) hfi).set j r2 hfj)⟩
theorem s_parT (hfi : i ∉ fa.fix.map Prod.fst) (hfj : j ∉ fa.fix.map Prod.fst) (hc : X.calm = true) (ha : PE X a (tE fa W f1)) (hb : PE X b (tE fa W f2)) (pa : plainE a = true) (pb : plainE b = true) (hg : PG X (.Tuple [.Name x px, .Name y py] kt pt) (gT X.K (.tup (.cons (.name i) (.cons (.name j) .nil)))))
    (hw : swappedStores [.Tuple [.Name x px, .Name y py] kt pt] (.Tuple [a, b] k2 pt2) X.env = pure none) : PS X (.Assign [.Tuple [.Name x px, .Name y py] kt pt] (.Tuple [a, b] k2 pt2) pos) (tF fa W fun ρ M => liftS ρ (f1 ρ M) fun u M1 => liftS ρ (f2 ρ M1) fun w M2 => .ok (.nx ((ρ.set i (some u)).set j (some w))) M2) := by
  refine PS.weak (ps_asg (pe_tupF (pa_cons ha (pa_cons hb pa_nil (star_plain pb)) (star_plain pa))) hg rfl hw rfl) fun En σ H h => ?_
  obtain ⟨res, β, ρ, M, o, M', S, R, e, P⟩ := h
  refine tE.useS S R e P fun u M1 v H1 β1 s1 S1 R1 r1 e P => tE.useS S1 R1 e P fun w M2 z H2 β2 s2 S2 R2 r2 e P => ?_
  cases e
  refine ⟨by show 2 ≤ sizeLine; decide, fun q o hq ho => ?_⟩
  have st := step_new (mv := []) (β := β2) (o := .frz o (.tup [v, z])) hq
  have r1' := (r1.step s2 (by simp)).step st (by simp)
  have r2' := r2.step st (by simp)
  refine gT_use (t := .tup (.cons (.name i) (.cons (.name j) .nil))) (d := .tup [u, w]) (fun k hk => ?_) (R2.step st (by simp)) (.tup upd_same ho (S2.fresh hq) (fun z => S2.rt q z hq) (.cons r1' (.cons r2' .nil))) rfl fun σ' R' _ => ?_
  · simp only [Tg.own, Tgs.own, List.append_nil, List.mem_append, List.mem_singleton, List.mem_cons, List.not_mem_nil, or_false] at hk
    rcases hk with rfl | rfl
    · exact hfi
    · exact hfj
  · exact P σ' _ β2 st (S2.new hq) R'
/-- a target and one value -/
theorem s_unp {tg : Expr} {t : Tg} (hfx : ∀ i ∈ t.own, i ∉ fa.fix.map Prod.fst) (he : PE X e (tE fa W f)) (hg : PG X tg (gT X.K t)) (hs : swapsWithSole [tg] e pos.line X.env = pure false) (hw : swappedStores [tg] e X.env = pure none) (h1 : (assignEach [tg] X.env).map (·.2) = [assign tg X.env]) :
    PS X (.Assign [tg] e pos) (tF fa W fun ρ M => liftS ρ (f ρ M) fun d M1 => match bindT t d ρ with | some ρ1 => .ok (.nx ρ1) M1 | none => .bad) := by
  refine PS.weak (ps_asg he hg hs hw h1) fun En σ H h => ?_
  obtain ⟨res, β, ρ, M, o, M', S, R, e, P⟩ := h
  refine tE.useS S R e P fun d M1 v H1 β1 s1 S1 R1 r1 e P => ?_
  split at e
  · rename_i ρ1 hb
    cases e
    exact gT_use (t := t) hfx R1 r1 hb fun σ' R' _ => P σ' H1 β1 Step.refl S1 R'
  · cases e
/-! ### dict displays -/
/-- the values of a display, its keys written texts -/
structure PD (fa : FB) (W : WX) (X : Cx) (pos : Pos) (keys : List (Option Expr)) (values : List Expr) (ks : List Str) (g : Rho → MH → Rx (List D)) : Prop where
  ex : ∃ trs, PPs X pos keys values trs ∧ ∀ (σ : L2.St) (H : Hp) (Q : List (V × V) → Hp → Prop) (res β : List Addr) (ρ : Rho) (M : MH), Sim fa β res M H → RepS fa β res H ρ σ →
    PR fa W res β H σ (g ρ M) (fun ds M' => ∀ vs H' β', Step [] β H β' H' → Sim fa β' res M' H' → Reps fa β' res H' ds vs → Q ((ks.map V.str).zip vs) H') → tPairs trs σ H Q
theorem d_nil : PD fa W X pos [] [] [] (fun _ M => .ok [] M) := ⟨[], pps_nil, fun σ H Q res β ρ M S R P => P [] H β Step.refl S .nil⟩
theorem d_cons {k : Str} {n : Nat} {kp : Pos} {keys : List (Option Expr)} {values : List Expr} {ks : List Str} {g : Rho → MH → Rx (List D)} (ha : PE X a (tE fa W f1)) (hr : PD fa W X pos keys values ks g) :
    PD fa W X pos (some (.Constant (.str k) n kp) :: keys) (a :: values) (k :: ks) (fun ρ M => (f1 ρ M).bind fun d M1 => (g ρ M1).bind fun ds M2 => .ok (d :: ds) M2) := by
  obtain ⟨trs, h1, h2⟩ := hr.ex
  refine ⟨(tC (.str k), tE fa W f1) :: trs, pps_cons pe_str ha h1, fun σ H Q res β ρ M S R P => ?_⟩
  refine tE.use S R P fun u M1 v H1 β1 s1 S1 R1 r1 P => ?_
  refine h2 σ H1 _ res β1 ρ M1 S1 R1 (P.bind.imp fun us M2 _ P vs H2 β2 s2 S2 r2 => ?_)
  exact P (v :: vs) H2 β2 (s1.trans s2) S2 (.cons (r1.step s2 (by simp)) r2)
theorem zip_kv {res β : List Addr} {H : Hp} : ∀ {ks : List Str} {ds : List D} {vs : List V}, Reps fa β res H ds vs → RepKV fa β res H ((ks.map Sum.inr).zip ds) ((ks.map Sum.inr).zip vs)
  | [], _, _, _ => by simp; exact .nil
  | _ :: _, _, _, .nil => by simp; exact .nil
  | k :: ks, _, _, .cons r q => .cons r (zip_kv q)
/-- an exception of a part, the reserved object left out again -/
theorem PX.held {res β : List Addr} {H : Hp} {σ : L2.St} {p : Addr} {o : HO} {x : XV} {M' : MH} (h : PX fa W res β H σ x M') (hp : H p = none) (hpr : p ∉ res) (hpl : Pl o) : PX fa W (p :: res) β (upd H p o) σ x M' := by
  intro H' β' cls dd st s rx
  refine h H' β' cls dd (Step.ofHold st.more hp) s.unreserve ⟨rx.cls, ?_⟩
  obtain ⟨a, fs, e1, e2, e3, e4, e5⟩ := rx.at_
  exact ⟨a, fs, e1, e2, e3, fun q => e4 (List.mem_cons_of_mem _ q), e5.unres⟩
theorem r_dict {keys : List (Option Expr)} {values : List Expr} {ks : List Str} {g : Rho → MH → Rx (List D)} (h : PD fa W X pos keys values ks g) (hall : keys.all (·.isSome) = true) (hl : keys.length = values.length) (h0 : keys ≠ []) (h15 : keys.length ≤ 15) :
    PE X (.Dict keys values pos) (tE fa W fun ρ M => (g ρ M).bind fun ds M1 => if ks.length = ds.length ∧ ks.length ≤ 15 then .ok (.ref M1.length) (M1 ++ [.dict ((ks.zip ds).foldl (fun acc kv => putD acc (.inr kv.1) kv.2) [])]) else .bad) := by
  obtain ⟨trs, h1, h2⟩ := h.ex
  refine PE.weak (pe_disp h1 hall hl h0 h15) fun σ H Q h => ?_
  obtain ⟨res, β, ρ, M, S, R, h⟩ := h
  intro p hp
  have hpr : p ∉ res := fun q => S.rt p q hp
  have hpb : p ∉ β := S.fresh hp
  have pl : ∀ {kvs : List (Key × V)}, Pl (.dK kvs) := .inr ⟨_, rfl⟩
  refine h2 σ _ _ (p :: res) β ρ M (S.hold hp pl) (R.hold hp) ?_
  replace h := h.bind
  cases q : g ρ M with
  | bad => rw [q] at h; exact h.elim
  | exc x Mx => rw [q] at h; exact PX.held h hp hpr pl
  | ok ds M1 =>
    rw [q] at h
    replace h : PR fa W res β H σ (if ks.length = ds.length ∧ ks.length ≤ 15 then .ok (.ref M1.length) (M1 ++ [.dict ((ks.zip ds).foldl (fun acc kv => putD acc (.inr kv.1) kv.2) [])]) else .bad) fun d M' => Post fa res β H d M' Q := h
    intro vs H2 β2 s2 S2 r2
    have ep : H2 p = some (.dK []) := s2.keep p _ upd_same hpb (by simp) (fun _ z => nomatch z)
    split at h
    · rename_i hz
      have ez : (ks.map V.str).zip vs = ((ks.map (Sum.inr (α := Int))).zip vs).map (fun kv => (kV kv.1, kv.2)) := by
        rw [List.zip_map_left, List.zip_map_left, List.map_map]
        rfl
      refine ⟨ep, (ks.map Sum.inr).zip vs, ez, ?_, ?_⟩
      · rw [List.length_zip, List.length_map]
        omega
      · have sub : ∀ a ∈ [p], a ∈ p :: res := fun a h => by rw [List.mem_singleton.mp h]; simp
        have fold : (ks.zip ds).foldl (fun acc kv => putD acc (.inr kv.1) kv.2) [] = ((ks.map (Sum.inr (α := Int))).zip ds).foldl (fun acc kv => putD acc kv.1 kv.2) [] := by
          rw [List.zip_map_left, List.foldl_map]
          rfl
        have r3 : RepO fa β2 (p :: res) (upd H2 p (.dK (mergeK [] ((ks.map Sum.inr).zip vs)))) (.dict ((ks.zip ds).foldl (fun acc kv => putD acc (.inr kv.1) kv.2) [])) (.dK (mergeK [] ((ks.map Sum.inr).zip vs))) := by
          rw [fold]
          exact .dict ((merge_rep (zip_kv r2) .nil).step step_mv sub)
        obtain ⟨S3, hpb2⟩ := (S2.mvd (o := .dK (mergeK [] ((ks.map Sum.inr).zip vs))) (by simp) pl).adopt hpr upd_same r3
        refine h (.ref p) _ (β2 ++ [p]) ?_ S3 (.ref ?_)
        · exact Step.adopt (Step.ofHold ((s2.more).trans step_mv) hp) hp
        · rw [← S2.len, List.getElem?_append_right (Nat.le_refl _)]
          simp
    · exact h.elim
/-! ### exceptions -/
theorem s_raise {k : Nat} {ps : List Str} {C fI : Addr} {fd : FuncData} {es : List Expr} {g : Rho → MH → Rx (List D)} {p1 : Pos} (hcv : fa.cv k = .ref C) (hc : X.calm = true) (tk : Takes X W) (T : OexC X.K C) (F1 : FnOk X.prog X.w X.K X.mg X.base CX0 1 fI fd (("self" : Str) :: ps) (Mi.spInit C ps))
    (iC : PySem.W.findIn X.K (.ref C) "__init__" = some (some (.ref fI))) (tI : PySem.W.typeIn X.K (.ref fI) = some (.type "function")) (hr : Room 2 X.A) (hb : Binds X.K fd (("self" : Str) :: ps) []) (hps : ps.length ≤ 2) (hg : Gl X x) (hm : X.mg x = some (.ref C)) (ha : PA X (e :: es) (tL fa W g))
    (hdb : (x == ("__debug__" : Str)) = false) (he : starEach (e :: es) X.env = (false, eval e X.env) :: starEach es X.env) (hpl : (backTo pos (starEach es X.env)).any (·.1) = false) :
    PS X (.Raise (some (.Call (.Name x px) (e :: es) [] pos)) none p1) (tF fa W fun ρ M => liftS ρ (g ρ M) fun ds M1 => if ds.length = ps.length then .ok (.xc ⟨k, (ps.zip ds).reverse⟩ ρ) M1 else .bad) := by
  refine PS.weak (ps_raise hc tk (Mi.pmk_sup T F1 iC tI hr hb hps hg hm ha (fun σ H Q Q' i h => tL.mono h i) hdb he hpl)) fun En σ H h => ?_
  obtain ⟨res, β, ρ, M, o, M', S, R, e, P⟩ := h
  refine tL.useS S R e P fun ds M1 vs H1 β1 s1 S1 R1 r1 e P => ?_
  split at e
  · rename_i hl
    cases e
    refine ⟨by rw [← r1.length]; exact hl, fun d hd => ?_⟩
    have st := step_new (mv := []) (β := β1) (o := .xd (ps.zip vs).reverse) hd
    exact P σ _ β1 _ _ st (S1.new hd) (R1.step st (by simp)) ⟨hcv.symm, d, _, rfl, upd_same, S1.fresh hd, fun q => S1.rt d q hd, ((RepF.zip r1).reverse).step st (by simp)⟩
  · cases e
/-- what an exception class must say, so that isinstance asks its instances rightly -/
structure ExcK (K : PySem.W.Frag) (D : Addr) : Prop where
  cl : (PySem.W.clsIn K D).isSome = true
  xf : XfC K D
  ha : PySem.W.findIn K (.ref D) "__class__" = some (some (.builtin "object.__class__"))
  hn : PySem.W.specialIn K (.builtin "object.__class__") "__get__" = some (some (.builtin "getset_descriptor.__get__"))
  ht : PySem.W.takesIn K (.builtin "object.__class__") = some true
  hm : PySem.W.mroIn K D (.type "object") = some true
theorem inst_of {aE D : Addr} {oe : Obj} {d : Option Addr} {s : Shared} {pn pins : List (Addr × Obj)} {σ : L2.St} {H : Hp} (I : Inv (X.suite aE ((aE, oe) :: pn)) pins σ H s) (hz : Zc (.ref D) d oe) (hf : ∃ vs, oe.data = .fields vs) (hd : ∀ dd, d = some dd → ∃ fs, H dd = some (.xd fs)) : ∃ od, PySem.W.InstAt s.heap aE oe D od := by
  obtain ⟨hget, _⟩ := I.pin (aE, oe) (List.mem_append.mpr (.inl List.mem_cons_self))
  obtain ⟨vs, hv⟩ := hf
  cases d with
  | none =>
    refine ⟨none, ?_⟩
    obtain ⟨oc, od, oda, osl⟩ := oe
    obtain ⟨h1, h2⟩ := hz
    dsimp only at h1 h2 hv
    subst h1 h2 hv
    exact ⟨hget, rfl, rfl, trivial⟩
  | some dd =>
    obtain ⟨fs, hfs⟩ := hd dd rfl
    obtain ⟨mA, hns, hr⟩ := (I.hok dd _ hfs : ObjOk X.prog X.w H s.heap dd (.xd fs))
    obtain ⟨od, ho, hl⟩ := lookIn_ns hns
    exact ⟨some od, hget, hz.1, by unfold PySem.W.notCls; rw [hv] <;> rfl, by rw [hz.2]; exact ho⟩
/-- isinstance(e, c): e the exception that the suite holds -/
theorem call_isX {aE D : Addr} {oe : Obj} {d : Option Addr} {pn : List (Addr × Obj)} (C : ExcK X.K D) (hz : Zc (.ref D) d oe) (hf : ∃ vs, oe.data = .fields vs) : CallR (X.suite aE ((aE, oe) :: pn)) (.builtin "isinstance") (fun xs H Q => (∀ dd, d = some dd → ∃ fs, H dd = some (.xd fs)) ∧ ∃ (c : V) (cv : Value) (b : Bool), xs = [.ref aE, c] ∧ (∀ u, RelV c u → u = cv) ∧ PySem.W.kitOne X.K (.ref D) cv = some b ∧ Q (.bl b) H) := by
  intro pins s σ H xs us Q I r h
  obtain ⟨hdd, c, cv, b, rfl, hcv, e, q⟩ := h
  cases r with
  | cons rx rr =>
    cases rr with
    | cons rt rr =>
      cases rr
      cases rx
      have ec := hcv _ rt
      subst ec
      obtain ⟨od, J⟩ := inst_of I hz hf hdd
      exact PySem.W.kia_one (PySem.W.kitx_exc C.cl C.xf.ga C.xf.gg C.xf.exC C.ha C.hn C.ht C.hm) I.kIn J e (fun z => nomatch z) fun tk => ⟨.bl b, H, I.kept (t' := tk) fun _ _ z => z, rfl, q⟩
inductive AreC : List V → List Value → Prop where
  | nil : AreC [] []
  | cons {c : V} {cv : Value} {cs : List V} {cvs : List Value} : (∀ u, RelV c u → u = cv) → AreC cs cvs → AreC (c :: cs) (cv :: cvs)
theorem vals_are : ∀ {cs : List V} {cvs us : List Value}, Vals cs us → AreC cs cvs → us = cvs
  | _, _, _, .nil, .nil => rfl
  | _, _, _, .cons r rr, .cons h hh => by rw [h _ r, vals_are rr hh]
theorem call_isXT {aE D : Addr} {oe : Obj} {d : Option Addr} {pn : List (Addr × Obj)} (C : ExcK X.K D) (hz : Zc (.ref D) d oe) (hf : ∃ vs, oe.data = .fields vs) : CallR (X.suite aE ((aE, oe) :: pn)) (.builtin "isinstance") (fun xs H Q => (∀ dd, d = some dd → ∃ fs, H dd = some (.xd fs)) ∧ ∃ (t : Addr) (cs : List V) (cvs : List Value) (b : Bool), xs = [.ref aE, .ref t] ∧ H t = some (.tup cs) ∧ AreC cs cvs ∧ PySem.W.kitAny X.K (.ref D) cvs = some b ∧ Q (.bl b) H) := by
  intro pins s σ H xs us Q I r h
  obtain ⟨hdd, t, cs, cvs, b, rfl, ht, hcv, e, q⟩ := h
  cases r with
  | cons rx rr =>
    cases rr with
    | cons rt rr =>
      cases rr
      cases rx
      cases rt
      obtain ⟨od, J⟩ := inst_of I hz hf hdd
      obtain ⟨z, its, rv, htp⟩ := (I.hok t _ ht : ObjOk X.prog X.w H s.heap t (.tup cs))
      obtain ⟨⟨ocl, odd, oda, osl⟩, ho, hc, n, hdat⟩ := htp
      dsimp only at hc hdat
      subst hc hdat
      have := vals_are rv hcv
      subst this
      exact PySem.W.kia_tup (PySem.W.kitx_exc C.cl C.xf.ga C.xf.gg C.xf.exC C.ha C.hn C.ht C.hm) I.kIn J ho e (fun z => nomatch z) fun tk => ⟨.bl b, H, I.kept (t' := tk) fun _ _ z => z, rfl, q⟩
end
end Mj
/-! Mj13: the small syntax against the text's own. -/
namespace Mj
open PySem PySem.Spec PyProof.Rows L2

/-- what a text's globals are: the defs by number, keyword lists, constants, built-in names, classes by number and the attributes of those that are raised, the names of what asks -/
structure Cfg where
  fnm : List Str
  kws : Nat → List (List Str × List Nat)
  gl : List (Str × D)
  bis : List Str
  cls : List Str
  xps : Nat → Option (List Str)
  askf : Nat → Option Str
  fld : List Str
  nown : Nat
/-- where an expression stands: 0 in a def, 1 in a def that asks, 2 in an except suite (en: the exception's name), 3 in a lambda or a comprehension -/
structure Md where
  n : Nat
  en : Option Str
  an : Option Str
def sameD : D → D → Bool
  | .int i, .int j => i == j
  | .str x, .str y => x == y
  | .fn i, .fn j => i == j
  | .ty a, .ty b => a == b
  | _, _ => false
theorem sameD_eq {a b : D} (h : sameD a b = true) : a = b := by
  unfold sameD at h
  split at h
  · rw [eq_of_beq h]
  · rw [eq_of_beq h]
  · rw [eq_of_beq h]
  · rw [eq_of_beq h]
  · cases h
def visB (sc : Scope) (x : Str) : Bool := match sc.names.lookup x with
  | some .local => true
  | some .cell => true
  | some .free => true
  | _ => false
def glB (sc : Scope) (x : Str) : Bool := match sc.names.lookup x with
  | some .globalImplicit => true
  | _ => false
def locB (sc : Scope) (x : Str) : Bool := match sc.names.lookup x with
  | some .local => true
  | some .cell => true
  | _ => false
theorem glB_is {sc : Scope} {x : Str} (h : glB sc x = true) : sc.names.lookup x = some .globalImplicit := by
  unfold glB at h
  split at h
  · assumption
  · cases h
def okName (x : Str) : Bool := !(x == ("__debug__" : Str)) && !(x == ("__classdict__" : Str))
theorem okName_d {x : Str} (h : okName x = true) : (x == ("__debug__" : Str)) = false ∧ (x == ("__classdict__" : Str)) = false := by
  unfold okName at h
  obtain ⟨a, b⟩ := Bool.and_eq_true_iff.mp h
  exact ⟨by simpa using a, by simpa using b⟩
def constM : Const → D → Bool
  | .none, .non => true
  | .bool b, .bl c => b == c
  | .int i, .int j => i == j
  | .str x, .str y => x == y
  | _, _ => false
def notSlice : Expr → Bool
  | .Slice .. => false
  | _ => true
theorem plainIx_of {e : Expr} (h : notSlice e = true) : PlainIx e := by
  intro o i
  cases e <;> first | rfl | cases h
def notSet : Expr → Bool
  | .Set .. => false
  | _ => true
theorem noFold {e : Expr} {env : Env} (h : notSet e = true) : ∀ x, foldedSetIterable e env x = pure x := by
  intro x
  cases e <;> first | rfl | cases h
def notSuper : Expr → Bool
  | .Call (.Name _ _) [] [] _ => false
  | _ => true
theorem base_of {e : Expr} {x : Str} {env : Env} {whole : Sem Value} (h : notSuper e = true) : attributeBase e x env whole = whole := by
  unfold attributeBase
  split
  · cases h
  · rfl
def plainT : Expr → Bool
  | .Starred .. => false
  | _ => true
def notComp : Expr → Bool
  | .ListComp .. => false
  | .SetComp .. => false
  | .DictComp .. => false
  | _ => true
theorem swaps_of {e : Expr} {t : Option Expr} {l : Nat} {env : Env} (h : notComp e = true) : swapsWith e t l env = pure false := by
  cases e <;> first | rfl | cases h
mutual
def mTg (N : List Str) (sc : Scope) : Tg → Expr → Bool
  | .name i, e => match e with
    | .Name x _ => decide (N[i]? = some x) && locB sc x
    | _ => false
  | .tup ts, e => match e with
    | .Tuple es _ _ => mTgs N sc ts es
    | _ => false
def mTgs (N : List Str) (sc : Scope) : Tgs → List Expr → Bool
  | .nil, es => es.isEmpty
  | .cons t r, es => match es with
    | e :: es => mTg N sc t e && plainT e && mTgs N sc r es
    | [] => false
end
def isTup : Expr → Bool
  | .Tuple .. => true
  | _ => false
def ownOf (N : List Str) (t : Tg) : List (Str × Nat) := t.own.map fun i => (N.getD i "", i)
theorem ownOf_snd (N : List Str) (t : Tg) : (ownOf N t).map (·.2) = t.own := by
  unfold ownOf
  rw [List.map_map]
  exact List.map_id _
def emptyA : Arguments → Bool
  | ⟨[], [], none, [], [], none, []⟩ => true
  | _ => false
def kwNames : List Keyword → Option (List Str)
  | [] => some []
  | ⟨some y, _, _⟩ :: r => (kwNames r).map (y :: ·)
  | _ => none
/-- a class by its name -/
def mCn (g : Cfg) (sc : Scope) (c : Nat) : Expr → Bool
  | .Name x _ => decide (g.cls[c]? = some x) && glB sc x && okName x
  | _ => false
def mCns (g : Cfg) (sc : Scope) : List Nat → List Expr → Bool
  | [], es => es.isEmpty
  | c :: cs, es => match es with
    | e :: es => mCn g sc c e && mCns g sc cs es
    | [] => false
/-- a class, or a tuple of classes -/
def mC (g : Cfg) (sc : Scope) (t : Bool) (cs : List Nat) (e : Expr) : Bool := match t, cs with
  | false, [c] => mCn g sc c e
  | true, cs => (match e with
    | .Tuple es _ _ => decide (cs.length ≤ 15) && mCns g sc cs es
    | _ => false)
  | _, _ => false
section
variable (g : Cfg) (N : List Str)
mutual
def mE (m : Md) : Scope → C → Expr → Bool
  | sc, .var i, e => match e with
    | .Name x _ => decide (N[i]? = some x) && visB sc x && okName x
    | _ => false
  | _, .const d, e => match e with
    | .Constant c _ _ => constM c d
    | _ => false
  | sc, .glob x d, e => match e with
    | .Name y _ => (y == x) && glB sc x && okName x && g.gl.any (fun p => p.1 == x && sameD p.2 d)
    | _ => false
  | sc, .bin _ o a b, e => match e with
    | .BinOp x o' y _ => decide (o = o') && mE m sc a x && mE m sc b y
    | _ => false
  | sc, .neg a, e => match e with
    | .UnaryOp .USub x _ => mE m sc a x
    | _ => false
  | sc, .not a, e => match e with
    | .UnaryOp .Not x _ => mE m sc a x
    | _ => false
  | sc, .and as, e => match e with
    | .BoolOp .And xs _ => mEs m sc as xs
    | _ => false
  | sc, .or as, e => match e with
    | .BoolOp .Or xs _ => mEs m sc as xs
    | _ => false
  | sc, .cmp o a b, e => match e with
    | .Compare x [o'] [y] _ => decide (o = o') && mE m sc a x && mE m sc b y && !behindInMarks o y
    | _ => false
  | sc, .chain o o' a b c, e => match e with
    | .Compare x [p, p'] [y, z] _ => decide (o = p) && decide (o' = p') && mE m sc a x && mE m sc b y && mE m sc c z && !lastMarks [o, o'] [y, z]
    | _ => false
  | sc, .ife c a b, e => match e with
    | .IfExp z x y _ => mE m sc c z && mE m sc a x && mE m sc b y
    | _ => false
  | sc, .tup es, e => match e with
    | .Tuple xs _ _ => mEs m sc es xs
    | _ => false
  | sc, .lst _ es, e => match e with
    | .List xs _ => mEs m sc es xs
    | _ => false
  | sc, .dict ks vs, e => match e with
    | .Dict keys values _ => mD m sc ks vs keys values && !keys.isEmpty && decide (keys.length ≤ 15)
    | _ => false
  | sc, .idx a i, e => match e with
    | .Subscript x y _ => mE m sc a x && mE m sc i y && notSlice y
    | _ => false
  | sc, .slice _ a lo hi, e => match e with
    | .Subscript x (.Slice l h none _) _ => mE m sc a x && mO m sc lo l && mO m sc hi h
    | _ => false
  | sc, .revT a, e => match e with
    | .Subscript x (.Slice none none (some (.UnaryOp .USub (.Constant (.int i) _ _) _)) _) _ => mE m sc a x && i == 1
    | _ => false
  | sc, .stepL _ a lo n, e => match e with
    | .Subscript x (.Slice (some l) none (some (.Constant (.int i) _ _)) _) _ => mE m sc a x && mE m sc lo l && i == (n : Int) && n != 0
    | _ => false
  | sc, .call k as, e => match e with
    | .Call (.Name x _) xs [] _ => decide (m.n ≠ 2) && decide (g.fnm[k]? = some x) && glB sc x && okName x && mEs m sc as xs
    | _ => false
  | sc, .callV i as, e => match e with
    | .Call (.Name x _) xs [] _ => decide (m.n ≠ 2) && decide (N[i]? = some x) && visB sc x && okName x && mEs m sc as xs && !xs.isEmpty
    | _ => false
  | sc, .callW k ks perm as, e => match e with
    | .Call (.Name x _) [] kwl _ => decide (m.n ≠ 2) && decide (g.fnm[k]? = some x) && glB sc x && okName x && !kwl.isEmpty && decide (kwNames kwl = some ks) && (g.kws k).any (fun q => decide (q = (ks, perm))) && mKs m sc as kwl
    | _ => false
  | sc, .bi _ f as, e => match e with
    | .Call (.Name x _) xs [] _ => (x == Str.ofString f) && (biHot.contains f || (biCalm.contains f && decide (m.n ≠ 2))) && g.bis.contains x && glB sc x && mEs m sc as xs && !xs.isEmpty
    | _ => false
  | sc, .meth f o as, e => match e with
    | .Call (.Attribute y x ap) xs [] cp => (x == Str.ofString f) && mE m sc o y && notSuper y && (ap.endLine == cp.line) && mEs m sc as xs && (if xs.isEmpty = true then (f == "upper" || f == "pop") else if f = "get" then decide (xs.length ≤ 2) else (["append", "extend", "pop", "index"] : List String).contains f && decide (xs.length < 29))
    | _ => false
  | sc, .comp _ elt tg it ifs, e => match e with
    | .ListComp el [⟨t, iter, is, a⟩] scope _ => (decide (m.n = 0) || decide (m.n = 3)) && a == 0 && mTg N scope tg t && mI m sc it t iter && mIf ⟨3, none, none⟩ scope ifs is && mE ⟨3, none, none⟩ scope elt el && blkC N sc scope (ownOf N tg) && notSet iter
    | _ => false
  | sc, .lamcall k body, e => match e with
    | .Call (.Name x _) [.Lambda params b scope _] [] _ => decide (m.n = 0) && decide (g.fnm[k]? = some x) && glB sc x && okName x && (g.askf k).isSome && emptyA params && LamX.lamSB sc scope && mE ⟨3, none, none⟩ scope body b
    | _ => false
  | sc, .listZip _ a b, e => match e with
    | .Call (.Name x _) [.Call (.Name y _) [u, v] [] _] [] _ => (x == ("list" : Str)) && (y == ("zip" : Str)) && decide (m.n ≠ 2) && g.bis.contains "list" && g.bis.contains "zip" && glB sc "list" && glB sc "zip" && plainE u && plainE v && mE m sc a u && mE m sc b v
    | _ => false
  | sc, .ask, e => match e with
    | .Call (.Name x _) [] [] _ => decide (m.n = 1) && decide (m.an = some x)
    | _ => false
  | sc, .isE t cs, e => match e with
    | .Call (.Name x _) [.Name y _, u] [] _ => (x == ("isinstance" : Str)) && g.bis.contains "isinstance" && glB sc "isinstance" && decide (m.en = some y) && okName y && mC g sc t cs u
    | _ => false
  | sc, .fldE f, e => match e with
    | .Attribute (.Name y _) x _ => (x == f) && decide (m.en = some y) && okName y && g.fld.contains f
    | _ => false
def mEs (m : Md) : Scope → Cs → List Expr → Bool
  | _, .nil, es => es.isEmpty
  | sc, .cons c r, es => match es with
    | e :: es => plainE e && mE m sc c e && mEs m sc r es
    | [] => false
def mO (m : Md) : Scope → Co → Option Expr → Bool
  | _, .none, e => e.isNone
  | sc, .some c, e => match e with
    | some e => mE m sc c e
    | none => false
def mIf (m : Md) : Scope → Co → List Expr → Bool
  | _, .none, es => es.isEmpty
  | sc, .some c, es => match es with
    | [e] => mE m sc c e
    | _ => false
def mI (m : Md) : Scope → It → Expr → Expr → Bool
  | sc, .seq c, _, e => mE m sc c e
  | sc, .rng1 a, _, e => match e with
    | .Call (.Name x _) [y] [] _ => (x == ("range" : Str)) && glB sc "range" && g.bis.contains "range" && plainE y && mE m sc a y
    | _ => false
  | sc, .rng2 a b, _, e => match e with
    | .Call (.Name x _) [y, z] [] _ => (x == ("range" : Str)) && glB sc "range" && g.bis.contains "range" && plainE y && plainE z && mE m sc a y && mE m sc b z
    | _ => false
  | sc, .zip a b, t, e => match e with
    | .Call (.Name x _) [y, z] [] _ => (x == ("zip" : Str)) && glB sc "zip" && g.bis.contains "zip" && plainE y && plainE z && mE m sc a y && mE m sc b z && isTup t
    | _ => false
  | sc, .enum a, t, e => match e with
    | .Call (.Name x _) [y] [] _ => (x == ("enumerate" : Str)) && glB sc "enumerate" && g.bis.contains "enumerate" && plainE y && mE m sc a y && isTup t
    | _ => false
def mD (m : Md) : Scope → List Str → Cs → List (Option Expr) → List Expr → Bool
  | _, ks, .nil, keys, values => ks.isEmpty && keys.isEmpty && values.isEmpty
  | sc, ks, .cons c r, keys, values => match ks, keys, values with
    | k :: ks, some (.Constant (.str k') _ _) :: keys, v :: values => (k == k') && mE m sc c v && mD m sc ks r keys values
    | _, _, _ => false
/-- keyword arguments -/
def mKs (m : Md) : Scope → Cs → List Keyword → Bool
  | _, .nil, ks => ks.isEmpty
  | sc, .cons c r, ks => match ks with
    | ⟨some _, e, _⟩ :: ks => mE m sc c e && mKs m sc r ks
    | _ => false
end
end
end Mj
/-! Ml1: a lambda handed to a def that calls it; the wish of exceptions may look at the caller's slots. -/
namespace Mj
open PySem PySem.Spec PyProof.Rows L2 LamX

section
variable {X : Cx} {pins : List (Addr × Obj)} {σ : L2.St} {H : Hp} {s : Shared}
/-- what the making of a lambda leaves: nothing new, or a table one longer and a code object -/
inductive Made (P : Addr) (q : Str) (H : Hp) : Hp → Prop where
  | same : Made P q H H
  | more {ps ps' : Array Value} {c' : Addr} : H P = some (.tbl ps) → H c' = none → Made P q H (upd (upd H P (.tbl ps')) c' (CodeO c' q))
theorem Made.step {P : Addr} {q : Str} {H1 : Hp} {β : List Addr} (m : Made P q H H1) : Step [] β H β H1 := by
  cases m with
  | same => exact Step.refl
  | @more ps ps' c' hP hc =>
    refine ⟨⟨[], by simp, fun _ z => by cases z⟩, fun a o e _ _ nt => ?_, fun a h => ?_⟩
    · rw [upd_ne (ne_of_none e hc), upd_ne (fun z => nt ps (by rw [z, hP] at e; exact (Option.some.inj e).symm))]
      exact e
    · by_cases z : a = c'
      · rw [z, upd_same]; simp
      · rw [upd_ne z]
        by_cases y : a = P
        · rw [y, upd_same]; simp
        · rw [upd_ne y]; exact h
theorem Made.ext {P : Addr} {q : Str} {H1 : Hp} (m : Made P q H H1) : ∀ b o, H b = some o → NoTbl o → H1 b = some o := fun b o e nt => (m.step (β := [])).keep b o e (by simp) (by simp) nt
theorem made_lambda {T : List (Addr × Str)} {c P : Addr} {params : Arguments} {body : Expr} {scope : Scope} {pos : Pos} {Ex : Value → Shared → Prop} {Q : Value → Shared → Prop} (I : Inv X pins σ H s) (tb : TabB X.base X.mg c P) (co : X.env.code = .ref c)
    (inT : (P, X.env.qual ++ "<lambda>") ∈ T) (one : ∀ p ∈ T, p.1 = P → p.2 = X.env.qual ++ "<lambda>") (tabs : Tabs T H) (dfl : defaultsOf params X.env = ([], [])) (fr : ∀ y ∈ scope.names, y.2 = .free → ∃ c, X.env.cells.lookup y.1 = some c)
    (h : ∀ (f c' : Addr) (pm ctv : Value) (H1 : Hp) (s' : Shared), Inv X pins σ H1 s' → Made P (X.env.qual ++ "<lambda>") H H1 → Tabs T H1 →
      s'.heap.get? f = some (PySem.W.kla_obj "<lambda>" (X.env.qual ++ "<lambda>") params body scope (cloFrom X.env.cells scope.names []) pm c' ctv) ∧ H1 f = none ∧ f ∉ frs X.stack ∧ H1 c' = some (CodeO c' (X.env.qual ++ "<lambda>")) → Q (.ref f) s') :
    wpAny (model X.prog X.w) X.A (eval (.Lambda params body scope pos) X.env) Q Ex s := by
  obtain ⟨ps, tP, tri, known⟩ := tabs _ inT
  refine PySem.W.kla_eval dfl ?_
  have bl : s.heap.BuiltinsAt X.mg P := tb.bm.keeps I.bk
  have objP : s.heap.get? P = some { cls := .none, data := .fields ps } := I.hok P _ tP
  have noFrame : ∀ f, s.heap.objs.size ≤ f → f ∉ frs X.stack := by
    intro f hf z
    rcases List.mem_cons.mp (I.stkSub _ z) with e | e
    · exact absurd (e ▸ I.lt) (Nat.not_lt.mpr hf)
    · exact I.nofs hf e
  cases look : codeAmong pos ps.toList with
  | none =>
    refine PySem.W.kla_makeFunction (mg := X.mg) (c := c) (P := P) (ps := ps) (closure_ok fr) I.ok.glob (I.mod.glob.keeps I.bk) co (tb.code.keeps I.bk) objP tri look tb.gP bl fun c' ctv h' tk kept ge lt rec' tab' => ?_
    obtain ⟨c2, oc, vs, t, e2, hoc, hd, hv⟩ := rec'
    cases e2
    have sz : s.heap.objs.size ≤ h'.objs.size := Nat.le_trans ge (Nat.le_of_lt lt)
    have cNone : H c' = none := I.hok.fresh ge
    have I1 := inv_table (t' := tk) (more := #[rawInt pos.line, rawInt pos.col, .ref c']) (h' := h'.push (PySem.W.kla_obj "<lambda>" (X.env.qual ++ "<lambda>") params body scope (cloFrom X.env.cells scope.names []) ((X.mg "__name__").getD .none) c' ctv)) I tP (fun b o hb e => Heap.get?_push_of_some _ (kept b o hb e)) (Heap.get?_push_of_some _ tab') ge ⟨oc, vs, t, Heap.get?_push_of_some _ hoc, hd, hv⟩
    have M1 : Made P (X.env.qual ++ "<lambda>") H (upd (upd H P (.tbl (ps ++ #[rawInt pos.line, rawInt pos.col, .ref c']))) c' (CodeO c' (X.env.qual ++ "<lambda>"))) := .more tP cNone
    have lst : (ps ++ #[rawInt pos.line, rawInt pos.col, .ref c']).toList = ps.toList ++ [rawInt pos.line, rawInt pos.col, .ref c'] := by simp
    refine h h'.objs.size c' _ ctv _ _ I1 M1 (fun p hp => ?_) ⟨Heap.get?_push_size _ rfl, ?_, noFrame _ sz, upd_same⟩
    · by_cases at_ : p.1 = P
      · rw [one p hp at_, at_]
        refine ⟨_, (upd_ne (ne_of_none tP cNone)).trans upd_same, by rw [lst]; exact PySem.TriplesOk_snoc _ _ _ _ tri, fun p' cv hcv => ?_⟩
        rw [lst] at hcv
        rcases among_app _ tri hcv with z | z
        · obtain ⟨c0, e1, e2⟩ := known p' cv z
          exact ⟨c0, e1, M1.ext _ _ e2 fun ps z => codeO_ne ps z⟩
        · exact ⟨c', z, upd_same⟩
      · obtain ⟨qs, a1, a2, a3⟩ := tabs p hp
        refine ⟨qs, by rw [upd_ne (ne_of_none a1 cNone), upd_ne at_, a1], a2, fun p' cv hcv => ?_⟩
        obtain ⟨c0, e1, e2⟩ := a3 p' cv hcv
        exact ⟨c0, e1, M1.ext _ _ e2 fun ps z => codeO_ne ps z⟩
    · rw [upd_ne (Nat.ne_of_gt lt), upd_ne (Nat.ne_of_gt (Nat.lt_of_lt_of_le (Heap.lt_size objP) sz))]
      exact I.hok.fresh sz
  | some cv =>
    obtain ⟨c', e, isCode⟩ := known pos cv look
    subst e
    refine PySem.W.kla_makeFunctionHit (mg := X.mg) (c := c) (P := P) (ps := ps) (closure_ok fr) I.ok.glob (I.mod.glob.keeps I.bk) co (tb.code.keeps I.bk) objP tri look bl fun ctv h' tk kept sz => ?_
    have I1 : Inv X pins σ H { s with heap := h'.push (PySem.W.kla_obj "<lambda>" (X.env.qual ++ "<lambda>") params body scope (cloFrom X.env.cells scope.names []) ((X.mg "__name__").getD .none) c' ctv), toks := tk } := I.kept fun b o e => Heap.get?_push_of_some _ (kept b o e)
    exact h h'.objs.size c' _ ctv H _ I1 .same tabs ⟨Heap.get?_push_size _ rfl, I.hok.fresh sz, noFrame _ sz, isCode⟩
/-- the call of the lambda, in the def that got it -/
theorem pe_actW {CXg : CXT} {Eg : XK} {Ng : List Str} {qg : Str} {sg : Scope} {g f c' : Addr} {cdg pm ctv : Value} {params : Arguments} {body : Expr} {scope : Scope} {k i : Nat} {a : Str} {pn : List (Addr × Obj)} {xe : Value → Shared → Prop} {W : WX} {tb : XK → TE} {p1 p2 : Pos}
    (I : Inv X pins σ H s) (L : LamS X.env.scope scope) (obj : s.heap.get? f = some (PySem.W.kla_obj "<lambda>" (X.env.qual ++ "<lambda>") params body scope (cloFrom X.env.cells scope.names []) pm c' ctv)) (fNone : H f = none) (fFrame : f ∉ frs X.stack)
    (binds : bindArgs (PySem.W.kla_fn "<lambda>" (X.env.qual ++ "<lambda>") params body scope (cloFrom X.env.cells scope.names []) pm (.ref c') ctv) ⟨[], []⟩ = pure [])
    (tk : Takes ((cxOf CXg X.prog X.w X.K X.mg X.base Ng qg sg g cdg X.A X.stack s H Eg).tr pn xe) W) (room : Room (k + 1) (X.A.deeper (envOfC qg sg s.heap.objs.size g cdg)))
    (hbody : ∀ (E : XK) (A : Around) (outer : List Env) (s : Shared) (H : Hp), A.guards = X.A.guards → Room k (A.deeper (lamEnv X scope s.heap.objs.size f c')) → PE (lamCx X A outer s H E scope f c') body (tb E))
    (hN : Ng[i]? = some a) (hv : Vis sg a) (hd : (a == ("__debug__" : Str)) = false) (hcd : (a == ("__classdict__" : Str)) = false) :
    PE ((cxOf CXg X.prog X.w X.K X.mg X.base Ng qg sg g cdg X.A X.stack s H Eg).tr pn xe) (.Call (.Name a p1) [] [] p2)
      (fun σZ HZ Q => σZ[i]? = some (some (.ref f)) ∧ HZ c' = some (CodeO c' (X.env.qual ++ "<lambda>")) ∧ tb (fun cls d H' => W cls d σZ H') σ HZ Q) := by
  refine ⟨fun pinsZ sZ σZ HZ Q IZ h => ?_⟩
  obtain ⟨slot, isCode, rd⟩ := h
  refine wpAny_Call_Name_kw (thn ((pe_var (pos := p1) (i := i) hN hv hd hcd).run pinsZ sZ σZ HZ (fun v H1 => v = .ref f ∧ H1 = HZ) IZ ⟨.ref f, slot, rfl, rfl⟩) fun u s1 ⟨v, H1, I1, r1, ev, eH⟩ => ?_)
  subst ev
  rw [eH] at I1
  obtain rfl : u = Value.ref f := r1
  have obj1 := I1.base.keep f _ obj fNone fFrame (fun z => nomatch (show f ∈ ([] : List Addr) from z))
  refine PySem.W.callWith_F0 ⟨_, _, _, _, obj1⟩ ?_
  have un : Un (frs X.stack) [] H HZ s.heap s1.heap := I1.base
  obtain ⟨⟨oc, vs, t, hoc, hdc, hvc⟩, _, _⟩ := I1.hok c' _ isCode
  have run : codeAny (model X.prog X.w) (X.A.deeper (envOfC qg sg s.heap.objs.size g cdg)) (.call (.ref f) ⟨[], []⟩) (CR (L2.CX X.prog X.w) (envOfC qg sg s.heap.objs.size g cdg :: X.stack) X.prog X.w HZ s1 Q fun cls d H' => W cls d σZ H') s1 := by
    refine PySem.W.kla_callFunE room.depth obj1 rfl L.co L.gen rfl ⟨c', oc, vs, t, rfl, hoc, hdc, hvc⟩ ?_
    rw [binds]
    refine wpAny_pure (wpAny_newFunctionEnv (fun y hy => (L.own y hy).2) (fun y hy => absurd hy (by simp)) (fun h₁ hns hsb => ⟨I1.nolimit.fresh _ hsb, ?_⟩) L.kind)
    show codeAny _ _ (.expr body (lamEnv X scope s1.heap.objs.size f c')) _ _
    have kp : ∀ b o, s1.heap.get? b = some o → h₁.get? b = some o := fun b o e => hsb.extBut b o (Nat.ne_of_lt (Heap.lt_size e)) (Heap.get?_push_of_some _ e)
    have J := lam_start2 (E := fun cls d H' => W cls d σZ H') (f := f) (c' := c') (tk := s1.toks + ([] : List (Str × Value)).length) I L I1.env0 room.hd un hns kp
    refine PySem.W.kla_codeExpr (wpAny_mono ((hbody _ (X.A.deeper (envOfC qg sg s.heap.objs.size g cdg)) _ s1 HZ rfl (room.deeper _)).run [] _ _ HZ Q J rd) (fun v s' hq => ?_) fun e s' hq => hq)
    obtain ⟨w', H', J', rv, q⟩ := hq
    exact ⟨w', H', J'.os, J'.bare, J'.base, J'.hok, rv, q⟩
  refine wpAny_call (codeAny_mono run fun r s' hq => ?_)
  cases r with
  | error e => exact tk e s' (XE.of_call I1 (fun cls d H' z => z) hq)
  | ok fl =>
    cases fl with
    | ret u => exact I1.after hq
    | next => exact False.elim hq
    | brk => exact False.elim hq
    | cont => exact False.elim hq
end
/-- a def that calls what it got: TT is what it makes of the lambda's reading -/
def Gives (X : Cx) (Ng : List Str) (x : Str) (sg : Scope) (g : Addr) (cdg : Value) (bg : List Stmt) (a q : Str) (k : Nat) (TT : (XK → Hp → VK → Prop) → Hp → VK → Prop) : Prop :=
  ∀ (f c' : Addr) (s : Shared) (H : Hp) (Q : VK) (tl : XK → Hp → VK → Prop), Room k (X.A.deeper (envOfC x sg s.heap.objs.size g cdg)) →
    (∀ (W : WX) (pn : List (Addr × Obj)) (xe : Value → Shared → Prop) (p1 p2 : Pos), Takes ((cxOf CX0 X.prog X.w X.K X.mg X.base Ng x sg g cdg X.A X.stack s H E0).tr pn xe) W →
      PE ((cxOf CX0 X.prog X.w X.K X.mg X.base Ng x sg g cdg X.A X.stack s H E0).tr pn xe) (.Call (.Name a p1) [] [] p2) (fun σZ HZ Q' => σZ[0]? = some (some (.ref f)) ∧ HZ c' = some (CodeO c' q) ∧ tl (fun cls d H' => W cls d σZ H') HZ Q')) →
    H c' = some (CodeO c' q) → TT tl H Q → ∃ t, PSs (cxOf CX0 X.prog X.w X.K X.mg X.base Ng x sg g cdg X.A X.stack s H E0).nox bg t ∧ t { nx := fun _ H' => Q .non H', rt := Q } (L2.start Ng [.ref f]) H
/-- x(lambda: body) -/
theorem pe_lam {X : Cx} {T : List (Addr × Str)} {TT : (XK → Hp → VK → Prop) → Hp → VK → Prop} {x a : Str} {g c P : Addr} {k : Nat} {pg : Arguments} {bg : List Stmt} {sg : Scope} {dV kV doc pm cdv ct oc : Value} {an od : Option Addr} {osl : Array (Option Value)} {Ng : List Str}
    {params : Arguments} {body : Expr} {scope : Scope} {t : XK → TE} {p lpos pos : Pos} (hg : Gl X x) (hm : X.mg x = some (.ref g)) (hk : PySem.W.keepIn X.K (.ref g) = true)
    (lk : X.K.lookup g = some ⟨oc, od, .func (PySem.W.fnOf x x pg bg sg dV kV doc pm an cdv ct), osl⟩) (hcg : PySem.W.codeIn X.K cdv x = true) (hb : L2.Binds X.K (PySem.W.fnOf x x pg bg sg dV kV doc pm an cdv ct) [a] []) (Sg : FnScope Ng [a] sg) (hNg : Ng[0]? = some a) (hva : Vis sg a)
    (gv : Gives X Ng x sg g cdv bg a (X.env.qual ++ "<lambda>") (k + 1) TT) (tb : TabB X.base X.mg c P) (co : X.env.code = .ref c) (inT : (P, X.env.qual ++ "<lambda>") ∈ T) (one : ∀ p ∈ T, p.1 = P → p.2 = X.env.qual ++ "<lambda>") (hr : Room (k + 2) X.A) (L : LamS X.env.scope scope)
    (dfl : defaultsOf params X.env = ([], [])) (binds : ∀ (q : Str) (cl : List (Str × Addr)) (pm cv ctv : Value), bindArgs (PySem.W.kla_fn "<lambda>" q params body scope cl pm cv ctv) ⟨[], []⟩ = pure [])
    (hbody : ∀ (E : XK) (A : Around) (outer : List Env) (s : Shared) (H : Hp) (f c' : Addr), A.guards = X.A.guards → Room k (A.deeper (lamEnv X scope s.heap.objs.size f c')) → PE (lamCx X A outer s H E scope f c') body (t E))
    (hdb : (x == ("__debug__" : Str)) = false) (hd : (a == ("__debug__" : Str)) = false) (hcd : (a == ("__classdict__" : Str)) = false) :
    PE X (.Call (.Name x p) [.Lambda params body scope lpos] [] pos) (fun σ H Q => Tabs T H ∧ ∀ H1, Made P (X.env.qual ++ "<lambda>") H H1 → Tabs T H1 → TT (fun E H' Q' => t E σ H' Q') H1 Q) := by
  refine ⟨fun pins s σ H Q I h => ?_⟩
  obtain ⟨tabs, h⟩ := h
  refine wpAny_Call_Name_kw (ld_glob I hg hm ?_ hdb)
  refine PySem.W.callWith_K (h₀ := X.base) I.ok.mod.kin hk ?_ (by rfl) (by rfl)
  show wpAny _ _ (spliced ((false, eval (.Lambda params body scope lpos) X.env) :: backTo pos (starEach [] X.env))) _ _ s
  refine Calls.spliced_cons (made_lambda I tb co inT one tabs dfl (L.has I.ok) fun f c' pm' ctv H1 s' I1 mk T1 ⟨o1, o2, o3, o4⟩ => Calls.spliced_nil ⟨I1.kIn, ?_⟩)
  have run : codeAny (model X.prog X.w) X.A (.call (.ref g) ⟨[.ref f], []⟩) (CR CX0 X.stack X.prog X.w H1 s' Q E0) s' := by
    refine run_ofS (N := Ng) (ps := [a]) (us := [.ref f]) (vs := [.ref f]) lk hcg Sg hr I1.env0 (hb s' [.ref f] I1.kIn rfl) (.cons rfl .nil) rfl fun hr' => ?_
    obtain ⟨t', w1, w2⟩ := gv f c' s' H1 Q (fun E H' Q' => t E σ H' Q') hr' (fun W pn xe p1 p2 tk => pe_actW (i := 0) I1 L o1 o2 o3 (binds _ _ _ _ _) tk hr' (fun E A outer s H gd hr2 => hbody E A outer s H f c' gd hr2) hNg hva hd hcd) o4 (h H1 mk T1)
    exact ⟨t', w1.nox, w2⟩
  refine wpAny_call (codeAny_mono run fun r s2 hq => ?_)
  cases r with
  | error e => exact (show False from hq).elim
  | ok fl =>
    cases fl with
    | ret u => exact I1.after hq
    | next => exact False.elim hq
    | brk => exact False.elim hq
    | cont => exact False.elim hq
end Mj
/-! Mj14: what a place in the text knows. -/
namespace Mj
open PySem PySem.Spec PyProof.Rows L2

def GOk (mg : Str → Option Value) (fa : FA) (x : Str) (d : D) : Prop := match d with
  | .int i => ∃ t, mg x = some (.int i t)
  | .str s => ∃ t, mg x = some (.str s t)
  | .fn k => mg x = some (.ref (fa k))
  | .ty t => mg x = none ∧ bootBuiltins x = some (.type t) ∧ x ≠ "__name__"
  | _ => False
/-- a class that is raised -/
structure ExcR (P : Program) (w : World) (K : PySem.W.Frag) (mg : Str → Option Value) (base : Heap) (cv : Value) (x : Str) (ps : List Str) : Prop where
  ex : ∃ (C fI : Addr) (fd : FuncData), cv = .ref C ∧ mg x = some (.ref C) ∧ OexC K C ∧ FnOk P w K mg base CX0 1 fI fd (("self" : Str) :: ps) (Mi.spInit C ps) ∧ PySem.W.findIn K (.ref C) "__init__" = some (some (.ref fI)) ∧
    PySem.W.typeIn K (.ref fI) = some (.type "function") ∧ Binds K fd (("self" : Str) :: ps) [] ∧ ps.length ≤ 2
/-- what the lambda that was handed in asks of its calls -/
def TTask (fb : FB) (cl : Ask → MH → Rx D) : (XK → Hp → VK → Prop) → Hp → VK → Prop := fun tl H Q => ∃ (res β : List Addr) (M : MH) (ask : Ask) (kn : List (D × V)) (d : D) (M' : MH), Sim { fb with kn := kn } β res M H ∧ cl ask M = .ok d M' ∧
  (∀ (E : XK) (H' : Hp) (Q' : VK) (res' β' : List Addr) (M1 : MH), Sim { fb with kn := kn } β' res' M1 H' → PR { fb with kn := kn } (fun c d _ H'' => E c d H'') res' β' H' [] (ask M1) (fun d M2 => Post { fb with kn := kn } res' β' H' d M2 Q') → tl E H' Q') ∧
  Post { fb with kn := kn } res β H d M' Q
/-- a def that asks -/
structure AskG (P : Program) (w : World) (K : PySem.W.Frag) (mg : Str → Option Value) (base : Heap) (fb : FB) (k : Nat) (g : Addr) (x a : Str) (cl : Ask → MH → Rx D) : Prop where
  ex : ∃ (pg : Arguments) (bg : List Stmt) (sg : Scope) (dV kV doc pm cdv ct oc : Value) (an od : Option Addr) (osl : Array (Option Value)) (Ng : List Str), K.lookup g = some ⟨oc, od, .func (PySem.W.fnOf x x pg bg sg dV kV doc pm an cdv ct), osl⟩ ∧ PySem.W.codeIn K cdv x = true ∧
    L2.Binds K (PySem.W.fnOf x x pg bg sg dV kV doc pm an cdv ct) [a] [] ∧ FnScope Ng [a] sg ∧ Ng[0]? = some a ∧ Vis sg a ∧ okName a = true ∧
    ∀ (X : Cx) (q : Str), X.prog = P → X.w = w → X.K = K → X.mg = mg → X.base = base → X.A.guards = some [] → Gives X Ng x sg g cdv bg a q (k + 1) (TTask fb cl)
/-- the module -/
structure GoodG (g : Cfg) (cl : Calls) (sub : Nat → Nat → Bool) (fb : FB) (k : Nat) (P : Program) (w : World) (K : PySem.W.Frag) (mg : Str → Option Value) (base : Heap) : Prop where
  k4 : 4 ≤ k
  fns : ∀ i x, g.fnm[i]? = some x → mg x = some (.ref (fb i))
  fnG : ∀ i, FnG P w K mg base k (fb i) (spD fb fun ds M => cl i ds none M) (g.kws i) ∧ PySem.W.keepIn K (.ref (fb i)) = true
  askG : ∀ i x a, g.fnm[i]? = some x → g.askf i = some a → AskG P w K mg base fb k (fb i) x a fun ask M => cl i [] (some ask) M
  gls : ∀ p ∈ g.gl, GOk mg fb p.1 p.2
  bis : ∀ x ∈ g.bis, mg x = none
  clsn : ∀ c x, g.cls[c]? = some x → (∃ C, fb.cv c = .ref C ∧ mg x = some (.ref C)) ∨ (∃ T, fb.cv c = .type T ∧ mg x = none ∧ bootBuiltins x = some (.type T) ∧ x ≠ "__name__")
  subs : ∀ k c, PySem.W.kitOne K (fb.cv k) (fb.cv c) = some (sub k c) ∧ PySem.W.exmOne K (fb.cv k) (fb.cv c) = some (sub k c)
  excs : ∀ k x ps, g.cls[k]? = some x → g.xps k = some ps → ExcR P w K mg base (fb.cv k) x ps
  exck : ∀ k c, sub k c = true → c < g.nown → ∃ D, fb.cv k = .ref D ∧ ExcK K D ∧ ∀ f ∈ g.fld, PySem.W.findIn K (.ref D) f = some none
inductive KnF (fa : FB) : List (Str × D) → List (Str × V) → Prop where
  | nil : KnF fa [] []
  | cons {x : Str} {d : D} {v : V} {ds : List (Str × D)} {vs : List (Str × V)} : (d, v) ∈ fa.kn → KnF fa ds vs → KnF fa ((x, d) :: ds) ((x, v) :: vs)
/-- the suite of 'except .. as n' -/
structure InSuite (g : Cfg) (fa : FB) (N : List Str) (x : XV) (n : Str) (X : Cx) : Prop where
  ex : ∃ (X0 : Cx) (aE D : Addr) (oe : Obj) (pn : List (Addr × Obj)) (i : Nat) (dd : Addr) (fs : List (Str × V)), X = X0.suite aE ((aE, oe) :: pn) ∧ Zc (.ref D) (some dd) oe ∧ (∃ vs, oe.data = .fields vs) ∧ fa.cv x.k = .ref D ∧ ExcK X.K D ∧
    N[i]? = some n ∧ Vis X.env.scope n ∧ (i, V.ref aE) ∈ fa.fix ∧ (dd, HO.xd fs) ∈ fa.fixH ∧ KnF fa x.fs fs ∧ ∀ f ∈ g.fld, PySem.W.findIn X.K (.ref D) f = some none
structure GoodX (g : Cfg) (E : EvC) (fa : FB) (W : WX) (N : List Str) (k : Nat) (m : Md) (sc : Scope) (X : Cx) : Prop where
  hN : X.N = N
  hK : X.K = fa.K
  nd : N.Nodup
  un : X.A.units + 65 < cLine
  gd : X.A.guards = some []
  tk : Takes X W
  pass : PassesOwn (model X.prog X.w) X.A X.env X.xe
  calm : m.n ≠ 2 → X.calm = true ∧ Room k X.A
  hot : m.n = 2 → E.ask = noAsk
  bare : m.n = 0 ∨ m.n = 3 → fa = fa.bare
  vis : ∀ x, visB sc x = true → Vis X.env.scope x
  gl : ∀ x, sc.names.lookup x = some .globalImplicit → Gl X x
  loc : ∀ x, sc.names.lookup x = some .local → X.env.scope.names.lookup x = some .local
  cel : ∀ x, sc.names.lookup x = some .cell → X.env.scope.names.lookup x = some .cell ∧ X.fn x = true
  fre : ∀ x, sc.names.lookup x = some .free → X.env.scope.names.lookup x = some .cell ∨ X.env.scope.names.lookup x = some .free
  G : GoodG g E.cl E.sub fa.bare k X.prog X.w X.K X.mg X.base
  lam : m.n = 0 → Room (k + 2) X.A ∧ (∀ x, sc.names.lookup x = X.env.scope.names.lookup x) ∧ ∃ c P, LamX.TabB X.base X.mg c P ∧ X.env.code = .ref c ∧ (P, X.env.qual ++ "<lambda>") ∈ fa.T ∧ ∀ p ∈ fa.T, p.1 = P → p.2 = X.env.qual ++ "<lambda>"
  ask : ∀ a, m.n = 1 → m.an = some a → ∀ (W' : WX) (pn : List (Addr × Obj)) (xe : Value → Shared → Prop), Takes (X.tr pn xe) W' → ∀ p1 p2, PE (X.tr pn xe) (.Call (.Name a p1) [] [] p2) (tE fa W' fun _ M => E.ask M)
  cur : ∀ n, m.en = some n → m.n = 2 ∧ ∀ x, E.cur = some x → InSuite g fa N x n X
  fixN : ∀ p ∈ fa.fix, ∃ y, N[p.1]? = some y ∧ (m.en = some y ∨ m.an = some y)
section
variable {g : Cfg} {E : EvC} {fa : FB} {W : WX} {N : List Str} {k : Nat} {m : Md}
theorem relabel_lookup {scope : Scope} {env : Env} {x : Str} {kd : NameKind} (h : scope.names.lookup x = some kd) : (relabel scope env).names.lookup x = some kd ∨ (kd = .free ∧ (relabel scope env).names.lookup x = some .cell) := by
  unfold relabel
  simp only
  generalize scope.names = l at h
  induction l with
  | nil => cases h
  | cons p r ih =>
    obtain ⟨n, k⟩ := p
    rw [List.lookup_cons] at h
    rw [List.map_cons]
    by_cases e : (x == n) = true
    · simp only [e] at h
      cases h
      by_cases q : (kd == NameKind.free && env.scope.kind == .function && env.kindOf n == some .cell) = true
      · simp only [q, if_true, List.lookup_cons, e]
        right
        refine ⟨?_, trivial⟩
        have := (Bool.and_eq_true_iff.mp (Bool.and_eq_true_iff.mp q).1).1
        exact eq_of_beq this
      · left
        rw [if_neg q, List.lookup_cons, e]
    · have e' : (x == n) = false := by simpa using e
      simp only [e'] at h
      by_cases q : (k == NameKind.free && env.scope.kind == .function && env.kindOf n == some .cell) = true
      · simp only [q, if_true, List.lookup_cons, e']
        exact ih h
      · simp only [q, List.lookup_cons, e']
        simp only [Bool.false_eq_true, if_false, List.lookup_cons, e']
        exact ih h
theorem GoodX.blk {sc scope : Scope} {X : Cx} (h : GoodX g E fa W N k m sc X) (hm : m.n = 0 ∨ m.n = 3) (s : Shared) (H : Hp) (C : Addr) (cells : List (Str × Addr)) (fp : List Addr) : GoodX g E.bare fa W0 N k ⟨3, none, none⟩ scope (X.blk s H scope (compEnvC scope cells C X.env) fp) where
  hN := h.hN
  hK := h.hK
  nd := h.nd
  un := h.un
  gd := h.gd
  tk := LamX.takes0
  pass := PassesOwn.never
  calm := fun _ => h.calm (by rcases hm with z | z <;> rw [z] <;> decide)
  hot := fun z => by cases z
  bare := fun _ => h.bare hm
  vis := fun x hx => by
    unfold visB at hx
    show Vis (relabel scope X.env) x
    split at hx
    · rename_i q; rcases relabel_lookup (env := X.env) q with z | ⟨z, _⟩
      · exact .inl z
      · cases z
    · rename_i q; rcases relabel_lookup (env := X.env) q with z | ⟨z, _⟩
      · exact .inr (.inl z)
      · cases z
    · rename_i q; rcases relabel_lookup (env := X.env) q with z | ⟨_, z⟩
      · exact .inr (.inr z)
      · exact .inr (.inl z)
    · cases hx
  gl := fun x q => by
    rcases relabel_lookup (env := X.env) q with z | ⟨z, _⟩
    · exact z
    · cases z
  loc := fun x q => by
    rcases relabel_lookup (env := X.env) q with z | ⟨z, _⟩
    · exact z
    · cases z
  cel := fun x q => by
    rcases relabel_lookup (env := X.env) q with z | ⟨z, _⟩
    · exact ⟨z, by show (scope.names.lookup x == some .cell) = true; rw [q]; rfl⟩
    · cases z
  fre := fun x q => by
    rcases relabel_lookup (env := X.env) q with z | ⟨_, z⟩
    · exact .inr z
    · exact .inl z
  G := h.G
  lam := fun z => by cases z
  ask := fun _ z => by cases z
  cur := fun _ z => by cases z
  fixN := fun p hp => by
    rw [h.bare hm] at hp
    cases hp
theorem GoodX.store {sc : Scope} {X : Cx} {x : Str} (G : GoodX g E fa W N k m sc X) (h : locB sc x = true) : Loc X.env.scope x ∧ (X.fn x = true ∨ X.env.scope.names.lookup x = some .local) := by
  unfold locB at h
  split at h
  · rename_i q; exact ⟨.inl (G.loc x q), .inr (G.loc x q)⟩
  · rename_i q; exact ⟨.inr (G.cel x q).1, .inl (G.cel x q).2⟩
  · cases h
theorem plain_assign {e : Expr} {es : List Expr} {env : Env} (h : plainT e = true) : assignEach (e :: es) env = (false, assign e env) :: assignEach es env := by
  cases e <;> first | rfl | cases h
mutual
theorem GoodX.pg {sc : Scope} {X : Cx} (G : GoodX g E fa W N k m sc X) (hc : X.calm = true) : ∀ (t : Tg) (e : Expr), mTg N sc t e = true → PG X e (gT X.K t)
  | .name i, e, h => by
    cases e with
    | Name x pos =>
      simp only [mTg, Bool.and_eq_true, decide_eq_true_eq] at h
      obtain ⟨q1, q2⟩ := G.store h.2
      simp only [gT]
      exact pg_name (by rw [G.hN]; exact G.nd) (by rw [G.hN]; exact h.1) q1 q2
    | _ => simp [mTg] at h
  | .tup ts, e, h => by
    cases e with
    | Tuple es n pos =>
      simp only [mTg] at h
      obtain ⟨p1, p2, p3⟩ := G.pgs hc ts es h
      simp only [gT]
      exact pg_tup hc p1 p2 p3
    | _ => simp [mTg] at h
theorem GoodX.pgs {sc : Scope} {X : Cx} (G : GoodX g E fa W N k m sc X) (hc : X.calm = true) : ∀ (ts : Tgs) (es : List Expr), mTgs N sc ts es = true → PGs X es (gTs X.K ts) ∧ (assignEach es X.env).length = ts.len ∧ (assignEach es X.env).findIdx? (·.1) = none
  | .nil, es, h => by
    cases es with
    | nil => simp only [gTs]; exact ⟨pgs_nil, rfl, rfl⟩
    | cons _ _ => simp [mTgs] at h
  | .cons t r, es, h => by
    cases es with
    | nil => simp [mTgs] at h
    | cons e es =>
      simp only [mTgs, Bool.and_eq_true] at h
      obtain ⟨p1, p2, p3⟩ := G.pgs hc r es h.2
      have q := G.pg hc t e h.1.1
      have pa := plain_assign (es := es) (env := X.env) h.1.2
      simp only [gTs]
      refine ⟨pgs_cons q p1 (by rw [pa]; rfl), ?_, ?_⟩
      · rw [pa]
        show (assignEach es X.env).length + 1 = r.len + 1
        rw [p2]
      · rw [pa, List.findIdx?_cons, p3]
        rfl
end
theorem GoodX.blkOk {sc scope : Scope} {X : Cx} (G : GoodX g E fa W N k m sc X) {own : List (Str × Nat)} (h : blkC N sc scope own = true) : BlkOk X.N X.env.scope scope own := by
  have B := blkOk_by h
  rw [G.hN]
  refine ⟨B.kind, B.uniq, B.ix, fun y hy hf => ?_, B.own⟩
  rcases B.free y hy hf with q | q
  · exact .inl (G.cel _ q).1
  · exact G.fre _ q
end
end Mj
/-! Mj15: what is caught, and lambdas. -/
namespace Mj
open PySem PySem.Spec PyProof.Rows L2

section
variable {g : Cfg} {E : EvC} {fa : FB} {W : WX} {N : List Str} {k : Nat} {m : Md} {sc : Scope} {X : Cx} {pos p : Pos}
/-- the name of a class -/
theorem pe_cls {c : Nat} {e : Expr} (G : GoodX g E fa W N k m sc X) (h : mCn g sc c e = true) : ∃ v, PE X e (tC v) ∧ ∀ u, RelV v u → u = fa.cv c := by
  unfold mCn at h
  split at h
  · rename_i x p'
    simp only [Bool.and_eq_true, decide_eq_true_eq] at h
    obtain ⟨⟨h1, h2⟩, h3⟩ := h
    have hg : Gl X x := G.gl x (glB_is h2)
    rcases G.G.clsn c x h1 with ⟨C, e1, e2⟩ | ⟨T, e1, e2, e3, e4⟩
    · exact ⟨.ref C, pe_glob hg e2 (v := .ref C) rfl (okName_d h3).1, fun u r => r.trans e1.symm⟩
    · exact ⟨.ty T, pe_bltn hg e2 e3 (v := .ty T) rfl e4 (okName_d h3).1, fun u r => r.trans e1.symm⟩
  · cases h
theorem plain_name {c : Nat} {e : Expr} (h : mCn g sc c e = true) : plainE e = true := by
  unfold mCn at h
  split at h
  · rfl
  · cases h
theorem pa_cls (G : GoodX g E fa W N k m sc X) : ∀ (cs : List Nat) (es : List Expr), mCns g sc cs es = true → ∃ vs, PA X es (fun σ H Q => Q vs H) ∧ AreC vs (cs.map fa.cv)
  | [], es, h => by
    cases es with
    | nil => exact ⟨[], pa_nil, .nil⟩
    | cons _ _ => simp [mCns] at h
  | c :: cs, es, h => by
    cases es with
    | nil => simp [mCns] at h
    | cons e es =>
      simp only [mCns, Bool.and_eq_true] at h
      obtain ⟨v, h1, h2⟩ := pe_cls G h.1
      obtain ⟨vs, k1, k2⟩ := pa_cls G cs es h.2
      exact ⟨v :: vs, pa_cons h1 k1 (star_plain (plain_name h.1)), .cons h2 k2⟩
theorem kitAny_of {K : PySem.W.Frag} {t : Value} {f : Nat → Value} {s : Nat → Bool} (h : ∀ c, PySem.W.kitOne K t (f c) = some (s c)) : ∀ cs : List Nat, PySem.W.kitAny K t (cs.map f) = some (cs.any s)
  | [] => rfl
  | c :: cs => by
    rw [List.map_cons, List.any_cons]
    unfold PySem.W.kitAny
    rw [h c]
    cases s c with
    | true => rfl
    | false => exact kitAny_of h cs
theorem AreC.length : ∀ {vs : List V} {us : List Value}, AreC vs us → vs.length = us.length
  | _, _, .nil => rfl
  | _, _, .cons _ q => by simp [q.length]
theorem KnF.look {f : Str} {d : D} : ∀ {ds : List (Str × D)} {vs : List (Str × V)}, KnF fa ds vs → lookF ds f = some d → ∃ v, vs.lookup f = some v ∧ (d, v) ∈ fa.kn
  | _, _, .nil, h => by simp [lookF] at h
  | _, _, .cons (x := x) (v := v) r q, h => by
    unfold lookF at h
    by_cases e : f = x
    · rw [if_pos e] at h
      cases h
      exact ⟨v, by rw [List.lookup_cons, e]; simp, r⟩
    · rw [if_neg e] at h
      obtain ⟨w, h1, h2⟩ := KnF.look q h
      refine ⟨w, ?_, h2⟩
      rw [List.lookup_cons, show (f == x) = false by simpa using e]
      exact h1
theorem r_isE {x y : Str} {u : Expr} {t : Bool} {cs : List Nat} {p1 : Pos} (G : GoodX g E fa W N k m sc X) (hx : x = "isinstance") (hbi : ("isinstance" : Str) ∈ g.bis) (hgl : glB sc "isinstance" = true) (hen : m.en = some y) (hok : okName y = true) (hc : mC g sc t cs u = true) :
    PE X (.Call (.Name x p) [.Name y p1, u] [] pos) (tE fa W fun _ M => match E.cur with | some x => .ok (.bl (cs.any (E.sub x.k))) M | none => .bad) := by
  subst hx
  cases ec : E.cur with
  | none => exact r_bad
  | some x =>
    obtain ⟨X0, aE, D, oe, pn, i, dd, fs, rfl, hz, hf, hcv, hk, hN, hv, hfix, hfixH, hkn, hfld⟩ := ((G.cur y hen).2 x ec).ex
    have hg : Gl (X0.suite aE ((aE, oe) :: pn)) "isinstance" := G.gl _ (glB_is hgl)
    have hm : X0.mg "isinstance" = none := G.G.bis _ hbi
    have pv := pe_var (X := X0.suite aE ((aE, oe) :: pn)) (pos := p1) (i := i) (by rw [G.hN]; exact hN) hv (okName_d hok).1 (okName_d hok).2
    have kit : ∀ c, PySem.W.kitOne X0.K (.ref D) (fa.cv c) = some (E.sub x.k c) := fun c => by
      have := (G.G.subs x.k c).1
      rw [show fa.bare.cv x.k = .ref D from hcv] at this
      exact this
    have isx : ∀ {β res : List Addr} {M : MH} {H : Hp}, Sim fa β res M H → ∀ d2, some dd = some d2 → ∃ fs, H d2 = some (.xd fs) := fun S d2 e => by cases e; exact ⟨fs, (S.fx _ hfixH).1⟩
    unfold mC at hc
    split at hc
    · rename_i c
      obtain ⟨v, h1, h2⟩ := pe_cls G hc
      have pa := pa_cons pv (pa_cons h1 pa_nil (star_plain (plain_name hc))) (star_plain rfl)
      refine PE.weak (pe_callB (call_isX hk hz hf) hg hm (by decide +kernel) pa (by decide) (by decide) (star_plain rfl) (star_none (by rw [List.all_cons, plain_name hc]; rfl))) fun σ H Q h => ?_
      obtain ⟨res, β, ρ, M, S, R, h⟩ := h
      refine ⟨.ref aE, R.fx _ hfix, isx S, v, fa.cv c, _, rfl, h2, kit c, ?_⟩
      have h : Post fa res β H (.bl ([c].any (E.sub x.k))) M Q := h
      rw [List.any_cons, List.any_nil, Bool.or_false] at h
      exact h.same S (.bl _)
    · rename_i cs'
      split at hc
      · rename_i es n p2
        rw [Bool.and_eq_true, decide_eq_true_eq] at hc
        obtain ⟨hl, hc⟩ := hc
        obtain ⟨vs, h1, h2⟩ := pa_cls G cs es hc
        have pa := pa_cons pv (pa_cons (pe_tup (x1 := n) (pos := p2) h1) pa_nil (star_plain rfl)) (star_plain rfl)
        refine PE.weak (pe_callB (call_isXT hk hz hf) hg hm (by decide +kernel) pa (by decide) (by decide) (star_plain rfl) (star_none rfl)) fun σ H Q h => ?_
        obtain ⟨res, β, ρ, M, S, R, h⟩ := h
        refine ⟨.ref aE, R.fx _ hfix, ?_, fun q hq => ?_⟩
        · rw [h2.length, List.length_map]
          exact Nat.le_trans hl (by decide)
        · refine ⟨isx (S.new hq), q, vs, _, _, rfl, upd_same, h2, kitAny_of kit cs, ?_⟩
          exact h _ _ β (step_new hq) (S.new hq) (.bl _)
      · cases hc
    · cases hc
theorem r_fldE {x y f : Str} {p1 : Pos} (G : GoodX g E fa W N k m sc X) (hx : x = f) (hen : m.en = some y) (hok : okName y = true) (hfl : f ∈ g.fld) :
    PE X (.Attribute (.Name y p1) x pos) (tE fa W fun _ M => match E.cur with | some x => up (resO M (lookF x.fs f)) | none => .bad) := by
  subst hx
  cases ec : E.cur with
  | none => exact r_bad
  | some xv =>
    obtain ⟨X0, aE, D, oe, pn, i, dd, fs, rfl, hz, hf, hcv, hk, hN, hv, hfix, hfixH, hkn, hfld⟩ := ((G.cur y hen).2 xv ec).ex
    have pv := pe_var (X := X0.suite aE ((aE, oe) :: pn)) (pos := p1) (i := i) (by rw [G.hN]; exact hN) hv (okName_d hok).1 (okName_d hok).2
    refine PE.weak (pe_xf (X := X0) hk.xf (hfld _ hfl) hz hf pv rfl) fun σ H Q h => ?_
    obtain ⟨res, β, ρ, M, S, R, h⟩ := h
    obtain ⟨d, M', e, P⟩ := PR.leaf h
    cases q : lookF xv.fs x with
    | none => rw [q] at e; cases e
    | some d' =>
      rw [q] at e
      cases e
      obtain ⟨w, k1, k2⟩ := hkn.look q
      exact ⟨.ref aE, R.fx _ hfix, rfl, rfl, dd, fs, w, rfl, (S.fx _ hfixH).1, k1, P.same S (S.kn _ k2)⟩
/-! ### lambdas -/
theorem Sim.ofKn {kn : List (D × V)} {β res : List Addr} {M : MH} {H : Hp} (s : Sim { fa.bare with kn := kn } β res M H) : Sim fa.bare β res M H := ⟨s.len, s.nd, s.nr, s.rt, s.rp, s.tabs, fun _ h => (nomatch h), fun _ h => (nomatch h), s.at_⟩
theorem Sim.toKn {kn : List (D × V)} {β res : List Addr} {M : MH} {H : Hp} (s : Sim fa.bare β res M H) (h : ∀ p ∈ kn, Rep fa β res H p.1 p.2) : Sim { fa.bare with kn := kn } β res M H := ⟨s.len, s.nd, s.nr, s.rt, s.rp, s.tabs, fun _ h => (nomatch h), h, s.at_⟩
theorem Sim.made {β res : List Addr} {M : MH} {H H1 : Hp} {P : Addr} {q : Str} (s : Sim fa.bare β res M H) (mk : Made P q H H1) (t : LamX.Tabs fa.T H1) : Sim fa.bare β res M H1 := by
  have st : Step [] β H β H1 := mk.step
  have keep : ∀ {a : Addr} {o : HO}, H a = some o → Pl o → H1 a = some o := fun e pl => mk.ext _ _ e pl.noTbl
  refine ⟨s.len, s.nd, s.nr, fun a h => st.dom a (s.rt a h), fun a h o e => ?_, t, fun _ h => (nomatch h), fun _ h => (nomatch h), fun n a o e1 e2 => ?_⟩
  · cases q : H a with
    | none => exact absurd q (s.rt a h)
    | some o' =>
      have pl := s.rp a h o' q
      have := (keep q pl).symm.trans e
      cases this
      exact pl
  · obtain ⟨ho, h1, h2⟩ := s.at_ n a o e1 e2
    exact ⟨ho, keep h1 h2.pl, h2.step st (by simp)⟩
/-- the slots' values, told once for all -/
def knOf (ρ : Rho) (σ : L2.St) : List (D × V) := (ρ.zip σ).filterMap fun p => match p with
  | (some d, some v) => some (d, v)
  | _ => none
theorem kn_mem {ρ : Rho} {σ : L2.St} {d : D} {v : V} {i : Nat} (h1 : ρ[i]? = some (some d)) (h2 : σ[i]? = some (some v)) : (d, v) ∈ knOf ρ σ := by
  refine List.mem_filterMap.mpr ⟨(some d, some v), ?_, rfl⟩
  refine List.mem_of_getElem? (i := i) ?_
  rw [List.getElem?_zip_eq_some]
  exact ⟨h1, h2⟩
theorem kn_of {ρ : Rho} {σ : L2.St} {p : D × V} (h : p ∈ knOf ρ σ) : ∃ i : Nat, ρ[i]? = some (some p.1) ∧ σ[i]? = some (some p.2) := by
  obtain ⟨⟨a, b⟩, h1, h2⟩ := List.mem_filterMap.mp h
  obtain ⟨i, hi⟩ := List.getElem?_of_mem h1
  rw [List.getElem?_zip_eq_some] at hi
  cases a with
  | none => cases h2
  | some d =>
    cases b with
    | none => cases h2
    | some v => cases h2; exact ⟨i, hi⟩
theorem r_lam {j : Nat} {x a : Str} {params : Arguments} {b : Expr} {scope : Scope} {lp : Pos} {fb : Rho → MH → Rx D} (G : GoodX g E fa W N k m sc X) (hm : m.n = 0) (hj : g.fnm[j]? = some x) (hgl : glB sc x = true) (hok : okName x = true) (ha : g.askf j = some a) (hp : emptyA params = true) (hl : LamX.lamSB sc scope = true)
    (hb : ∀ (E' : XK) (A : Around) (outer : List Env) (s : Shared) (H : Hp) (f c' : Addr), A.guards = X.A.guards → Room k (A.deeper (LamX.lamEnv X scope s.heap.objs.size f c')) → PE (LamX.lamCx X A outer s H E' scope f c') b (tE fa (fun c d _ H => E' c d H) fb)) :
    PE X (.Call (.Name x p) [.Lambda params b scope lp] [] pos) (tE fa W fun ρ M => noX (E.cl j [] (some fun M' => fb ρ M') M)) := by
  obtain ⟨room, same, c, P, tb, co, inT, one⟩ := G.lam hm
  obtain ⟨pg, bg, sg, dV, kV, doc, pm, cdv, ct, oc, an, od, osl, Ng, lk, hcd, bd, Sg, hNg, hva, hoka, gv⟩ := (G.G.askG j x a hj ha).ex
  have L : LamX.LamS X.env.scope scope := by
    have L0 := LamX.lamS_by hl
    refine ⟨L0.kind, L0.co, L0.gen, L0.own, fun y hy e => ?_⟩
    rw [← same]
    exact L0.free y hy e
  have fb0 : fa = fa.bare := G.bare (.inl hm)
  unfold emptyA at hp
  split at hp
  · refine PE.weak (pe_lam (G.gl x (glB_is hgl)) (G.G.fns j x hj) (G.G.fnG j).2 lk hcd bd Sg hNg hva (gv X (X.env.qual ++ "<lambda>") rfl rfl rfl rfl rfl G.gd) tb co inT one room L rfl (fun _ _ _ _ _ => rfl) hb (okName_d hok).1 (okName_d hoka).1 (okName_d hoka).2) fun σ H Q h => ?_
    obtain ⟨res, β, ρ, M, S, R, h⟩ := h
    simp only at h
    refine ⟨S.tabs, fun H1 mk T1 => ?_⟩
    cases q : E.cl j [] (some fun M' => fb ρ M') M with
    | bad => rw [q] at h; exact h.elim
    | exc _ _ => rw [q] at h; exact h.elim
    | ok d M' =>
      rw [q] at h
      replace h : Post fa res β H d M' Q := h
      have st1 : Step [] β H β H1 := mk.step
      have S0 : Sim fa.bare β res M H := S.bare
      have S1 : Sim fa.bare β res M H1 := S0.made mk T1
      have kn1 : ∀ p ∈ knOf ρ σ, Rep fa β res H1 p.1 p.2 := fun p hp => by
        obtain ⟨i, h1, h2⟩ := kn_of hp
        obtain ⟨v, k1, k2⟩ := R.at_ i _ h1
        rw [h2] at k1
        cases k1
        exact k2.step st1 (by simp)
      refine ⟨res, β, M, fun M' => fb ρ M', knOf ρ σ, d, M', S1.toKn kn1, q, fun E' H' Q' res' β' M1 S' pr => ?_, fun v H' β' st s' r => ?_⟩
      · refine ⟨res', β', ρ, M1, ?_, ⟨R.len, fun p hp => (by rw [fb0] at hp; cases hp), fun i d hd => ?_⟩, ?_⟩
        · rw [fb0]; exact S'.ofKn
        · obtain ⟨v, h1, _⟩ := R.at_ i d hd
          exact ⟨v, h1, S'.kn (d, v) (kn_mem hd h1)⟩
        · have back : ∀ {H'' : Hp} {β'' : List Addr} {M2 : MH}, Step [] β' H' β'' H'' → Sim fa β'' res' M2 H'' → Sim { fa.bare with kn := knOf ρ σ } β'' res' M2 H'' := fun st2 s2 => s2.bare.toKn fun p hp => (S'.kn p hp).step st2 (by simp)
          simp only at pr
          cases z : fb ρ M1 with
          | ok d2 M2 =>
            rw [z] at pr
            exact fun v H'' β'' st2 s2 r2 => pr v H'' β'' st2 (back st2 s2) r2
          | exc x2 M2 =>
            rw [z] at pr
            exact fun H'' β'' cls dd st2 s2 rx => pr H'' β'' cls dd st2 (back st2 s2) rx
          | bad => rw [z] at pr; exact pr
      · refine h v H' β' (st1.trans st) ?_ r
        rw [fb0]
        exact s'.ofKn
  · cases hp
end
end Mj
/-! Ml3: zip(t, u) of two tuples, whose pairs are kept. -/
namespace Mj
open PySem PySem.Spec PyProof.Rows L2 RZ

section
variable {prog : Program} {w : World} {A : Around} {E : Value → Shared → Prop} {s : Shared} {zz TI TO T j1 j2 u1 u2 : Addr} {f : Bool} {oT : Obj} {n1 n2 : Nat} {xs ys : Array Value}
theorem keptItem {x y : Value} {Q : Value → Shared → Prop} (D : ZipApart zz TI TO j1 j2 u1 u2) (hz : PySem.IsZipHeld s.heap zz TI TO T f) (hT : s.heap.get? T = some oT) (pI : IsPair s.heap TI (.ref j1) (.ref j2))
    (t1 : s.heap.IsTupleIter j1 u1 n1) (t2 : s.heap.IsTupleIter j2 u2 n2) (o1 : s.heap.IsTuple u1 xs) (o2 : s.heap.IsTuple u2 ys) (hx : xs[n1]? = some x) (hy : ys[n2]? = some y)
    (done : ∀ g, PySem.IsZipHeld g zz TI TO T true → g.IsTupleIter j1 u1 (n1 + 1) → g.IsTupleIter j2 u2 (n2 + 1) → IsPair g s.heap.objs.size x y → g.objs.size = s.heap.objs.size + 1 → (∀ c o, c ≠ zz → c ≠ j1 → c ≠ j2 → s.heap.get? c = some o → g.get? c = some o) → Q (.ref s.heap.objs.size) { s with heap := g }) :
    wpAny (model prog w) A (Builtin.«zip.__next__» ⟨[.ref zz], []⟩) (fun fin s' => ∃ v, fin = .done (.ret v) ∧ Q v s') E s := by
  show wpAny _ _ (field (.ref zz) 2 >>= _) _ _ _
  refine wpAny_bind (wpAny_field hz rfl (x := .bool false) rfl ?_)
  show wpAny _ _ (field (.ref zz) 3 >>= _) _ _ _
  refine wpAny_bind (wpAny_field hz rfl (x := .ref TI) rfl ?_)
  refine wpAny_bind (wpAny_seqItems pI rfl ?_)
  show wpAny _ _ (Builtin.SmallTypes.ownedTupleIsFree (.ref zz) >>= _) _ _ _
  refine wpAny_bind (wpAny_tupleHeld_zip hz hT fun g1 z1 b1 => ?_)
  simp only [Bool.false_eq_true, if_false]
  refine wpAny_bind ?_
  rw [← Array.forIn_toList]
  simp only [List.forIn_cons, List.forIn_nil]
  refine wpAny_bind (wpAny_bind (wpAny_holding ?_))
  show wpAny _ _ (Builtin.SmallTypes.nextOf (.ref j1) >>= _) _ _ _
  refine wpAny_bind (nextOf_tuple_item (s := { s with heap := g1 }) (t1.extBut b1.extBut D.i1z) (o1.extBut b1.extBut D.l1z) hx fun g2 w1 b2 => wpAny_pure ?_)
  refine wpAny_pure ?_
  refine wpAny_bind (wpAny_bind (wpAny_holding ?_))
  show wpAny _ _ (Builtin.SmallTypes.nextOf (.ref j2) >>= _) _ _ _
  refine wpAny_bind (nextOf_tuple_item (s := { s with heap := g2 }) ((t2.extBut b1.extBut D.i2z).extBut b2.extBut D.i12.symm) ((o2.extBut b1.extBut D.l2z).extBut b2.extBut D.l2i1) hy fun g3 w2 b3 => wpAny_pure ?_)
  refine wpAny_pure (wpAny_pure ?_)
  show wpAny _ _ (newTuple [x, y] >>= _) _ _ _
  refine wpAny_bind (wpAny_newTuple ?_)
  have sz : g3.objs.size = s.heap.objs.size := by rw [b3.1, b2.1, b1.1]
  have z3 : PySem.IsZipHeld g3 zz TI TO T true := b3.extBut _ _ D.i2z.symm (b2.extBut _ _ D.i1z.symm z1)
  have kp : ∀ c o, c ≠ zz → c ≠ j1 → c ≠ j2 → s.heap.get? c = some o → g3.get? c = some o := fun c o c1 c2 c3 e => b3.extBut _ _ c3 (b2.extBut _ _ c2 (b1.extBut _ _ c1 e))
  have w3 : g3.IsTupleIter j1 u1 (n1 + 1) := w1.extBut b3.extBut D.i12
  refine wpAny_pure ⟨_, rfl, ?_⟩
  show Q (.ref g3.objs.size) _
  have np : IsPair (g3.push { cls := .type "tuple", data := .seq #[x, y] }) g3.objs.size x y := Heap.get?_push_size _ rfl
  have ns : (g3.push { cls := .type "tuple", data := .seq #[x, y] }).objs.size = g3.objs.size + 1 := Heap.size_push ..
  rw [sz] at np ns ⊢
  exact done _ (Heap.get?_push_of_some _ z3) (w3.at fun o e => Heap.get?_push_of_some _ e) (w2.at fun o e => Heap.get?_push_of_some _ e) np ns fun c o c1 c2 c3 e => Heap.get?_push_of_some _ (kp c o c1 c2 c3 e)
theorem keptEnd {Q : Fin → Shared → Prop} (hh : A.handled = none) (D : ZipApart zz TI TO j1 j2 u1 u2) (hz : PySem.IsZipHeld s.heap zz TI TO T f) (hT : s.heap.get? T = some oT) (pI : IsPair s.heap TI (.ref j1) (.ref j2))
    (t1 : s.heap.IsTupleIter j1 u1 n1) (t2 : s.heap.IsTupleIter j2 u2 n2) (o1 : s.heap.IsTuple u1 xs) (o2 : s.heap.IsTuple u2 ys) (last : xs[n1]? = none ∨ ys[n2]? = none)
    (done : ∀ g e, (∀ c o, c ≠ zz → c ≠ j1 → c ≠ j2 → s.heap.get? c = some o → g.get? c = some o) → (∃ o, g.get? e = some o ∧ o.cls = .type "StopIteration") → E (.ref e) { s with heap := g }) :
    wpAny (model prog w) A (Builtin.«zip.__next__» ⟨[.ref zz], []⟩) Q E s := by
  show wpAny _ _ (field (.ref zz) 2 >>= _) _ _ _
  refine wpAny_bind (wpAny_field hz rfl (x := .bool false) rfl ?_)
  show wpAny _ _ (field (.ref zz) 3 >>= _) _ _ _
  refine wpAny_bind (wpAny_field hz rfl (x := .ref TI) rfl ?_)
  refine wpAny_bind (wpAny_seqItems pI rfl ?_)
  show wpAny _ _ (Builtin.SmallTypes.ownedTupleIsFree (.ref zz) >>= _) _ _ _
  refine wpAny_bind (wpAny_tupleHeld_zip hz hT fun g1 z1 b1 => ?_)
  simp only [Bool.false_eq_true, if_false]
  refine wpAny_bind ?_
  rw [← Array.forIn_toList]
  simp only [List.forIn_cons, List.forIn_nil]
  refine wpAny_bind (wpAny_bind (wpAny_holding ?_))
  show wpAny _ _ (Builtin.SmallTypes.nextOf (.ref j1) >>= _) _ _ _
  cases hx : xs[n1]? with
  | none =>
    refine wpAny_bind (nextOf_tuple_end (s := { s with heap := g1 }) hh (t1.extBut b1.extBut D.i1z) (o1.extBut b1.extBut D.l1z) hx fun g2 e b2 he => ?_)
    exact done g2 e (fun c o c1 c2 _ q => b2 _ _ c2 (b1.extBut _ _ c1 q)) he
  | some x =>
    have hy : ys[n2]? = none := last.resolve_left (by rw [hx]; simp)
    refine wpAny_bind (nextOf_tuple_item (s := { s with heap := g1 }) (t1.extBut b1.extBut D.i1z) (o1.extBut b1.extBut D.l1z) hx fun g2 w1 b2 => wpAny_pure ?_)
    refine wpAny_pure ?_
    refine wpAny_bind (wpAny_bind (wpAny_holding ?_))
    show wpAny _ _ (Builtin.SmallTypes.nextOf (.ref j2) >>= _) _ _ _
    refine wpAny_bind (nextOf_tuple_end (s := { s with heap := g2 }) hh ((t2.extBut b1.extBut D.i2z).extBut b2.extBut D.i12.symm) ((o2.extBut b1.extBut D.l2z).extBut b2.extBut D.l2i1) hy fun g3 e b3 he => ?_)
    exact done g3 e (fun c o c1 c2 c3 q => b3 _ _ c3 (b2.extBut _ _ c2 (b1.extBut _ _ c1 q))) he
/-- a zip of two tuples at their n-th places -/
structure ZSt (h : Heap) (zz TI TO j1 j2 u1 u2 : Addr) (n : Nat) : Prop where
  pI : IsPair h TI (.ref j1) (.ref j2)
  t1 : h.IsTupleIter j1 u1 n
  t2 : h.IsTupleIter j2 u2 n
  at_ : (IsZip h zz TI TO .none ∧ ∃ a b, IsPair h TO a b) ∨ ∃ T f oT, PySem.IsZipHeld h zz TI TO T f ∧ h.get? T = some oT ∧ T ≠ zz ∧ T ≠ j1 ∧ T ≠ j2
theorem zst_item {n : Nat} {x y : Value} {Q : Option Value → Shared → Prop} (D : ZipApart zz TI TO j1 j2 u1 u2) (st : ZSt s.heap zz TI TO j1 j2 u1 u2 n) (o1 : s.heap.IsTuple u1 xs) (o2 : s.heap.IsTuple u2 ys) (hx : xs[n]? = some x) (hy : ys[n]? = some y)
    (done : ∀ g, ZSt g zz TI TO j1 j2 u1 u2 (n + 1) → IsPair g s.heap.objs.size x y → (∀ c o, c ≠ zz → c ≠ TO → c ≠ j1 → c ≠ j2 → s.heap.get? c = some o → g.get? c = some o) → Q (some (.ref s.heap.objs.size)) { s with heap := g }) :
    wpAny (model prog w) A (pyNext (.ref zz)) Q E s := by
  have lt : ∀ {b : Addr} {o : Obj}, s.heap.get? b = some o → s.heap.objs.size ≠ b := fun e => Nat.ne_of_gt (Heap.lt_size e)
  obtain ⟨e1, q1, _⟩ := id st.t1
  obtain ⟨e2, q2, _⟩ := id st.t2
  rcases st.at_ with ⟨hz, a, b, pO⟩ | ⟨T, f, oT, hz, hT, n1, n2, n3⟩
  · refine pyNext_zipT_item D hz st.pI pO st.t1 st.t2 o1 o2 hx hy fun g z1 _ w1 w2 np _ kp => done g ⟨kp _ _ D.TIz D.TITO D.TIi1 D.TIi2 st.pI, w1, w2, .inr ⟨_, false, _, z1, np, lt hz, lt q1, lt q2⟩⟩ np kp
  · have ty : s.TypeIs (.ref zz) "zip" := ⟨_, hz, rfl⟩
    unfold pyNext
    refine wpAny_bind (wpAny_attempt (wpAny_callSpecial?_slot (name := Str.ofString "__next__") ty F.slot_zip_next (wpAny_call_entry F.slot_zip_next ty F.entry_zip_next (keptItem D hz hT st.pI st.t1 st.t2 o1 o2 hx hy fun g z1 w1 w2 np _ kp => wpAny_pure ?_) (F.args_zip_next_1 _))))
    exact done g ⟨kp _ _ D.TIz D.TIi1 D.TIi2 st.pI, w1, w2, .inr ⟨T, true, _, z1, kp _ _ n1 n2 n3 hT, n1, n2, n3⟩⟩ np fun c o c1 _ c3 c4 e => kp c o c1 c3 c4 e
theorem zst_end {n : Nat} {Q : Option Value → Shared → Prop} (hh : A.handled = none) (D : ZipApart zz TI TO j1 j2 u1 u2) (st : ZSt s.heap zz TI TO j1 j2 u1 u2 n) (o1 : s.heap.IsTuple u1 xs) (o2 : s.heap.IsTuple u2 ys) (last : xs[n]? = none ∨ ys[n]? = none)
    (done : ∀ g, (∀ c o, c ≠ zz → c ≠ TO → c ≠ j1 → c ≠ j2 → s.heap.get? c = some o → g.get? c = some o) → Q none { s with heap := g }) : wpAny (model prog w) A (pyNext (.ref zz)) Q E s := by
  rcases st.at_ with ⟨hz, a, b, pO⟩ | ⟨T, f, oT, hz, hT, n1, n2, n3⟩
  · exact pyNext_zipT_end hh D hz st.pI pO st.t1 st.t2 o1 o2 last fun g kp => done g kp
  · have ty : s.TypeIs (.ref zz) "zip" := ⟨_, hz, rfl⟩
    unfold pyNext
    refine wpAny_bind (wpAny_attempt (wpAny_callSpecial?_slot (name := Str.ofString "__next__") ty F.slot_zip_next (wpAny_call_entry F.slot_zip_next ty F.entry_zip_next (keptEnd hh D hz hT st.pI st.t1 st.t2 o1 o2 last fun g e kp he => ?_) (F.args_zip_next_1 _))))
    obtain ⟨o, ho, hc⟩ := he
    refine wpAny_bind (wpAny_isInstance (T := "StopIteration") (b := true) ⟨o, ho, hc⟩ isSubtype_stop ?_)
    exact wpAny_pure (done _ fun c o c1 _ c3 c4 e => kp c o c1 c3 c4 e)
end
end Mj
/-! Ml4: list(zip(t, u)) of two tuples: the walk. -/
namespace Mj
open PySem PySem.Spec PyProof.Rows L2 RZ
/-- new tuples -/
inductive Pairs (H H' : Hp) : List Addr → List V → List V → Prop where
  | nil {xs ys : List V} : xs = [] ∨ ys = [] → Pairs H H' [] xs ys
  | cons {p : Addr} {ps : List Addr} {o : Obj} {x y : V} {xs ys : List V} : H p = none → H' p = some (.frz o (.tup [x, y])) → TupO o → Pairs H H' ps xs ys → Pairs H H' (p :: ps) (x :: xs) (y :: ys)
theorem Pairs.base {H0 H H' : Hp} (e : ∀ b o, H0 b = some o → H b = some o) : ∀ {ps : List Addr} {xs ys : List V}, Pairs H H' ps xs ys → Pairs H0 H' ps xs ys
  | _, _, _, .nil h => .nil h
  | _, _, _, .cons (p := p) h1 h2 h3 q => by
    refine .cons ?_ h2 h3 (Pairs.base e q)
    cases z : H0 p with
    | none => rfl
    | some o => rw [e _ _ z] at h1; cases h1
section
variable {h h' : Heap} {zz TI TO j1 j2 u1 u2 : Addr} {n : Nat}
theorem ZSt.keep (st : ZSt h zz TI TO j1 j2 u1 u2 n) (k : ∀ b ∈ [zz, TI, TO, j1, j2], ∀ o, h.get? b = some o → h'.get? b = some o) (k2 : ∀ c o, h.get? c = some o → ∃ o', h'.get? c = some o') : ZSt h' zz TI TO j1 j2 u1 u2 n := by
  refine ⟨k TI (by simp) _ st.pI, st.t1.at fun o q => k j1 (by simp) o q, st.t2.at fun o q => k j2 (by simp) o q, ?_⟩
  rcases st.at_ with ⟨hz, a, b, pO⟩ | ⟨T, f, oT, hz, hT, n1, n2, n3⟩
  · exact .inl ⟨k zz (by simp) _ hz, a, b, k TO (by simp) _ pO⟩
  · obtain ⟨o', e⟩ := k2 _ _ hT
    exact .inr ⟨T, f, o', k zz (by simp) _ hz, e, n1, n2, n3⟩
end
theorem upd_swap {H : Hp} {a b : Addr} {x y z : HO} (h : a ≠ b) : upd (upd (upd H a x) b y) a z = upd (upd H b y) a z := by
  funext c
  by_cases h1 : c = a
  · subst h1; rw [upd_same, upd_same]
  · rw [upd_ne h1, upd_ne h1]
    by_cases h2 : c = b
    · subst h2; rw [upd_same, upd_same]
    · rw [upd_ne h2, upd_ne h2, upd_ne h1]
theorem upd_twice {H : Hp} {a : Addr} {x z : HO} : upd (upd H a x) a z = upd H a z := by
  funext c
  by_cases h1 : c = a
  · subst h1; rw [upd_same, upd_same]
  · rw [upd_ne h1, upd_ne h1, upd_ne h1]
section
variable {X : Cx} {pins : List (Addr × Obj)} {σ : L2.St} {A : Around} {R : Result → Shared → Prop} {zz TI TO j1 j2 u1 u2 S : Addr} {xs ys : List V} {res : Value}
theorem grow_upd {H : Hp} {a : Addr} {x : HO} (h : H a = none) : ∀ b o, H b = some o → upd H a x b = some o := fun b o e => by
  rw [upd_ne (ne_of_none e h)]; exact e
theorem loop_zip (hh : A.handled = none) (D : ZipApart zz TI TO j1 j2 u1 u2) (hS : ∀ b ∈ [zz, TI, TO, j1, j2], b < S) : ∀ (k n : Nat) (s : Shared) (H : Hp) (ps : List Addr), min xs.length ys.length - n = k → n ≤ min xs.length ys.length → ps.length = n → H S = none →
    Inv X pins σ (upd H S (.lst (ps.map V.ref))) s → (∀ b ∈ [zz, TI, TO, j1, j2], FpOk X pins (upd H S (.lst (ps.map V.ref))) b) → ZSt s.heap zz TI TO j1 j2 u1 u2 n → SqT X.K H u1 xs → SqT X.K H u2 ys →
    (∀ H' ps' s', (∀ b o, H b = some o → H' b = some o) → H' S = none → Pairs H H' ps' (xs.drop n) (ys.drop n) → Inv X pins σ (upd H' S (.lst ((ps ++ ps').map V.ref))) s' → R (.ok (.ret res)) s') →
    codeAny (model X.prog X.w) A (.builtin "list.extend.loop" ⟨[.ref S, .ref zz, res], []⟩) R s := by
  intro k
  induction k with
  | zero =>
    intro n s H ps hk hn hl hHS I hf st hq1 hq2 hR
    obtain ⟨its, rv, p, z1⟩ := I.tuple (hq1.ext (grow_upd hHS))
    obtain ⟨its2, rv2, p2, z2⟩ := I.tuple (hq2.ext (grow_upd hHS))
    have l1 := rv.length
    have l2 := rv2.length
    have last : xs.length ≤ n ∨ ys.length ≤ n := by omega
    have he : its.toArray[n]? = none ∨ its2.toArray[n]? = none := by
      rcases last with q | q
      · exact .inl (by simp; omega)
      · exact .inr (by simp; omega)
    refine codeAny_builtin F.entry_extend_loop ?_
    rw [Around.under_plainId F.plain_extend_loop _]
    show wpAny _ A.in1 (pyNext (.ref zz) >>= _) _ _ s
    refine wpAny_bind (zst_end hh D st p p2 he fun g kp => wpAny_pure ?_)
    refine hR H [] _ (fun _ _ e => e) hHS (.nil ?_) ?_
    · rcases last with q | q
      · exact .inl (List.drop_eq_nil_of_le q)
      · exact .inr (List.drop_eq_nil_of_le q)
    · rw [List.append_nil]
      exact I.turnedL (t' := s.toks) (ch := [zz, TI, TO, j1, j2]) (fun c o hb q => kp c o (fun q' => hb (by simp [q'])) (fun q' => hb (by simp [q'])) (fun q' => hb (by simp [q'])) (fun q' => hb (by simp [q'])) q) hf
  | succ k ih =>
    intro n s H ps hk hn hl hHS I hf st hq1 hq2 hR
    obtain ⟨its, rv, p, z1⟩ := I.tuple (hq1.ext (grow_upd hHS))
    obtain ⟨its2, rv2, p2, z2⟩ := I.tuple (hq2.ext (grow_upd hHS))
    have b1 : n < xs.length := by omega
    have b2 : n < ys.length := by omega
    obtain ⟨u, hu, ru⟩ := rv.get (List.getElem?_eq_getElem b1)
    obtain ⟨v, hv, rw_⟩ := rv2.get (List.getElem?_eq_getElem b2)
    refine codeAny_builtin F.entry_extend_loop ?_
    rw [Around.under_plainId F.plain_extend_loop _]
    show wpAny _ A.in1 (pyNext (.ref zz) >>= _) _ _ s
    refine wpAny_bind (zst_item D st p p2 (x := u) (y := v) (by simpa using hu) (by simpa using hv) fun g st' np kp => ?_)
    have hT0 := I.fresh
    have hTS : s.heap.objs.size ≠ S := fun e => by rw [e, upd_same] at hT0; cases hT0
    have hTH : H s.heap.objs.size = none := by rw [upd_ne hTS] at hT0; exact hT0
    have new : ObjOk X.prog X.w (upd (upd H S (.lst (ps.map V.ref))) s.heap.objs.size (.frz { cls := .type "tuple", data := .seq #[u, v] } (.tup [xs[n], ys[n]]))) g s.heap.objs.size (.frz { cls := .type "tuple", data := .seq #[u, v] } (.tup [xs[n], ys[n]])) :=
      ⟨np, by show 2 ≤ sizeLine; decide, [u, v], .cons ru (.cons rw_ .nil), ⟨_, np, rfl, _, rfl⟩⟩
    have I1 : Inv X pins σ _ { s with heap := g } := I.turnedNew (t' := s.toks) (ch := [zz, TI, TO, j1, j2]) (fun c o hb q => kp c o (fun q' => hb (by simp [q'])) (fun q' => hb (by simp [q'])) (fun q' => hb (by simp [q'])) (fun q' => hb (by simp [q'])) q) hf (Nat.le_refl _) new
    have hH : upd (upd H S (.lst (ps.map V.ref))) s.heap.objs.size (.frz { cls := .type "tuple", data := .seq #[u, v] } (.tup [xs[n], ys[n]])) S = some (.lst (ps.map V.ref)) := by
      rw [upd_ne (Ne.symm hTS), upd_same]
    obtain ⟨_, its3, c3, r3, hl3, e3⟩ := I1.lstM hH
    rw [List.length_map] at hl3
    have I2 := I1.lset (t' := s.toks) (f := fun a => a.push (.ref s.heap.objs.size)) (its' := its3 ++ [.ref s.heap.objs.size]) (ys := ps.map V.ref ++ [V.ref s.heap.objs.size]) hH e3 (by simp) (r3.append (.cons (show L2.RelV (V.ref s.heap.objs.size) (.ref s.heap.objs.size) from rfl) .nil)) (by simp; omega)
    rw [upd_swap (Ne.symm hTS), show ps.map V.ref ++ [V.ref s.heap.objs.size] = (ps ++ [s.heap.objs.size]).map V.ref by simp] at I2
    have gr : ∀ b o, H b = some o → upd H s.heap.objs.size (.frz { cls := .type "tuple", data := .seq #[u, v] } (.tup [xs[n], ys[n]])) b = some o := grow_upd hTH
    have ltS : S < s.heap.objs.size := by
      refine Nat.lt_of_le_of_ne (Nat.le_of_not_lt fun q => ?_) (Ne.symm hTS)
      have := I.hok.fresh (Nat.le_of_lt q)
      rw [upd_same] at this; cases this
    show wpAny _ A.in1 (updateSeq S (·.push (.ref s.heap.objs.size)) >>= _) _ _ _
    refine wpAny_bind (wpAny_updateSeq e3 rfl (wpAny_pure ⟨plainId_quiet F.plain_extend_loop _, ih (n + 1) _ _ (ps ++ [s.heap.objs.size]) (by omega) (by omega) (by simp; omega) ?_ I2 (fun b hb => ?_) ?_ (hq1.ext gr) (hq2.ext gr) fun H' ps' s' g' hs' pr I' => ?_⟩) (by simp; omega) (by show (its3.toArray.push _).size ≤ sizeLine + 1; rw [Array.size_push]; simp; omega))
    · rw [upd_ne (Ne.symm hTS)]; exact hHS
    · have f0 := hf b hb
      have nb : b ≠ S := Nat.ne_of_lt (hS b hb)
      refine ⟨?_, f0.2⟩
      have q := f0.1
      rw [upd_ne nb] at q ⊢
      rw [upd_ne (Nat.ne_of_lt (Nat.lt_trans (hS b hb) ltS))]; exact q
    · refine st'.keep (fun b hb o e => (Heap.get?_update_other _ _ (fun q : S = b => Nat.ne_of_lt (hS b hb) q.symm)).trans e) fun c o e => ?_
      by_cases q : S = c
      · subst q
        exact ⟨_, Heap.get?_update_self _ e3 rfl⟩
      · exact ⟨o, (Heap.get?_update_other _ _ q).trans e⟩
    · refine hR H' (s.heap.objs.size :: ps') s' (fun b o e => g' b o (gr b o e)) hs' ?_ (by simpa using I')
      rw [List.drop_eq_getElem_cons b1, List.drop_eq_getElem_cons b2]
      exact .cons hTH (g' _ _ (upd_same ..)) ⟨rfl, rfl, _, _, rfl⟩ (pr.base gr)
theorem zip_no_len : typeLookup (.type "zip") "__len__" = pure none := am_miss_of_fast (by decide +kernel)
theorem zip_no_hint : typeLookup (.type "zip") "__length_hint__" = pure none := am_miss_of_fast (by decide +kernel)
theorem init_zip {s : Shared} {H : Hp} (hh : A.handled = none) (D : ZipApart zz TI TO j1 j2 u1 u2) (hS : ∀ b ∈ [zz, TI, TO, j1, j2], b < S) (hHS : H S = none) (I : Inv X pins σ (upd H S (.lst [])) s) (hf : ∀ b ∈ [zz, TI, TO, j1, j2], FpOk X pins (upd H S (.lst [])) b)
    (hz : IsZip s.heap zz TI TO .none) (st : ZSt s.heap zz TI TO j1 j2 u1 u2 0) (hq1 : SqT X.K H u1 xs) (hq2 : SqT X.K H u2 ys)
    (hR : ∀ H' ps' s', (∀ b o, H b = some o → H' b = some o) → H' S = none → Pairs H H' ps' xs ys → Inv X pins σ (upd H' S (.lst (ps'.map V.ref))) s' → R (.ok (.ret .none)) s') :
    wpAny (model X.prog X.w) A.in1 (Builtin.«list.__init__» ⟨[.ref S, .ref zz], []⟩)
      (fun fin s' => match fin with | .done f => R (.ok f) s' | .again c' => c'.quiet = true ∧ codeAny (model X.prog X.w) A c' R s') (fun e s' => R (.error e) s') s := by
  have hSz : S ≠ zz := Nat.ne_of_gt (hS zz (by simp))
  show wpAny _ A.in1 (do let old ← Builtin.List.listItems (.ref S); Builtin.List.listUpdate (.ref S) (fun _ => #[]); letGo old.toList.reverse; Builtin.List.listExtendWith (.ref S) (.ref zz) .none) _ _ s
  obtain ⟨_, its, c0, r0, hl0, e0⟩ := I.lstM (upd_same ..)
  cases r0
  refine wpAny_bind ?_
  unfold Builtin.List.listItems
  refine wpAny_bind (wpAny_seqItems e0 rfl (wpAny_pure ?_))
  show wpAny _ A.in1 (updateSeq S (fun _ => #[]) >>= fun _ => letGo (#[] : Array Value).toList.reverse >>= fun _ => Builtin.List.listExtendWith (.ref S) (.ref zz) .none) _ _ s
  have I1 := I.lset (t' := s.toks) (f := fun _ => #[]) (its' := []) (ys := []) (upd_same ..) e0 rfl .nil (Nat.zero_le _)
  rw [upd_twice] at I1
  refine wpAny_bind (wpAny_updateSeq e0 rfl ?_)
  have e1 := Heap.get?_update_self (Obj.mapSeq (fun _ => (#[] : Array Value))) e0 rfl
  refine wpAny_bind (wpAny_letGo ?_)
  have o1 : ∀ b o, b ≠ S → s.heap.get? b = some o → (s.heap.update S (Obj.mapSeq (fun _ => (#[] : Array Value)))).get? b = some o :=
    fun b o hb e => (Heap.get?_update_other _ _ (Ne.symm hb)).trans e
  have hz1 := o1 _ _ (Ne.symm hSz) hz
  generalize hg : s.heap.update S (Obj.mapSeq (fun _ => (#[] : Array Value))) = g at *
  have ty : ({ s with heap := g } : Shared).TypeIs (.ref zz) "zip" := ⟨_, hz1, rfl⟩
  unfold Builtin.List.listExtendWith
  refine wpAny_bind (wpAny_typeOf ty ?_)
  have h1 : Builtin.List.listSameRef (.ref S) (.ref zz) = false := by simp [Builtin.List.listSameRef, hSz]
  have h2 : (Value.type "zip" == Value.type "list") = false := by decide
  have h3 : (Value.type "zip" == Value.type "tuple") = false := by decide
  simp only [h1, h2, h3, Bool.or_false, Bool.false_eq_true, if_false]
  refine wpAny_bind (wpAny_pyIter_zip hz1 ?_)
  refine wpAny_bind (wpAny_holding ?_)
  unfold Builtin.List.listLengthHint
  refine wpAny_bind (wpAny_specialOf ty zip_no_len ?_)
  show wpAny _ A.in1 (specialOf (Value.ref zz) (Str.ofString "__length_hint__") >>= _) _ _ _
  refine wpAny_bind (wpAny_specialOf ty zip_no_hint ?_)
  refine wpAny_pure ?_
  show wpAny _ A.in1 (rule "list.extend.makes-room" >>= fun _ => Builtin.List.listTouch (.ref S) >>= fun _ =>
    again (.builtin "list.extend.loop" ⟨[.ref S, .ref zz, .none], []⟩)) _ _ _
  refine wpAny_bind (wpAny_rule ?_)
  refine wpAny_bind ?_
  show wpAny _ A.in1 (updateSeq S (·.push .none) >>= fun _ => updateSeq S (·.pop)) _ _ _
  have I2 := I1.lset (t' := s.toks) (f := (·.push .none)) (its := []) (its' := [.none]) (ys := [.non]) (upd_same ..) e1 rfl (.cons (show L2.RelV V.non .none from rfl) .nil) (by show 1 ≤ sizeLine; decide)
  rw [upd_twice] at I2
  refine wpAny_bind (wpAny_updateSeq e1 rfl ?_)
  have e2 := Heap.get?_update_self (Obj.mapSeq (·.push Value.none)) e1 rfl
  have I3 := I2.lset (t' := s.toks) (f := (·.pop)) (its := [.none]) (its' := []) (ys := []) (upd_same ..) e2 rfl .nil (Nat.zero_le _)
  rw [upd_twice] at I3
  refine wpAny_updateSeq (hz := by seq_fits) e2 rfl ?_
  have o2 : ∀ b o, b ≠ S → g.get? b = some o → ((g.update S (Obj.mapSeq (·.push Value.none))).update S (Obj.mapSeq (·.pop))).get? b = some o :=
    fun b o hb e => (Heap.get?_update_other _ _ (Ne.symm hb)).trans ((Heap.get?_update_other _ _ (Ne.symm hb)).trans e)
  refine wpAny_pure ⟨plainId_quiet F.plain_extend_loop _, loop_zip hh D hS (min xs.length ys.length) 0 _ H [] rfl (Nat.zero_le _) rfl hHS I3 hf ?_ hq1 hq2 fun H' ps' s' g' hs' pr I' => ?_⟩
  · refine st.keep (fun b hb o e => ?_) fun c o e => ?_
    · have nb : b ≠ S := Nat.ne_of_lt (hS b hb)
      exact o2 b o nb (o1 b o nb e)
    · by_cases q : c = S
      · subst q
        exact ⟨_, Heap.get?_update_self (Obj.mapSeq (·.pop)) e2 rfl⟩
      · exact ⟨o, o2 c o q (o1 c o q e)⟩
  · exact hR H' ps' s' g' hs' pr I'
theorem call_listZip {s : Shared} {H : Hp} {Q : VK} {E : Value → Shared → Prop} (hh : A.handled = none) (D : ZipApart zz TI TO j1 j2 u1 u2) (I : Inv X pins σ H s) (hf : ∀ b ∈ [zz, TI, TO, j1, j2], FpOk X pins H b) (hlt : ∀ b ∈ [zz, TI, TO, j1, j2], b < s.heap.objs.size)
    (hz : IsZip s.heap zz TI TO .none) (st : ZSt s.heap zz TI TO j1 j2 u1 u2 0) (hq1 : SqT X.K H u1 xs) (hq2 : SqT X.K H u2 ys)
    (hQ : ∀ H2 l ps, (∀ b o, H b = some o → H2 b = some o) → H2 l = none → Pairs H H2 ps xs ys → Q (.ref l) (upd H2 l (.lst (ps.map V.ref)))) :
    wpAny (model X.prog X.w) A (call (.type "list") [.ref zz]) (fun v s' => ∃ x H', Inv X pins σ H' s' ∧ L2.RelV x v ∧ Q x H') E s := by
  refine callType_codes (Q₁ := fun obj s₁ => obj = .ref s.heap.objs.size ∧ s₁ = { s with heap := s.heap.push { cls := .type "list", data := .seq #[] } }) F.called_list (F.typeCall_list_1 _) F.entry_list_init
    (code_list_new _ ⟨rfl, rfl⟩) fun obj s₁ h₁ => ?_
  obtain ⟨rfl, rfl⟩ := h₁
  have I1 := I.lnew (t' := s.toks) (ys := []) (its := []) .nil (Nat.zero_le _)
  have pu : ∀ b o, s.heap.get? b = some o → (s.heap.push { cls := .type "list", data := .seq #[] }).get? b = some o := fun b o e => Heap.get?_push_of_some _ e
  refine ⟨⟨_, Heap.get?_push_size _ rfl, rfl⟩, F.args_list_init_2 _ _, init_zip (H := H) (A := A.in1) hh D hlt I.fresh I1 (fun b hb => ?_) (pu _ _ hz) (st.keep (fun b _ o e => pu b o e) fun c o e => ⟨o, pu c o e⟩) hq1 hq2 fun H' ps' s' g' hs' pr I' => ?_⟩
  · refine ⟨?_, (hf b hb).2⟩
    rw [upd_ne (Nat.ne_of_lt (hlt b hb))]; exact (hf b hb).1
  · exact ⟨rfl, .ref s.heap.objs.size, _, I', rfl, hQ H' _ ps' g' hs' pr⟩
end
end Mj
/-! Ml2: list(zip(t, u)) of two tuples. -/
namespace Mj
open PySem PySem.Spec PyProof.Rows L2 RZ
def tLZ (K : PySem.W.Frag) (ta : TA) : TE := fun σ H Q => ta σ H fun vs H1 => ∃ t u xs ys, vs = [.ref t, .ref u] ∧ SqT K H1 t xs ∧ SqT K H1 u ys ∧ ∀ H2 l ps, (∀ b o, H1 b = some o → H2 b = some o) → H2 l = none → Pairs H1 H2 ps xs ys → Q (.ref l) (upd H2 l (.lst (ps.map V.ref)))
theorem pe_listZip {X : Cx} {a b : Expr} {ta : TA} {p p2 pos pos2 : Pos} (hc : X.calm = true) (hl : Gl X "list") (ml : X.mg "list" = none) (hz : Gl X "zip") (mz : X.mg "zip" = none) (ha : PA X [a, b] ta) (hs : starEach [a, b] X.env = (false, eval a X.env) :: starEach [b] X.env) (hpl : (backTo pos2 (starEach [b] X.env)).any (·.1) = false) :
    PE X (.Call (.Name "list" p) [.Call (.Name "zip" p2) [a, b] [] pos2] [] pos) (tLZ X.K ta) := by
  refine ⟨fun pins s σ H Q I h => ?_⟩
  refine Call_ (ld_blt I hl ml boot_list ?_)
  refine PyProof.Rows.callWith_type1 (PyProof.Rows.args_cons ?_ rfl) rfl rfl
  refine Call_ (ld_blt I hz mz PyProof.Rows.boot_zip (PyProof.Rows.callWith_type1 (thn (ha.run pos2 pins s σ H _ I h) fun us s1 ⟨vs, H1, I1, r1, q1⟩ => ?_) hs hpl))
  obtain ⟨t, u, xs, ys, rfl, hqx, hqy, q1⟩ := q1
  cases r1 with
  | cons r rr =>
    cases rr with
    | cons r' rr =>
      cases rr
      cases r
      cases r'
      obtain ⟨its, rv, p1, _⟩ := I1.tuple hqx
      obtain ⟨its2, rv2, p2, _⟩ := I1.tuple hqy
      obtain ⟨o1, ho1, _⟩ := id p1
      obtain ⟨o2, ho2, _⟩ := id p2
      refine call_zipT (show s1.heap.IsTuple t its.toArray from p1) (show s1.heap.IsTuple u its2.toArray from p2) fun h' hz hTI hTO h1 h2 hsz hk => ?_
      refine PyProof.Rows.args_nil ?_
      have I2 : Inv X pins σ H1 { s1 with heap := h' } := I1.kept (t' := s1.toks) hk
      have mem5 : ∀ c, c ∈ [s1.heap.objs.size + 4, s1.heap.objs.size + 2, s1.heap.objs.size + 3, s1.heap.objs.size, s1.heap.objs.size + 1] → s1.heap.objs.size ≤ c ∧ c < h'.objs.size := fun c hcm => by
        have e' : c = s1.heap.objs.size + 4 ∨ c = s1.heap.objs.size + 2 ∨ c = s1.heap.objs.size + 3 ∨ c = s1.heap.objs.size ∨ c = s1.heap.objs.size + 1 := by simpa using hcm
        rw [hsz]
        rcases e' with z | z | z | z | z <;> rw [z] <;> constructor <;> omega
      refine call_listZip (I1.ok.hd hc) (PySem.W.ktu_apart s1.heap.objs.size t u (Heap.lt_size ho1) (Heap.lt_size ho2)) I2 (fun c hcm => I1.fpOk (mem5 c hcm).1 (I1.hok.fresh (mem5 c hcm).1)) (fun c hcm => (mem5 c hcm).2) hz ⟨hTI, h1, h2, .inl ⟨hz, _, _, hTO⟩⟩ hqx hqy q1
section
variable {fa : FB} {W : WX} {X : Cx} {a b : Expr} {f1 f2 : Rho → MH → Rx D} {res β : List Addr} {M : MH} {H H' : Hp}
theorem step_grow (e : ∀ b o, H b = some o → H' b = some o) : Step [] β H β H' := ⟨⟨[], by simp, fun _ h => by cases h⟩, fun a o h _ _ _ => e a o h, fun a h => by
  cases q : H a with
  | none => exact absurd q h
  | some o => rw [e a o q]; simp⟩
theorem Sim.grow (s : Sim fa β res M H) (e : ∀ b o, H b = some o → H' b = some o) : Sim fa β res M H' := by
  have st : Step [] β H β H' := step_grow e
  refine ⟨s.len, s.nd, s.nr, fun a h => st.dom a (s.rt a h), fun a h o q => ?_, s.tabs.ext e, fun p hp => ⟨e _ _ (s.fx p hp).1, (s.fx p hp).2⟩, fun p hp => (s.kn p hp).step st (by simp), fun n a o e1 e2 => ?_⟩
  · cases z : H a with
    | none => exact absurd z (s.rt a h)
    | some o' =>
      have := (e _ _ z).symm.trans q
      cases this
      exact s.rp a h _ z
  · obtain ⟨ho, h1, h2⟩ := s.at_ n a o e1 e2
    exact ⟨ho, e _ _ h1, h2.step st (by simp)⟩
theorem Pairs.reps {ps : List Addr} {xs ys : List V} (S : Sim fa β res M H) (e : ∀ b o, H b = some o → H' b = some o) : ∀ {ps : List Addr} {ds es : List D} {xs ys : List V}, Pairs H H' ps xs ys → Reps fa β res H ds xs → Reps fa β res H es ys → Reps fa β res H' (List.zipWith (fun a b => D.tup [a, b]) ds es) (ps.map V.ref)
  | _, ds, es, _, _, .nil h, r1, r2 => by
    have st : Step [] β H β H' := step_grow e
    rcases h with rfl | rfl
    · cases r1; exact .nil
    · cases r2; cases ds <;> exact .nil
  | _, _, _, _, _, .cons h1 h2 h3 q, .cons a r1, .cons b r2 => by
    have st : Step [] β H β H' := step_grow e
    exact .cons (.tup h2 h3 (S.fresh h1) (fun z => S.rt _ z h1) (.cons (a.step st (by simp)) (.cons (b.step st (by simp)) .nil))) (Pairs.reps (ps := ps) (xs := xs) (ys := ys) S e q r1 r2)
theorem r_listZip {m : Bool} {p p2 pos pos2 : Pos} (hc : X.calm = true) (hl : Gl X "list") (ml : X.mg "list" = none) (hz : Gl X "zip") (mz : X.mg "zip" = none) (ha : PE X a (tE fa W f1)) (hb : PE X b (tE fa W f2)) (pa : plainE a = true) (pb : plainE b = true) :
    PE X (.Call (.Name "list" p) [.Call (.Name "zip" p2) [a, b] [] pos2] [] pos) (tE fa W fun ρ M => (f1 ρ M).bind fun x M1 => (f2 ρ M1).bind fun y M2 => match x, y with
      | .tup xs, .tup ys => up (newL m (List.zipWith (fun a b => .tup [a, b]) xs ys) M2)
      | _, _ => .bad) := by
  refine PE.weak (pe_listZip hc hl ml hz mz (pa_cons ha (pa_cons hb pa_nil (star_plain pb)) (star_plain pa)) (star_plain pa) (star_none (by rw [List.all_cons, pb]; rfl))) fun σ H Q h => ?_
  obtain ⟨res, β, ρ, M, S, R, h⟩ := h
  refine tE.use S R h fun x M1 v H1 β1 s1 S1 R1 r1 h => tE.use S1 R1 h fun y M2 w H2 β2 s2 S2 R2 r2 h => ?_
  have r1' := r1.step s2 (by simp)
  split at h
  · rename_i xs ys _
    obtain ⟨d, M', e, P⟩ := h.leaf
    cases r1' with
    | tup e1 pt nb nr q =>
      cases r2 with
      | tup e2 pt' nb' nr' q' =>
        refine ⟨_, _, _, _, rfl, SqT.ofF e1, SqT.ofF e2, fun H3 l ps ex hl prs => ?_⟩
        have S3 := S2.grow ex
        exact (P.after ((s1.trans s2).trans (step_grow ex))).newL S3 (Pairs.reps (ps := []) (xs := []) (ys := []) S2 ex prs q q') e l hl
  · exact h.elim
end
end Mj
/-! Mj16: every expression of the small syntax runs as it is evaluated. -/
namespace Mj
open PySem PySem.Spec PyProof.Rows L2

theorem Rx.bind_assoc {α β γ : Type} (r : Rx α) (f : α → MH → Rx β) (h : β → MH → Rx γ) : (r.bind f).bind h = r.bind fun a M => (f a M).bind h := by
  cases r <;> rfl
section
variable {g : Cfg} {E : EvC} {fa : FB} {W : WX} {N : List Str} {k : Nat} {m : Md} {sc : Scope} {X : Cx} {e : Expr}
theorem evT_var (i : Nat) : evT (.var i) E = fun ρ M => (ev (.var i) E ρ M).bind truR := by
  funext ρ M
  simp only [evT, ev]
  split <;> rfl
theorem evT_call (i : Nat) (as : Cs) : evT (.call i as) E = fun ρ M => (ev (.call i as) E ρ M).bind truR := by
  funext ρ M
  simp only [evT, ev]
theorem evT_callV (i : Nat) (as : Cs) : evT (.callV i as) E = fun ρ M => (ev (.callV i as) E ρ M).bind truR := by
  funext ρ M
  simp only [evT, ev]
  split
  · rfl
  · rfl
theorem evT_bi (b : Bool) (f : String) (as : Cs) : evT (.bi b f as) E = fun ρ M => (ev (.bi b f as) E ρ M).bind truR := by
  funext ρ M
  simp only [evT, ev]
theorem evT_idx (a i : C) : evT (.idx a i) E = fun ρ M => (ev (.idx a i) E ρ M).bind truR := by
  funext ρ M
  simp only [evT, ev]
theorem evT_isE (t : Bool) (cs : List Nat) : evT (.isE t cs) E = fun ρ M => (ev (.isE t cs) E ρ M).bind truR := by
  funext ρ M
  simp only [evT, ev]
  cases E.cur <;> rfl
def Cs.len : Cs → Nat
  | .nil => 0
  | .cons _ r => Cs.len r + 1
theorem evs_len : ∀ (cs : Cs) {ρ : Rho} {M : MH} {ds : List D} {M' : MH}, evs cs E ρ M = .ok ds M' → ds.length = cs.len
  | .nil, ρ, M, ds, M', h => by cases h; rfl
  | .cons c r, ρ, M, ds, M', h => by
    simp only [evs] at h
    obtain ⟨d, M1, _, h⟩ := Rx.bind_ok h
    obtain ⟨ds', M2, h2, h⟩ := Rx.bind_ok h
    cases h
    simp [Cs.len, evs_len r h2]
theorem mEs_len : ∀ (cs : Cs) (es : List Expr), mEs g N m sc cs es = true → cs.len = es.length
  | .nil, es, h => by
    cases es with
    | nil => rfl
    | cons _ _ => simp [mEs] at h
  | .cons c r, es, h => by
    cases es with
    | nil => simp [mEs] at h
    | cons e es =>
      simp only [mEs, Bool.and_eq_true] at h
      simp [Cs.len, mEs_len r es h.2]
theorem mKs_len : ∀ (cs : Cs) (es : List Keyword), mKs g N m sc cs es = true → cs.len = es.length
  | .nil, es, h => by
    cases es with
    | nil => rfl
    | cons _ _ => simp [mKs] at h
  | .cons c r, es, h => by
    unfold mKs at h
    split at h
    · simp only [Bool.and_eq_true] at h
      simp [Cs.len, mKs_len r _ h.2]
    · cases h
theorem kw_len : ∀ {kwl : List Keyword} {ks : List Str}, kwNames kwl = some ks → kwl.length = ks.length
  | [], ks, h => by cases h; rfl
  | ⟨none, _, _⟩ :: r, ks, h => by cases h
  | ⟨some y, _, _⟩ :: r, ks, h => by
    simp only [kwNames, Option.map_eq_some_iff] at h
    obtain ⟨ks', h1, rfl⟩ := h
    simp [kw_len h1]
theorem kw_names {env : Env} {pos : Pos} : ∀ {kwl : List Keyword} {ks : List Str}, kwNames kwl = some ks → (backToKw pos (keywordEach kwl env)).all (·.1.isSome) = true ∧ (backToKw pos (keywordEach kwl env)).filterMap (·.1) = ks ∧ (backToKw pos (keywordEach kwl env)).any (·.1.isNone) = false
  | [], ks, h => by cases h; exact ⟨rfl, rfl, rfl⟩
  | ⟨none, _, _⟩ :: r, ks, h => by cases h
  | ⟨some y, v, p⟩ :: r, ks, h => by
    simp only [kwNames, Option.map_eq_some_iff] at h
    obtain ⟨ks', h1, rfl⟩ := h
    obtain ⟨k1, k2, k3⟩ := kw_names (env := env) (pos := pos) h1
    refine ⟨?_, ?_, ?_⟩
    · show ((some y).isSome && (backToKw pos (keywordEach r env)).all (·.1.isSome)) = true
      rw [k1]; rfl
    · show y :: (backToKw pos (keywordEach r env)).filterMap (·.1) = y :: ks'
      rw [k2]
    · show ((some y).isNone || (backToKw pos (keywordEach r env)).any (·.1.isNone)) = false
      rw [k3]; rfl
theorem k_nil : PK X [] (tL fa W fun _ M => .ok [] M) := ⟨fun pos pins s σ H Q I h => by
  obtain ⟨res, β, ρ, M, S, R, h⟩ := h
  exact pk_nil.run pos pins s σ H Q I (h [] H β Step.refl S .nil)⟩
theorem k_cons {y : Str} {a : Expr} {kp : Pos} {ks : List Keyword} {f1 : Rho → MH → Rx D} {g1 : Rho → MH → Rx (List D)} (ha : PE X a (tE fa W f1)) (hr : PK X ks (tL fa W g1)) : PK X (⟨some y, a, kp⟩ :: ks) (tL fa W fun ρ M => (f1 ρ M).bind fun d M1 => (g1 ρ M1).bind fun ds M2 => .ok (d :: ds) M2) := ⟨fun pos pins s σ H Q I h => by
  refine (pk_cons ha hr).run pos pins s σ H Q I ?_
  obtain ⟨res, β, ρ, M, S, R, h⟩ := h
  exact tE.use S R h fun x M1 v H1 β1 s1 S1 R1 r1 h => tL.use S1 R1 h fun y M2 w H2 β2 s2 S2 R2 r2 h => h _ H2 β2 (s1.trans s2) S2 (.cons (r1.step s2 (by simp)) r2)⟩
/-- the body of a lambda -/
theorem GoodX.lamG {scope : Scope} (h : GoodX g E fa W N k m sc X) (hm : m.n = 0) (hl : LamX.lamSB sc scope = true) (E' : XK) (A : Around) (outer : List Env) (s : Shared) (H : Hp) (f c' : Addr) (gd : A.guards = X.A.guards) (room : Room k (A.deeper (LamX.lamEnv X scope s.heap.objs.size f c'))) : GoodX g E.bare fa (fun c d _ H => E' c d H) N k ⟨3, none, none⟩ scope (LamX.lamCx X A outer s H E' scope f c') where
  hN := h.hN
  hK := h.hK
  nd := h.nd
  un := by
    have := room.un
    show (A.deeper (LamX.lamEnv X scope s.heap.objs.size f c')).units + 65 < cLine
    omega
  gd := gd.trans h.gd
  tk := takes_of rfl rfl rfl rfl
  pass := passes_of rfl
  calm := fun _ => ⟨rfl, room⟩
  hot := fun z => by cases z
  bare := fun _ => h.bare (.inl hm)
  vis := fun x hx => by
    show Vis scope x
    unfold visB at hx
    split at hx
    · rename_i q; exact .inl q
    · rename_i q; exact .inr (.inl q)
    · rename_i q; exact .inr (.inr q)
    · cases hx
  gl := fun x q => q
  loc := fun x q => q
  cel := fun x q => absurd rfl ((LamX.lamS_by hl).own _ (PySem.mem_of_lookup q)).2
  fre := fun x q => .inr q
  G := h.G
  lam := fun z => by cases z
  ask := fun _ z => by cases z
  cur := fun _ z => by cases z
  fixN := fun p hp => by
    rw [h.bare (.inl hm)] at hp
    cases hp
theorem mEs_plain : ∀ (cs : Cs) (es : List Expr), mEs g N m sc cs es = true → es.all plainE = true
  | .nil, es, h => by
    simp only [mEs] at h
    cases es with
    | nil => rfl
    | cons _ _ => cases h
  | .cons c r, es, h => by
    cases es with
    | nil => simp [mEs] at h
    | cons e es =>
      simp only [mEs, Bool.and_eq_true] at h
      rw [List.all_cons, h.1.1, mEs_plain r es h.2]
      rfl
theorem mEs_nil {cs : Cs} (h : mEs g N m sc cs [] = true) : cs = .nil := by
  cases cs with
  | nil => rfl
  | cons c r => simp [mEs] at h
theorem mD_len : ∀ (cs : Cs) (ks : List Str) (keys : List (Option Expr)) (values : List Expr), mD g N m sc ks cs keys values = true → keys.all (·.isSome) = true ∧ keys.length = values.length
  | .nil, ks, keys, values, h => by
    simp only [mD, Bool.and_eq_true, List.isEmpty_iff] at h
    obtain ⟨⟨_, h1⟩, h2⟩ := h
    subst h1 h2
    exact ⟨rfl, rfl⟩
  | .cons c r, ks, keys, values, h => by
    unfold mD at h
    split at h
    · simp only [Bool.and_eq_true] at h
      obtain ⟨h1, h2⟩ := mD_len r _ _ _ h.2
      exact ⟨by rw [List.all_cons, h1]; rfl, by simp [h2]⟩
    · cases h
theorem call_of {i : Nat} {as : Cs} {xs : List Expr} {x : Str} {p pos : Pos} (G : GoodX g E fa W N k m sc X) (h0 : m.n ≠ 2) (h1 : g.fnm[i]? = some x) (h2 : glB sc x = true) (h3 : okName x = true) (h4 : mEs g N m sc as xs = true) (ha : PA X xs (tL fa W (evs as E))) : PE X (.Call (.Name x p) xs [] pos) (tE fa W (ev (.call i as) E)) := by
  cases xs with
  | nil =>
    have := mEs_nil h4
    subst this
    exact r_call0 (cl := fun ds M => E.cl i ds none M) (G.G.fnG i).1 (G.calm h0).2 G.gd G.tk (G.gl x (glB_is h2)) (G.G.fns i x h1) (G.G.fnG i).2 (okName_d h3).1
  | cons y ys =>
    have pl := mEs_plain as (y :: ys) h4
    rw [List.all_cons, Bool.and_eq_true] at pl
    exact r_call (cl := fun ds M => E.cl i ds none M) (G.G.fnG i).1 (G.calm h0).2 G.gd G.tk (G.gl x (glB_is h2)) (G.G.fns i x h1) (G.G.fnG i).2 ha (okName_d h3).1 (star_plain pl.1) (star_none pl.2)
theorem callV_of {i : Nat} {as : Cs} {xs : List Expr} {x : Str} {p pos : Pos} (G : GoodX g E fa W N k m sc X) (h0 : m.n ≠ 2) (h1 : N[i]? = some x) (h2 : visB sc x = true) (h3 : okName x = true) (h4 : mEs g N m sc as xs = true) (h5 : (!xs.isEmpty) = true) (ha : PA X xs (tL fa W (evs as E))) : PE X (.Call (.Name x p) xs [] pos) (tE fa W (ev (.callV i as) E)) := by
  cases xs with
  | nil => simp at h5
  | cons y ys =>
    have pl := mEs_plain as (y :: ys) h4
    rw [List.all_cons, Bool.and_eq_true] at pl
    exact r_callV (cl := fun j ds M => E.cl j ds none M) (by rw [G.hN]; exact h1) (G.vis x h2) (okName_d h3).1 (okName_d h3).2 (G.calm h0).2 G.gd G.tk (fun j => ⟨_, (G.G.fnG j).1, (G.G.fnG j).2⟩) ha (star_plain pl.1) (star_none pl.2)
theorem bi_of {b : Bool} {f : String} {as : Cs} {xs : List Expr} {x : Str} {p pos : Pos} (G : GoodX g E fa W N k m sc X) (h1 : (x == Str.ofString f) = true) (h2 : f ∈ biHot ∨ (f ∈ biCalm ∧ m.n ≠ 2)) (h3 : x ∈ g.bis) (h4 : glB sc x = true) (h5 : mEs g N m sc as xs = true) (h6 : (!xs.isEmpty) = true) (ha : PA X xs (tL fa W (evs as E))) : PE X (.Call (.Name x p) xs [] pos) (tE fa W (ev (.bi b f as) E)) := by
  cases xs with
  | nil => simp at h6
  | cons y ys =>
    have pl := mEs_plain as (y :: ys) h5
    rw [List.all_cons, Bool.and_eq_true] at pl
    exact r_bi (h2.imp id fun ⟨u, v⟩ => ⟨u, (G.calm v).1⟩) (eq_of_beq h1) G.gd G.un (G.gl x (glB_is h4)) (G.G.bis x h3) ha (star_plain pl.1) (star_none pl.2)
end
section
variable {g : Cfg} {N : List Str} {k : Nat}
mutual
theorem simE : ∀ (E : EvC) (fa : FB) (W : WX) (m : Md) (c : C) (e : Expr) (sc : Scope) (X : Cx), GoodX g E fa W N k m sc X → mE g N m sc c e = true → PE X e (tE fa W (ev c E))
  | E, fa, W, m, .var i, e, sc, X, G, h => by
    cases e with
    | Name x pos =>
      simp only [mE, Bool.and_eq_true, decide_eq_true_eq] at h
      obtain ⟨⟨h1, h2⟩, h3⟩ := h
      exact r_var (by rw [G.hN]; exact h1) (G.vis x h2) (okName_d h3).1 (okName_d h3).2
    | _ => simp [mE] at h
  | E, fa, W, m, .const d, e, sc, X, G, h => by
    cases e with
    | Constant c n pos =>
      simp only [mE] at h
      unfold constM at h
      split at h
      · exact r_C pe_non fun _ _ _ => .non
      · rw [← eq_of_beq h]; exact r_C pe_bl fun _ _ _ => .bl _
      · rw [← eq_of_beq h]; exact r_C pe_int fun _ _ _ => .int _
      · rw [← eq_of_beq h]; exact r_C pe_str fun _ _ _ => .str _
      · cases h
    | _ => simp [mE] at h
  | E, fa, W, m, .glob x d, e, sc, X, G, h => by
    cases e with
    | Name y pos =>
      simp only [mE, Bool.and_eq_true, List.any_eq_true] at h
      obtain ⟨⟨⟨h1, h2⟩, h3⟩, p, hp, h4, h5⟩ := h
      have e1 : y = x := eq_of_beq h1
      have e2 : p.1 = x := eq_of_beq h4
      have e3 : p.2 = d := sameD_eq h5
      subst e1
      have hg : Gl X y := G.gl y (glB_is h2)
      have ok := G.G.gls p hp
      rw [e2, e3] at ok
      cases d with
      | int i => obtain ⟨t, ok⟩ := ok; exact r_C (pe_glob hg ok (v := .int i) ⟨_, rfl⟩ (okName_d h3).1) fun _ _ _ => .int _
      | str i => obtain ⟨t, ok⟩ := ok; exact r_C (pe_glob hg ok (v := .str i) ⟨_, rfl⟩ (okName_d h3).1) fun _ _ _ => .str _
      | fn i => exact r_C (pe_glob hg ok (v := .ref (fa i)) rfl (okName_d h3).1) fun _ _ _ => .fn _
      | ty t => obtain ⟨k1, k2, k3⟩ := ok; exact r_C (pe_bltn hg k1 k2 (v := .ty t) rfl k3 (okName_d h3).1) fun _ _ _ => .ty _
      | _ => exact ok.elim
    | _ => simp [mE] at h
  | E, fa, W, m, .bin mb o a b, e, sc, X, G, h => by
    cases e with
    | BinOp x o' y pos =>
      simp only [mE, Bool.and_eq_true, decide_eq_true_eq] at h
      obtain ⟨⟨h1, h2⟩, h3⟩ := h
      subst h1
      exact r_bin (simE _ _ _ _ a x sc X G h2) (simE _ _ _ _ b y sc X G h3)
    | _ => simp [mE] at h
  | E, fa, W, m, .neg a, e, sc, X, G, h => by
    cases e with
    | UnaryOp o x pos =>
      cases o with
      | USub => exact r_neg (simE _ _ _ _ a x sc X G (by simpa only [mE] using h))
      | _ => simp [mE] at h
    | _ => simp [mE] at h
  | E, fa, W, m, .not a, e, sc, X, G, h => by
    cases e with
    | UnaryOp o x pos =>
      cases o with
      | Not => exact r_not (simE _ _ _ _ a x sc X G (by simpa only [mE] using h))
      | _ => simp [mE] at h
    | _ => simp [mE] at h
  | E, fa, W, m, .and as, e, sc, X, G, h => by
    cases e with
    | BoolOp o xs pos =>
      cases o with
      | And => exact simAnd _ _ _ _ as xs pos sc X G (by simpa only [mE] using h)
      | _ => simp [mE] at h
    | _ => simp [mE] at h
  | E, fa, W, m, .or as, e, sc, X, G, h => by
    cases e with
    | BoolOp o xs pos =>
      cases o with
      | Or => exact simOr _ _ _ _ as xs pos sc X G (by simpa only [mE] using h)
      | _ => simp [mE] at h
    | _ => simp [mE] at h
  | E, fa, W, m, .cmp o a b, e, sc, X, G, h => by
    cases e with
    | Compare x ops ys pos =>
      unfold mE at h
      split at h
      · rename_i heq
        cases heq
        simp only [Bool.and_eq_true, decide_eq_true_eq, Bool.not_eq_true'] at h
        obtain ⟨⟨⟨h1, h2⟩, h3⟩, h4⟩ := h
        subst h1
        exact r_cmp G.un G.hK (simE _ _ _ _ a _ sc X G h2) (simE _ _ _ _ b _ sc X G h3) h4
      · cases h
    | _ => simp [mE] at h
  | E, fa, W, m, .chain o o' a b c, e, sc, X, G, h => by
    cases e with
    | Compare x ops ys pos =>
      unfold mE at h
      split at h
      · rename_i heq
        cases heq
        simp only [Bool.and_eq_true, decide_eq_true_eq, Bool.not_eq_true'] at h
        obtain ⟨⟨⟨⟨⟨h1, h1'⟩, h2⟩, h3⟩, h4⟩, h5⟩ := h
        subst h1 h1'
        exact r_chain G.un G.hK (simE _ _ _ _ a _ sc X G h2) (simE _ _ _ _ b _ sc X G h3) (simE _ _ _ _ c _ sc X G h4) h5
      · cases h
    | _ => simp [mE] at h
  | E, fa, W, m, .ife c a b, e, sc, X, G, h => by
    cases e with
    | IfExp z x y pos =>
      simp only [mE, Bool.and_eq_true] at h
      exact r_ife (simT _ _ _ _ c z sc X G h.1.1) (simE _ _ _ _ a x sc X G h.1.2) (simE _ _ _ _ b y sc X G h.2)
    | _ => simp [mE] at h
  | E, fa, W, m, .tup es, e, sc, X, G, h => by
    cases e with
    | Tuple xs n pos => exact r_tup (sims _ _ _ _ es xs sc X G (by simpa only [mE] using h))
    | _ => simp [mE] at h
  | E, fa, W, m, .lst mb es, e, sc, X, G, h => by
    cases e with
    | List xs pos => exact r_lst (sims _ _ _ _ es xs sc X G (by simpa only [mE] using h))
    | _ => simp [mE] at h
  | E, fa, W, m, .dict ks vs, e, sc, X, G, h => by
    cases e with
    | Dict keys values pos =>
      simp only [mE, Bool.and_eq_true, decide_eq_true_eq, Bool.not_eq_true', List.isEmpty_eq_false_iff] at h
      obtain ⟨⟨h1, h2⟩, h3⟩ := h
      obtain ⟨l1, l2⟩ := mD_len vs ks keys values h1
      exact r_dict (simD _ _ _ _ vs ks keys values pos sc X G h1) l1 l2 h2 h3
    | _ => simp [mE] at h
  | E, fa, W, m, .idx a i, e, sc, X, G, h => by
    cases e with
    | Subscript x y pos =>
      simp only [mE, Bool.and_eq_true] at h
      exact r_idx G.un (simE _ _ _ _ a x sc X G h.1.1) (simE _ _ _ _ i y sc X G h.1.2) (plainIx_of h.2)
    | _ => simp [mE] at h
  | E, fa, W, m, .slice mb a lo hi, e, sc, X, G, h => by
    unfold mE at h
    split at h
    · simp only [Bool.and_eq_true] at h
      exact r_slice G.hK (simE _ _ _ _ a _ sc X G h.1.1) (simO _ _ _ _ lo _ sc X G h.1.2) (simO _ _ _ _ hi _ sc X G h.2)
    · cases h
  | E, fa, W, m, .revT a, e, sc, X, G, h => by
    unfold mE at h
    split at h
    · simp only [Bool.and_eq_true] at h
      rw [eq_of_beq h.2]
      exact r_revT (simE _ _ _ _ a _ sc X G h.1)
    · cases h
  | E, fa, W, m, .stepL mb a lo n, e, sc, X, G, h => by
    unfold mE at h
    split at h
    · simp only [Bool.and_eq_true] at h
      obtain ⟨⟨⟨h1, h2⟩, h3⟩, h4⟩ := h
      rw [eq_of_beq h3]
      exact r_stepL (simE _ _ _ _ a _ sc X G h1) (simE _ _ _ _ lo _ sc X G h2) (by simpa using h4)
    · cases h
  | E, fa, W, m, .call i as, e, sc, X, G, h => by
    unfold mE at h
    split at h
    · rename_i x p xs pos
      simp only [Bool.and_eq_true, decide_eq_true_eq] at h
      obtain ⟨⟨⟨⟨h0, h1⟩, h2⟩, h3⟩, h4⟩ := h
      exact call_of G h0 h1 h2 h3 h4 (sims _ _ _ _ as xs sc X G h4)
    · cases h
  | E, fa, W, m, .callV i as, e, sc, X, G, h => by
    unfold mE at h
    split at h
    · rename_i x p xs pos
      simp only [Bool.and_eq_true, decide_eq_true_eq] at h
      obtain ⟨⟨⟨⟨⟨h0, h1⟩, h2⟩, h3⟩, h4⟩, h5⟩ := h
      exact callV_of G h0 h1 h2 h3 h4 h5 (sims _ _ _ _ as xs sc X G h4)
    · cases h
  | E, fa, W, m, .callW i ks perm as, e, sc, X, G, h => by
    unfold mE at h
    split at h
    · rename_i x p kwl pos
      simp only [Bool.and_eq_true, decide_eq_true_eq, Bool.not_eq_true', List.isEmpty_eq_false_iff, List.any_eq_true] at h
      obtain ⟨⟨⟨⟨⟨⟨⟨h0, h1⟩, h2⟩, h3⟩, h4⟩, h5⟩, q, hq, h6⟩, h7⟩ := h
      subst h6
      obtain ⟨k1, k2, k3⟩ := kw_names (env := X.env) (pos := pos) h5
      exact r_callW (G.G.fnG i).1 hq (G.calm h0).2 G.gd G.tk (G.gl x (glB_is h2)) (G.G.fns i x h1) (G.G.fnG i).2 (simKs _ _ _ _ as kwl sc X G h7) (fun ρ M ds M' e => (evs_len as e).trans ((mKs_len as kwl h7).trans (kw_len h5))) h4 k1 k2 k3 (okName_d h3).1
    · cases h
  | E, fa, W, m, .bi b f as, e, sc, X, G, h => by
    unfold mE at h
    split at h
    · rename_i x p xs pos
      simp only [Bool.and_eq_true, Bool.or_eq_true, List.contains_iff_mem, decide_eq_true_eq] at h
      obtain ⟨⟨⟨⟨⟨h1, h2⟩, h3⟩, h4⟩, h5⟩, h6⟩ := h
      exact bi_of G h1 h2 h3 h4 h5 h6 (sims _ _ _ _ as xs sc X G h5)
    · cases h
  | E, fa, W, m, .meth f o as, e, sc, X, G, h => by
    unfold mE at h
    split at h
    · rename_i y x ap xs cp
      simp only [Bool.and_eq_true] at h
      obtain ⟨⟨⟨⟨⟨h1, h2⟩, h3⟩, h4⟩, h5⟩, h6⟩ := h
      have ho := simE _ _ _ _ o y sc X G h2
      have ha := sims _ _ _ _ as xs sc X G h5
      split at h6
      · rename_i hxs
        have hxs : xs = [] := by simpa using hxs
        subst hxs
        have := mEs_nil h5
        subst this
        simp only [Bool.or_eq_true, beq_iff_eq] at h6
        rcases h6 with rfl | rfl
        · exact r_upper (eq_of_beq h1) ho (base_of h3) h4
        · exact r_pop0 (eq_of_beq h1) ho (base_of h3) h4
      · rename_i hxs
        cases xs with
        | nil => simp at hxs
        | cons z zs =>
          have pl := mEs_plain as (z :: zs) h5
          have pl' := pl
          rw [List.all_cons, Bool.and_eq_true] at pl
          have few : (z :: zs).length < 29 → ((backTo cp (starEach (z :: zs) X.env)).all (fun x => !x.1) && (backToKw cp (keywordEach [] X.env)).all (fun x => x.1.isSome) && decide ((z :: zs).length + ([] : List Keyword).length + (if ([] : List Keyword).isEmpty then 0 else 1) < 30)) = true := by
            intro hl
            rw [star_all pl']
            have : (z :: zs).length + ([] : List Keyword).length + (if ([] : List Keyword).isEmpty then 0 else 1) < 30 := by
              show (z :: zs).length + 0 + 0 < 30
              omega
            rw [decide_eq_true this]
            rfl
          split at h6
          · rename_i hf
            subst hf
            rw [decide_eq_true_eq] at h6
            rw [eq_of_beq h1]
            have base : attributeBase y (Str.ofString "get") X.env (eval y X.env) = eval y X.env := base_of h3
            cases as with
            | nil => simp [mEs] at h5
            | cons c1 r1 =>
              simp only [mEs, Bool.and_eq_true] at h5
              cases zs with
              | nil =>
                have := mEs_nil h5.2
                subst this
                exact r_get1 G.un ho (simE _ _ _ _ c1 z sc X G h5.1.2) ⟨base, few (by simp), h4, by rw [star_plain pl.1]; rfl⟩
              | cons z2 zs =>
                cases zs with
                | nil =>
                  cases r1 with
                  | nil => simp [mEs] at h5
                  | cons c2 r2 =>
                    have h5' := h5.2
                    simp only [mEs, Bool.and_eq_true] at h5'
                    have h5r : mEs g N m sc r2 [] = true := h5'.2
                    have := mEs_nil h5r
                    subst this
                    exact r_get2 G.un ho (simE _ _ _ _ c1 z sc X G h5.1.2) (simE _ _ _ _ c2 z2 sc X G h5'.1.2) ⟨base, few (by simp), h4, by rw [star_plain pl.1, star_plain h5'.1.1]; rfl⟩
                | cons _ _ => simp at h6
          · simp only [Bool.and_eq_true, List.contains_iff_mem, decide_eq_true_eq] at h6
            obtain ⟨hf, hl⟩ := h6
            refine r_meth (by simpa using hf) (eq_of_beq h1) G.un ho ha (base_of h3) (fun ρ M ds M' e z => ?_) (few hl) h4 (star_plain pl.1) (star_none pl.2)
            have e1 := evs_len as e
            rw [z, mEs_len as _ h5] at e1
            cases e1
    · cases h
  | E, fa, W, m, .comp b elt tg it ifs, e, sc, X, G, h => by
    unfold mE at h
    split at h
    · rename_i el t iter is a scope pos
      simp only [Bool.and_eq_true, Bool.or_eq_true, decide_eq_true_eq] at h
      obtain ⟨⟨⟨⟨⟨⟨⟨hm, h0⟩, h1⟩, h2⟩, h3⟩, h4⟩, h5⟩, h6⟩ := h
      rw [eq_of_beq h0]
      have n2 : m.n ≠ 2 := by rcases hm with z | z <;> rw [z] <;> decide
      exact r_comp (by rw [G.bare hm]; rfl) (G.calm n2).1 (by rw [G.hN]; exact G.nd) (simI _ _ _ _ it t iter sc X G h2) (G.blkOk h5) (ownOf_snd N tg) (fun s H C cs fp => (G.blk hm s H C cs fp).pg (G.calm n2).1 tg t h1) (fun s H C cs fp => simIf _ _ _ _ ifs is scope _ (G.blk hm s H C cs fp) h3) (fun s H C cs fp => simE _ _ _ _ elt el scope _ (G.blk hm s H C cs fp) h4) (noFold h6)
    · cases h
  | E, fa, W, m, .lamcall j body, e, sc, X, G, h => by
    unfold mE at h
    split at h
    · rename_i x p params b scope lp pos
      simp only [Bool.and_eq_true, decide_eq_true_eq] at h
      obtain ⟨⟨⟨⟨⟨⟨⟨hm, h1⟩, h2⟩, h3⟩, h4⟩, h5⟩, h6⟩, h7⟩ := h
      obtain ⟨a, ha⟩ := Option.isSome_iff_exists.mp h4
      exact r_lam (fb := ev body E.bare) G hm h1 h2 h3 ha h5 h6 fun E' A outer s H f c' gd room => simE _ _ _ _ body b scope _ (G.lamG hm h6 E' A outer s H f c' gd room) h7
    · cases h
  | E, fa, W, m, .listZip b u v, e, sc, X, G, h => by
    unfold mE at h
    split at h
    · rename_i x p y p2 a1 a2 pos2 pos
      simp only [Bool.and_eq_true, decide_eq_true_eq, List.contains_iff_mem] at h
      obtain ⟨⟨⟨⟨⟨⟨⟨⟨⟨⟨h1, h2⟩, h3⟩, h4⟩, h5⟩, h6⟩, h7⟩, h8⟩, h9⟩, h10⟩, h11⟩ := h
      rw [eq_of_beq h1, eq_of_beq h2]
      exact r_listZip (G.calm h3).1 (G.gl _ (glB_is h6)) (G.G.bis _ h4) (G.gl _ (glB_is h7)) (G.G.bis _ h5) (simE _ _ _ _ u _ sc X G h10) (simE _ _ _ _ v _ sc X G h11) h8 h9
    · cases h
  | E, fa, W, m, .ask, e, sc, X, G, h => by
    unfold mE at h
    split at h
    · rename_i x p pos
      simp only [Bool.and_eq_true, decide_eq_true_eq] at h
      exact G.ask x h.1 h.2 W X.pn X.xe G.tk _ _
    · cases h
  | E, fa, W, m, .isE t cs, e, sc, X, G, h => by
    unfold mE at h
    split at h
    · simp only [Bool.and_eq_true, decide_eq_true_eq, List.contains_iff_mem] at h
      obtain ⟨⟨⟨⟨⟨h1, h2⟩, h3⟩, h4⟩, h5⟩, h6⟩ := h
      exact r_isE G (eq_of_beq h1) h2 h3 h4 h5 h6
    · cases h
  | E, fa, W, m, .fldE f, e, sc, X, G, h => by
    unfold mE at h
    split at h
    · simp only [Bool.and_eq_true, decide_eq_true_eq, List.contains_iff_mem] at h
      obtain ⟨⟨⟨h1, h2⟩, h3⟩, h4⟩ := h
      exact r_fldE G (eq_of_beq h1) h2 h3 h4
    · cases h
theorem simT : ∀ (E : EvC) (fa : FB) (W : WX) (m : Md) (c : C) (e : Expr) (sc : Scope) (X : Cx), GoodX g E fa W N k m sc X → mE g N m sc c e = true → PT X e (tB fa W (evT c E))
  | E, fa, W, m, .var i, e, sc, X, G, h => by
    rw [evT_var]
    cases e with
    | Name x pos =>
      simp only [mE, Bool.and_eq_true, decide_eq_true_eq] at h
      obtain ⟨⟨h1, h2⟩, h3⟩ := h
      exact t_truth (r_var (by rw [G.hN]; exact h1) (G.vis x h2) (okName_d h3).1 (okName_d h3).2) fun _ => rfl
    | _ => simp [mE] at h
  | E, fa, W, m, .not a, e, sc, X, G, h => by
    cases e with
    | UnaryOp o x pos =>
      cases o with
      | Not => exact t_not (simT _ _ _ _ a x sc X G (by simpa only [mE] using h))
      | _ => simp [mE] at h
    | _ => simp [mE] at h
  | E, fa, W, m, .and as, e, sc, X, G, h => by
    cases e with
    | BoolOp o xs pos =>
      cases o with
      | And => exact (simAndT _ _ _ _ as xs pos sc X G (by simpa only [mE] using h)).pt
      | _ => simp [mE] at h
    | _ => simp [mE] at h
  | E, fa, W, m, .or as, e, sc, X, G, h => by
    cases e with
    | BoolOp o xs pos =>
      cases o with
      | Or => exact (simOrT _ _ _ _ as xs pos sc X G (by simpa only [mE] using h)).pt
      | _ => simp [mE] at h
    | _ => simp [mE] at h
  | E, fa, W, m, .cmp o a b, e, sc, X, G, h => by
    cases e with
    | Compare x ops ys pos =>
      unfold mE at h
      split at h
      · rename_i heq
        cases heq
        simp only [Bool.and_eq_true, decide_eq_true_eq, Bool.not_eq_true'] at h
        obtain ⟨⟨⟨h1, h2⟩, h3⟩, h4⟩ := h
        subst h1
        exact t_cmp G.un G.hK (simE _ _ _ _ a _ sc X G h2) (simE _ _ _ _ b _ sc X G h3) h4
      · cases h
    | _ => simp [mE] at h
  | E, fa, W, m, .chain o o' a b c, e, sc, X, G, h => by
    cases e with
    | Compare x ops ys pos =>
      unfold mE at h
      split at h
      · rename_i heq
        cases heq
        simp only [Bool.and_eq_true, decide_eq_true_eq, Bool.not_eq_true'] at h
        obtain ⟨⟨⟨⟨⟨h1, h1'⟩, h2⟩, h3⟩, h4⟩, h5⟩ := h
        subst h1 h1'
        exact t_chain G.un G.hK (simE _ _ _ _ a _ sc X G h2) (simE _ _ _ _ b _ sc X G h3) (simE _ _ _ _ c _ sc X G h4) h5
      · cases h
    | _ => simp [mE] at h
  | E, fa, W, m, .idx a i, e, sc, X, G, h => by
    rw [evT_idx]
    cases e with
    | Subscript x y pos =>
      simp only [mE, Bool.and_eq_true] at h
      exact t_truth (r_idx G.un (simE _ _ _ _ a x sc X G h.1.1) (simE _ _ _ _ i y sc X G h.1.2) (plainIx_of h.2)) fun _ => rfl
    | _ => simp [mE] at h
  | E, fa, W, m, .call i as, e, sc, X, G, h => by
    rw [evT_call]
    have q := simE E fa W m (.call i as) e sc X G h
    unfold mE at h
    split at h
    · exact t_truth q fun _ => rfl
    · cases h
  | E, fa, W, m, .callV i as, e, sc, X, G, h => by
    rw [evT_callV]
    have q := simE E fa W m (.callV i as) e sc X G h
    unfold mE at h
    split at h
    · exact t_truth q fun _ => rfl
    · cases h
  | E, fa, W, m, .bi b f as, e, sc, X, G, h => by
    rw [evT_bi]
    have q := simE E fa W m (.bi b f as) e sc X G h
    unfold mE at h
    split at h
    · exact t_truth q fun _ => rfl
    · cases h
  | E, fa, W, m, .isE t cs, e, sc, X, G, h => by
    rw [evT_isE]
    have q := simE E fa W m (.isE t cs) e sc X G h
    unfold mE at h
    split at h
    · exact t_truth q fun _ => rfl
    · cases h
  | _, _, _, _, .const _, _, _, _, _, _ => t_bad
  | _, _, _, _, .glob _ _, _, _, _, _, _ => t_bad
  | _, _, _, _, .bin _ _ _ _, _, _, _, _, _ => t_bad
  | _, _, _, _, .neg _, _, _, _, _, _ => t_bad
  | _, _, _, _, .ife _ _ _, _, _, _, _, _ => t_bad
  | _, _, _, _, .tup _, _, _, _, _, _ => t_bad
  | _, _, _, _, .lst _ _, _, _, _, _, _ => t_bad
  | _, _, _, _, .dict _ _, _, _, _, _, _ => t_bad
  | _, _, _, _, .slice _ _ _ _, _, _, _, _, _ => t_bad
  | _, _, _, _, .revT _, _, _, _, _, _ => t_bad
  | _, _, _, _, .stepL _ _ _ _, _, _, _, _, _ => t_bad
  | _, _, _, _, .callW _ _ _ _, _, _, _, _, _ => t_bad
  | _, _, _, _, .lamcall _ _, _, _, _, _, _ => t_bad
  | _, _, _, _, .listZip _ _ _, _, _, _, _, _ => t_bad
  | _, _, _, _, .ask, _, _, _, _, _ => t_bad
  | _, _, _, _, .fldE _, _, _, _, _, _ => t_bad
  | _, _, _, _, .meth _ _ _, _, _, _, _, _ => t_bad
  | _, _, _, _, .comp _ _ _ _ _, _, _, _, _, _ => t_bad
theorem simAnd : ∀ (E : EvC) (fa : FB) (W : WX) (m : Md) (cs : Cs) (es : List Expr) (pos : Pos) (sc : Scope) (X : Cx), GoodX g E fa W N k m sc X → mEs g N m sc cs es = true → PE X (.BoolOp .And es pos) (tE fa W (evAnd cs E))
  | E, fa, W, m, .nil, _, _, _, _, _, _ => r_bad
  | E, fa, W, m, .cons a .nil, es, pos, sc, X, G, h => by
    cases es with
    | nil => simp [mEs] at h
    | cons e es =>
      simp only [mEs, Bool.and_eq_true, List.isEmpty_iff] at h
      obtain ⟨⟨_, h1⟩, h2⟩ := h
      subst h2
      exact pe_one (simE _ _ _ _ a e sc X G h1)
  | E, fa, W, m, .cons a (.cons b r), es, pos, sc, X, G, h => by
    cases es with
    | nil => simp [mEs] at h
    | cons e es =>
      cases es with
      | nil => simp [mEs] at h
      | cons e2 es =>
        have h' : (plainE e && mE g N m sc a e && mEs g N m sc (.cons b r) (e2 :: es)) = true := by simpa only [mEs] using h
        simp only [Bool.and_eq_true] at h'
        exact r_and (simE _ _ _ _ a e sc X G h'.1.2) (simAnd _ _ _ _ (.cons b r) (e2 :: es) pos sc X G h'.2)
theorem simOr : ∀ (E : EvC) (fa : FB) (W : WX) (m : Md) (cs : Cs) (es : List Expr) (pos : Pos) (sc : Scope) (X : Cx), GoodX g E fa W N k m sc X → mEs g N m sc cs es = true → PE X (.BoolOp .Or es pos) (tE fa W (evOr cs E))
  | E, fa, W, m, .nil, _, _, _, _, _, _ => r_bad
  | E, fa, W, m, .cons a .nil, es, pos, sc, X, G, h => by
    cases es with
    | nil => simp [mEs] at h
    | cons e es =>
      simp only [mEs, Bool.and_eq_true, List.isEmpty_iff] at h
      obtain ⟨⟨_, h1⟩, h2⟩ := h
      subst h2
      exact pe_one (simE _ _ _ _ a e sc X G h1)
  | E, fa, W, m, .cons a (.cons b r), es, pos, sc, X, G, h => by
    cases es with
    | nil => simp [mEs] at h
    | cons e es =>
      cases es with
      | nil => simp [mEs] at h
      | cons e2 es =>
        have h' : (plainE e && mE g N m sc a e && mEs g N m sc (.cons b r) (e2 :: es)) = true := by simpa only [mEs] using h
        simp only [Bool.and_eq_true] at h'
        exact r_or (simE _ _ _ _ a e sc X G h'.1.2) (simOr _ _ _ _ (.cons b r) (e2 :: es) pos sc X G h'.2)
theorem simAndT : ∀ (E : EvC) (fa : FB) (W : WX) (m : Md) (cs : Cs) (es : List Expr) (pos : Pos) (sc : Scope) (X : Cx), GoodX g E fa W N k m sc X → mEs g N m sc cs es = true → PW X (.BoolOp .And es pos) (tB fa W (evAndT cs E))
  | E, fa, W, m, .nil, _, _, _, _, _, _ => w_bad
  | E, fa, W, m, .cons a .nil, es, pos, sc, X, G, h => by
    cases es with
    | nil => simp [mEs] at h
    | cons e es =>
      simp only [mEs, Bool.and_eq_true, List.isEmpty_iff] at h
      obtain ⟨⟨_, h1⟩, h2⟩ := h
      subst h2
      exact pw_and1 (simT _ _ _ _ a e sc X G h1)
  | E, fa, W, m, .cons a (.cons b r), es, pos, sc, X, G, h => by
    cases es with
    | nil => simp [mEs] at h
    | cons e es =>
      cases es with
      | nil => simp [mEs] at h
      | cons e2 es =>
        have h' : (plainE e && mE g N m sc a e && mEs g N m sc (.cons b r) (e2 :: es)) = true := by simpa only [mEs] using h
        simp only [Bool.and_eq_true] at h'
        exact t_and (simT _ _ _ _ a e sc X G h'.1.2) (simAndT _ _ _ _ (.cons b r) (e2 :: es) pos sc X G h'.2)
theorem simOrT : ∀ (E : EvC) (fa : FB) (W : WX) (m : Md) (cs : Cs) (es : List Expr) (pos : Pos) (sc : Scope) (X : Cx), GoodX g E fa W N k m sc X → mEs g N m sc cs es = true → PW X (.BoolOp .Or es pos) (tB fa W (evOrT cs E))
  | E, fa, W, m, .nil, _, _, _, _, _, _ => w_bad
  | E, fa, W, m, .cons a .nil, es, pos, sc, X, G, h => by
    cases es with
    | nil => simp [mEs] at h
    | cons e es =>
      simp only [mEs, Bool.and_eq_true, List.isEmpty_iff] at h
      obtain ⟨⟨_, h1⟩, h2⟩ := h
      subst h2
      exact pw_or1 (simT _ _ _ _ a e sc X G h1)
  | E, fa, W, m, .cons a (.cons b r), es, pos, sc, X, G, h => by
    cases es with
    | nil => simp [mEs] at h
    | cons e es =>
      cases es with
      | nil => simp [mEs] at h
      | cons e2 es =>
        have h' : (plainE e && mE g N m sc a e && mEs g N m sc (.cons b r) (e2 :: es)) = true := by simpa only [mEs] using h
        simp only [Bool.and_eq_true] at h'
        exact t_or (simT _ _ _ _ a e sc X G h'.1.2) (simOrT _ _ _ _ (.cons b r) (e2 :: es) pos sc X G h'.2)
theorem sims : ∀ (E : EvC) (fa : FB) (W : WX) (m : Md) (cs : Cs) (es : List Expr) (sc : Scope) (X : Cx), GoodX g E fa W N k m sc X → mEs g N m sc cs es = true → PA X es (tL fa W (evs cs E))
  | E, fa, W, m, .nil, es, sc, X, G, h => by
    cases es with
    | nil => exact l_nil
    | cons _ _ => simp [mEs] at h
  | E, fa, W, m, .cons c r, es, sc, X, G, h => by
    cases es with
    | nil => simp [mEs] at h
    | cons e es =>
      simp only [mEs, Bool.and_eq_true] at h
      exact l_cons (simE _ _ _ _ c e sc X G h.1.2) (sims _ _ _ _ r es sc X G h.2) (star_plain h.1.1)
theorem simO : ∀ (E : EvC) (fa : FB) (W : WX) (m : Md) (c : Co) (e : Option Expr) (sc : Scope) (X : Cx), GoodX g E fa W N k m sc X → mO g N m sc c e = true → PO X e (tO fa W (evo c E))
  | E, fa, W, m, .none, e, sc, X, G, h => by
    cases e with
    | none => exact o_none
    | some _ => simp [mO] at h
  | E, fa, W, m, .some c, e, sc, X, G, h => by
    cases e with
    | none => simp [mO] at h
    | some e => exact o_some (simE _ _ _ _ c e sc X G (by simpa only [mO] using h))
theorem simIf : ∀ (E : EvC) (fa : FB) (W : WX) (m : Md) (c : Co) (es : List Expr) (sc : Scope) (X : Cx), GoodX g E fa W N k m sc X → mIf g N m sc c es = true → PTs X es (tB fa W (evIf c E))
  | E, fa, W, m, .none, es, sc, X, G, h => by
    cases es with
    | nil =>
      refine ⟨fun pins s σ H Q I q => pts_nil.run pins s σ H Q I ?_⟩
      obtain ⟨res, β, ρ, M, S, R, P⟩ := q
      exact P H β Step.refl S
    | cons _ _ => simp [mIf] at h
  | E, fa, W, m, .some c, es, sc, X, G, h => by
    unfold mIf at h
    split at h
    · exact pts_one (simT _ _ _ _ c _ sc X G h)
    · cases h
theorem simI : ∀ (E : EvC) (fa : FB) (W : WX) (m : Md) (it : It) (t e : Expr) (sc : Scope) (X : Cx), GoodX g E fa W N k m sc X → mI g N m sc it t e = true → PI X t e (iS fa W X.K (evI it E))
  | E, fa, W, m, .seq c, t, e, sc, X, G, h => i_seq (simE _ _ _ _ c e sc X G (by simpa only [mI] using h))
  | E, fa, W, m, .rng1 a, t, e, sc, X, G, h => by
    unfold mI at h
    split at h
    · simp only [Bool.and_eq_true, List.contains_iff_mem] at h
      obtain ⟨⟨⟨⟨h1, h2⟩, h3⟩, h4⟩, h5⟩ := h
      rw [eq_of_beq h1]
      exact i_rng1 (G.gl _ (glB_is h2)) (G.G.bis _ h3) (simE _ _ _ _ a _ sc X G h5) (star_plain h4)
    · cases h
  | E, fa, W, m, .rng2 a b, t, e, sc, X, G, h => by
    unfold mI at h
    split at h
    · simp only [Bool.and_eq_true, List.contains_iff_mem] at h
      obtain ⟨⟨⟨⟨⟨⟨h1, h2⟩, h3⟩, h4⟩, h5⟩, h6⟩, h7⟩ := h
      rw [eq_of_beq h1]
      exact i_rng2 (G.gl _ (glB_is h2)) (G.G.bis _ h3) (simE _ _ _ _ a _ sc X G h6) (simE _ _ _ _ b _ sc X G h7) (by rw [star_plain h4, star_plain h5]; rfl) (star_plain h5)
    · cases h
  | E, fa, W, m, .zip a b, t, e, sc, X, G, h => by
    unfold mI at h
    split at h
    · simp only [Bool.and_eq_true, List.contains_iff_mem] at h
      obtain ⟨⟨⟨⟨⟨⟨⟨h1, h2⟩, h3⟩, h4⟩, h5⟩, h6⟩, h7⟩, h8⟩ := h
      rw [eq_of_beq h1]
      cases t with
      | Tuple es n pos => exact i_zip (G.gl _ (glB_is h2)) (G.G.bis _ h3) (simE _ _ _ _ a _ sc X G h6) (simE _ _ _ _ b _ sc X G h7) (star_plain h4) (star_plain h5) (star_none (by rw [List.all_cons, h5]; rfl))
      | _ => cases h8
    · cases h
  | E, fa, W, m, .enum a, t, e, sc, X, G, h => by
    unfold mI at h
    split at h
    · simp only [Bool.and_eq_true, List.contains_iff_mem] at h
      obtain ⟨⟨⟨⟨⟨h1, h2⟩, h3⟩, h4⟩, h5⟩, h6⟩ := h
      rw [eq_of_beq h1]
      cases t with
      | Tuple es n pos => exact i_enum (G.gl _ (glB_is h2)) (G.G.bis _ h3) (simE _ _ _ _ a _ sc X G h5) (star_plain h4)
      | _ => cases h6
    · cases h
theorem simD : ∀ (E : EvC) (fa : FB) (W : WX) (m : Md) (cs : Cs) (ks : List Str) (keys : List (Option Expr)) (values : List Expr) (pos : Pos) (sc : Scope) (X : Cx), GoodX g E fa W N k m sc X → mD g N m sc ks cs keys values = true → PD fa W X pos keys values ks (evs cs E)
  | E, fa, W, m, .nil, ks, keys, values, pos, sc, X, G, h => by
    simp only [mD, Bool.and_eq_true, List.isEmpty_iff] at h
    obtain ⟨⟨h0, h1⟩, h2⟩ := h
    subst h0 h1 h2
    exact d_nil
  | E, fa, W, m, .cons c r, ks, keys, values, pos, sc, X, G, h => by
    unfold mD at h
    split at h
    · simp only [Bool.and_eq_true] at h
      rw [← eq_of_beq h.1.1]
      exact d_cons (simE _ _ _ _ c _ sc X G h.1.2) (simD _ _ _ _ r _ _ _ pos sc X G h.2)
    · cases h
theorem simKs : ∀ (E : EvC) (fa : FB) (W : WX) (m : Md) (cs : Cs) (ks : List Keyword) (sc : Scope) (X : Cx), GoodX g E fa W N k m sc X → mKs g N m sc cs ks = true → PK X ks (tL fa W (evs cs E))
  | E, fa, W, m, .nil, ks, sc, X, G, h => by
    cases ks with
    | nil => exact k_nil
    | cons _ _ => simp [mKs] at h
  | E, fa, W, m, .cons c r, ks, sc, X, G, h => by
    unfold mKs at h
    split at h
    · simp only [Bool.and_eq_true] at h
      exact k_cons (simE _ _ _ _ c _ sc X G h.1) (simKs _ _ _ _ r _ sc X G h.2)
    · cases h
end
end
end Mj
/-! Mj17: statements. -/
namespace Mj
open PySem PySem.Spec PyProof.Rows L2

section
variable (g : Cfg) (N : List Str) (sc : Scope)
/-- does name = [..] forget its name first -/
def swB (v : Expr) (x : Str) (px : Pos) : Bool := match v with
  | .ListComp _ _ s p => (sc.names.lookup x == some .local) && px.line == p.line && !(s.names.any fun (n, k) => n == x && (k == .local || k == .cell))
  | _ => false
def isLC : Expr → Bool
  | .ListComp .. => true
  | _ => false
def isTp : Expr → Bool
  | .Tuple .. => true
  | _ => false
def parB (x y : Str) (px py : Pos) (i j : Nat) (u w : Expr) : Bool :=
  if sc.names.lookup x = some .local ∧ sc.names.lookup y = some .local then (py.line == px.line) && decide (x ≠ y) && decide (i ≠ j) && !([u, w].all (foldedForSure 8)) && !([u, w].all (constantsAlone 8)) else locB sc x && locB sc y
def okTo (m : Md) (x : Str) : Bool := decide (m.en ≠ some x) && decide (m.an ≠ some x)
def plainM (m : Md) : Bool := decide (m.n = 0) || decide (m.n = 3)
mutual
def mS (m : Md) : S → Stmt → Bool
  | .set i e, st => match st with
    | .Assign [.Name x px] v _ => decide (N[i]? = some x) && locB sc x && mE g N m sc e v && (notComp v || isLC v) && okTo m x
    | _ => false
  | .par i j a b, st => match st with
    | .Assign [.Tuple [.Name x px, .Name y py] _ _] (.Tuple [u, w] _ _) _ => plainM m && decide (N[i]? = some x) && decide (N[j]? = some y) && mE g N m sc a u && mE g N m sc b w && plainE u && plainE w && parB sc x y px py i j u w
    | _ => false
  | .unp tg e, st => match st with
    | .Assign [t] v _ => plainM m && mTg N sc tg t && isTp t && mE g N m sc e v && !isTp v && notComp v
    | _ => false
  | .setIx o k e, st => match st with
    | .Assign [.Subscript y (.Constant (.str k') _ _) _] v _ => (k == k') && mE g N m sc o y && mE g N m sc e v && notComp v
    | _ => false
  | .expr e, st => match st with
    | .Expr v _ => mE g N m sc e v && notComp v
    | _ => false
  | .ret e, st => match st with
    | .Return (some v) _ => mE g N m sc e v
    | _ => false
  | .ifs c a b, st => match st with
    | .If t x y _ => mE g N m sc c t && mSs m a x && mSs m b y
    | _ => false
  | .for_ tg it body, st => match st with
    | .For t iter b [] _ => plainM m && mTg N sc tg t && mI g N m sc it t iter && mSs m body b && notSet iter
    | _ => false
  | .raise k ps as, st => match st with
    | .Raise (some (.Call (.Name x _) xs [] _)) none _ => decide (m.n ≠ 2) && decide (g.cls[k]? = some x) && decide (g.xps k = some ps) && glB sc x && okName x && mEs g N m sc as xs && !xs.isEmpty
    | _ => false
  | .tryAs c i body suite, st => match st with
    | .Try b [.ExceptHandler (some (.Name x _)) (some n) (s0 :: s1) _] [] [] _ => decide (m.n ≠ 2) && decide (c < g.nown) && decide (g.cls[c]? = some x) && glB sc x && okName x && decide (N[i]? = some n) && (sc.names.lookup n == some .local) && okTo m n && mSs m body b && mSs ⟨2, some n, m.an⟩ suite (s0 :: s1)
    | _ => false
  | .tryOnly c body suite, st => match st with
    | .Try b [.ExceptHandler (some (.Name x _)) none (s0 :: s1) _] [] [] _ => decide (m.n ≠ 2) && decide (g.cls[c]? = some x) && glB sc x && okName x && mSs m body b && mSs ⟨2, none, m.an⟩ suite (s0 :: s1)
    | _ => false
  | .while_ _ c body, st => match st with
    | .While t b [] _ => mE g N m sc c t && mSs m body b
    | _ => false
def mSs (m : Md) : Ss → List Stmt → Bool
  | .nil, sts => sts.isEmpty
  | .cons s r, sts => match sts with
    | st :: sts => mS m s st && mSs m r sts
    | [] => false
end
end
/-- a def's own frame -/
structure Body (X : Cx) : Prop where
  kind : X.env.scope.kind = .function
  hs : X.stack = X.env :: X.outer
  hf : X.env.frame = some X.env.locals
section
variable {g : Cfg} {E : EvC} {fa : FB} {W : WX} {N : List Str} {k : Nat} {m : Md} {sc : Scope} {X : Cx}
theorem isLC_of {v : Expr} (h : isLC v = true) : ∃ el gs s p, v = .ListComp el gs s p := by
  cases v <;> first | exact ⟨_, _, _, _, rfl⟩ | cases h
theorem swaps_lc {el : Expr} {gs : List Comprehension} {s : Scope} {p px : Pos} {x : Str} {l : Nat} (G : GoodX g E fa W N k m sc X) (hk : X.env.scope.kind = .function) (hx : locB sc x = true) : swapsWith (.ListComp el gs s p) (some (.Name x px)) l X.env = pure (swB sc (.ListComp el gs s p) x px) := by
  have hb : (X.env.blockKind == .function) = true := by
    unfold Env.blockKind
    rw [hk]
    rfl
  have hl : (X.env.kindOf x == some .local) = (sc.names.lookup x == some .local) := by
    show (X.env.scope.names.lookup x == some .local) = _
    unfold locB at hx
    split at hx
    · rename_i q; rw [G.loc x q, q]
    · rename_i q; rw [(G.cel x q).1, q]
    · cases hx
  show pure (X.env.blockKind == .function && X.env.kindOf x == some .local && px.line == p.line && !(s.names.any fun (n, k) => n == x && (k == .local || k == .cell))) = _
  rw [hb, hl, Bool.true_and]
  rfl
theorem GoodX.free {i : Nat} {x : Str} (G : GoodX g E fa W N k m sc X) (hi : N[i]? = some x) (ho : okTo m x = true) : i ∉ fa.fix.map Prod.fst := by
  intro h
  obtain ⟨p, hp, rfl⟩ := List.mem_map.mp h
  obtain ⟨y, h1, h2⟩ := G.fixN p hp
  rw [hi] at h1
  cases h1
  simp only [okTo, Bool.and_eq_true, decide_eq_true_eq] at ho
  rcases h2 with z | z
  · exact ho.1 z
  · exact ho.2 z
theorem plainM_or (h : plainM m = true) : m.n = 0 ∨ m.n = 3 := by
  simpa [plainM] using h
theorem plainM_ne (h : plainM m = true) : m.n ≠ 2 := by
  rcases plainM_or h with z | z <;> rw [z] <;> decide
theorem GoodX.nofix (G : GoodX g E fa W N k m sc X) (h : plainM m = true) : fa.fix = [] := by rw [G.bare (plainM_or h)]; rfl
theorem GoodX.tr (G : GoodX g E fa W N k m sc X) (hm : m.n ≠ 2) {W' : WX} {pn : List (Addr × Obj)} {xe : Value → Shared → Prop} (tk : Takes (X.tr pn xe) W') (ps : PassesOwn (model X.prog X.w) X.A X.env xe) : GoodX g E fa W' N k m sc (X.tr pn xe) :=
  { hN := G.hN, hK := G.hK, nd := G.nd, un := G.un, gd := G.gd, tk := tk, pass := ps, calm := G.calm, hot := G.hot, bare := G.bare, vis := G.vis, gl := G.gl, loc := G.loc, cel := G.cel, fre := G.fre, G := G.G, lam := G.lam
    ask := fun a h1 h2 W2 pn2 xe2 t2 => G.ask a h1 h2 W2 pn2 xe2 t2, cur := fun n hn => absurd (G.cur n hn).1 hm, fixN := G.fixN }
theorem Body.tr (B : Body X) (pn : List (Addr × Obj)) (xe : Value → Shared → Prop) : Body (X.tr pn xe) := ⟨B.kind, B.hs, B.hf⟩
theorem Body.suite (B : Body X) (a : Addr) (pn : List (Addr × Obj)) : Body (X.suite a pn) := ⟨B.kind, B.hs, B.hf⟩
theorem names_of {c : Nat} {x : Str} (G : GoodX g E fa W N k m sc X) (hc : g.cls[c]? = some x) (hgl : glB sc x = true) (hok : okName x = true) : Names X x (fa.cv c) := by
  refine ⟨G.gl x (glB_is hgl), (okName_d hok).1, ?_⟩
  rcases G.G.clsn c x hc with ⟨C, e1, e2⟩ | ⟨T, e1, e2, e3, e4⟩
  · left; rw [show fa.cv c = .ref C from e1]; exact e2
  · right; rw [show fa.cv c = .type T from e1]; exact ⟨e2, e3, e4⟩
/-- what the suite of a named exception knows -/
def FB.caught (fa : FB) (i : Nat) (a : Addr) (x : XV) (dd : Addr) (fs : List (Str × V)) : FB := { fa with fix := (i, .ref a) :: fa.fix, fixH := (dd, .xd fs) :: fa.fixH, kn := (x.fs.map (·.2)).zip (fs.map (·.2)) ++ fa.kn }
theorem knf_of {β res : List Addr} {H : Hp} {fb : FB} : ∀ {ds : List (Str × D)} {vs : List (Str × V)}, RepF fa β res H ds vs → (∀ p ∈ (ds.map (·.2)).zip (vs.map (·.2)), p ∈ fb.kn) → KnF fb ds vs
  | _, _, .nil, _ => .nil
  | _, _, .cons r q, h => .cons (h _ (by simp)) (knf_of q fun p hp => h p (by simp [hp]))
theorem rep_of {β res : List Addr} {H : Hp} : ∀ {ds : List (Str × D)} {vs : List (Str × V)}, RepF fa β res H ds vs → ∀ p ∈ (ds.map (·.2)).zip (vs.map (·.2)), Rep fa β res H p.1 p.2
  | _, _, .nil, p, h => by simp at h
  | _, _, .cons r q, p, h => by
    simp only [List.map_cons, List.zip_cons_cons, List.mem_cons] at h
    rcases h with rfl | h
    · exact r
    · exact rep_of q p h
/-- the suite's reading -/
def tSuite (fa : FB) (sub : Nat → Nat → Bool) (c i : Nat) (ss : XV → Rho → MH → Res Fl) (a : Addr) (cls : Value) (d : Option Addr) : TS := fun En σ H => ∃ (x : XV) (dd : Addr) (fs : List (Str × V)), cls = fa.cv x.k ∧ d = some dd ∧ sub x.k c = true ∧ KnF (fa.caught i a x dd fs) x.fs fs ∧ tF (fa.caught i a x dd fs) W0 (ss x) En σ H
theorem s_tryAs {c i : Nat} {x n : Str} {body suite : List Stmt} {b0 : Stmt} {np pos pos' : Pos} {sb : Rho → MH → Res Fl} {ss : XV → Rho → MH → Res Fl} (B : Body X) (hN : X.N.Nodup) (hi : X.N[i]? = some n) (hl : X.env.kindOf n = some .local) (hfr : i ∉ fa.fix.map Prod.fst) (hc : Names X x (fa.cv c)) (tk : Takes X W) (subs : ∀ k, PySem.W.exmOne X.K (fa.cv k) (fa.cv c) = some (E.sub k c))
    (hb : ∀ (W' : WX) (pn : List (Addr × Obj)) (xe : Value → Shared → Prop), Takes (X.tr pn xe) W' → PassesOwn (model X.prog X.w) X.A X.env xe → PSs (X.tr pn xe) body (tF fa W' sb))
    (hsu : ∀ (a : Addr) (oe : Obj) (cls : Value) (d : Option Addr) (pn : List (Addr × Obj)), Zc cls d oe → (∃ vs, oe.data = .fields vs) → PSs (X.suite a ((a, oe) :: pn)) (b0 :: suite) (tSuite fa E.sub c i ss a cls d)) :
    PS X (.Try body [.ExceptHandler (some (.Name x np)) (some n) (b0 :: suite) pos'] [] [] pos) (tF fa W fun ρ M => (sb ρ M).bind fun f M1 => match f with
      | .xc x ρ1 => if E.sub x.k c = true then (if i < ρ1.length then (ss x (ρ1.set i none) M1).bind fun f2 M2 => (match f2 with
          | .nx ρ2 => .ok (.nx (ρ2.set i none)) M2
          | .rt d => .ok (.rt d) M2
          | .xc _ _ => .bad) else .bad) else .ok (.xc x ρ1) M1
      | f => .ok f M1) := by
  refine PS.weak (ps_try_as B.hs B.hf hN hi hl hc tk hb hsu) fun En σ H h => ?_
  obtain ⟨res, β, ρ, M, o, M', S, R, e, P⟩ := h
  obtain ⟨f, M1, e1, e⟩ := Res.bind_ok e
  refine ⟨res, β, ρ, M, f, M1, S, R, e1, ?_⟩
  cases f with
  | nx ρ1 => cases e; exact P
  | rt d => cases e; exact P
  | xc x ρ1 =>
    intro σ' H' β' cls dd st S' R' rx
    have hcls := rx.cls
    refine ⟨E.sub x.k c, by rw [hcls]; exact subs x.k, fun hb a ha => ?_, fun hb => ?_⟩
    · simp only [hb, if_true] at e
      split at e
      · rename_i hlt
        obtain ⟨f2, M2, e2, e⟩ := Res.bind_ok e
        obtain ⟨da, fs, rfl, hd1, hd2, hd3, hF⟩ := rx.at_
        have hlt' : i < σ'.length := by rw [← R'.len]; exact hlt
        refine ⟨x, da, fs, hcls, rfl, hb, knf_of hF fun p hp => List.mem_append_left _ hp, ?_⟩
        have S2 : Sim (fa.caught i a x da fs) β' res M1 H' := by
          refine ⟨S'.len, S'.nd, S'.nr, S'.rt, S'.rp, S'.tabs, fun p hp => ?_, fun p hp => ?_, S'.at_⟩
          · rcases List.mem_cons.mp hp with rfl | hp
            · exact ⟨hd1, hd2, hd3, fun _ z => nomatch z⟩
            · exact S'.fx p hp
          · rcases List.mem_append.mp hp with hp | hp
            · exact rep_of hF p hp
            · exact S'.kn p hp
        have R2 : RepS (fa.caught i a x da fs) β' res H' (ρ1.set i none) (σ'.set i (some (.ref a))) := by
          refine ⟨by simp [R'.len], fun p hp => ?_, fun j d hj => ?_⟩
          · rcases List.mem_cons.mp hp with rfl | hp
            · show (σ'.set i (some (.ref a)))[i]? = _
              rw [List.getElem?_set_self hlt']
            · rw [List.getElem?_set_ne (fun z => hfr (List.mem_map.mpr ⟨p, hp, z.symm⟩))]
              exact R'.fx p hp
          · by_cases z : i = j
            · subst z
              rw [List.getElem?_set_self hlt] at hj
              cases hj
            · rw [List.getElem?_set_ne z] at hj ⊢
              exact R'.at_ j d hj
        have drop : ∀ {β2 : List Addr} {M3 : MH} {H2 : Hp}, Sim (fa.caught i a x da fs) β2 res M3 H2 → Sim fa β2 res M3 H2 := fun s => ⟨s.len, s.nd, s.nr, s.rt, s.rp, s.tabs, fun p hp => s.fx p (List.mem_cons_of_mem _ hp), fun p hp => s.kn p (List.mem_append_right _ hp), s.at_⟩
        refine ⟨res, β', ρ1.set i none, M1, f2, M2, S2, R2, e2, ?_⟩
        cases f2 with
        | nx ρ2 =>
          cases e
          intro σ3 H3 β3 st3 S3 R3
          refine P (σ3.set i none) H3 β3 (st.trans st3) (drop S3) ⟨by simp [R3.len], fun p hp => ?_, fun j d hj => ?_⟩
          · rw [List.getElem?_set_ne (fun z => hfr (List.mem_map.mpr ⟨p, hp, z.symm⟩))]
            exact R3.fx p (List.mem_cons_of_mem _ hp)
          · by_cases z : i = j
            · subst z
              by_cases hl : i < ρ2.length
              · rw [List.getElem?_set_self hl] at hj; cases hj
              · rw [List.getElem?_eq_none (by simp; omega)] at hj; cases hj
            · rw [List.getElem?_set_ne z] at hj ⊢
              exact R3.at_ j d hj
        | rt d =>
          cases e
          exact fun v H3 β3 st3 s3 r3 => P v H3 β3 (st.trans st3) (drop s3) r3
        | xc _ _ => cases e
      · cases e
    · simp only [hb, Bool.false_eq_true, if_false] at e
      cases e
      exact P σ' H' β' cls dd st S' R' rx
theorem s_tryOnly {c : Nat} {x : Str} {body suite : List Stmt} {b0 : Stmt} {np pos pos' : Pos} {sb ss : Rho → MH → Res Fl} (B : Body X) (hc : Names X x (fa.cv c)) (tk : Takes X W) (subs : ∀ k, PySem.W.exmOne X.K (fa.cv k) (fa.cv c) = some (E.sub k c))
    (hb : ∀ (W' : WX) (pn : List (Addr × Obj)) (xe : Value → Shared → Prop), Takes (X.tr pn xe) W' → PassesOwn (model X.prog X.w) X.A X.env xe → PSs (X.tr pn xe) body (tF fa W' sb))
    (hsu : ∀ (a : Addr) (oe : Obj) (pn : List (Addr × Obj)), PSs (X.suite a ((a, oe) :: pn)) (b0 :: suite) (tF fa W0 ss)) :
    PS X (.Try body [.ExceptHandler (some (.Name x np)) none (b0 :: suite) pos'] [] [] pos) (tF fa W fun ρ M => (sb ρ M).bind fun f M1 => match f with
      | .xc x ρ1 => if E.sub x.k c = true then (ss ρ1 M1).bind fun f2 M2 => (match f2 with
          | .xc _ _ => .bad
          | f2 => .ok f2 M2) else .ok (.xc x ρ1) M1
      | f => .ok f M1) := by
  refine PS.weak (ps_try_only B.hs B.hf hc tk hb (ts := fun _ _ _ => tF fa W0 ss) fun a oe cls d pn _ _ => hsu a oe pn) fun En σ H h => ?_
  obtain ⟨res, β, ρ, M, o, M', S, R, e, P⟩ := h
  obtain ⟨f, M1, e1, e⟩ := Res.bind_ok e
  refine ⟨res, β, ρ, M, f, M1, S, R, e1, ?_⟩
  cases f with
  | nx ρ1 => cases e; exact P
  | rt d => cases e; exact P
  | xc x ρ1 =>
    intro σ' H' β' cls dd st S' R' rx
    have hcls := rx.cls
    refine ⟨E.sub x.k c, by rw [hcls]; exact subs x.k, fun hb a ha => ?_, fun hb => ?_⟩
    · simp only [hb, if_true] at e
      obtain ⟨f2, M2, e2, e⟩ := Res.bind_ok e
      refine ⟨res, β', ρ1, M1, f2, M2, S', R', e2, ?_⟩
      cases f2 with
      | nx ρ2 => cases e; exact fun σ3 H3 β3 st3 S3 R3 => P σ3 H3 β3 (st.trans st3) S3 R3
      | rt d => cases e; exact fun v H3 β3 st3 s3 r3 => P v H3 β3 (st.trans st3) s3 r3
      | xc _ _ => cases e
    · simp only [hb, Bool.false_eq_true, if_false] at e
      cases e
      exact P σ' H' β' cls dd st S' R' rx
end
end Mj
/-! Mj18: every statement runs as it is evaluated. -/
namespace Mj
open PySem PySem.Spec PyProof.Rows L2

section
variable {g : Cfg} {N : List Str} {k : Nat} {sc : Scope}
theorem GoodX.only {E : EvC} {fa : FB} {W : WX} {m : Md} {X : Cx} (G : GoodX g E fa W N k m sc X) (hm : m.n ≠ 2) (a : Addr) (pn : List (Addr × Obj)) : GoodX g { E with ask := noAsk, cur := none } fa W0 N k ⟨2, none, m.an⟩ sc (X.suite a pn) :=
  { hN := G.hN, hK := G.hK, nd := G.nd, un := G.un, gd := G.gd, tk := LamX.takes0, pass := PassesOwn.never, calm := fun z => absurd rfl z, hot := fun _ => rfl, bare := fun z => by rcases z with z | z <;> cases z
    vis := G.vis, gl := G.gl, loc := G.loc, cel := G.cel, fre := G.fre, G := G.G, lam := fun z => by cases z
    ask := fun a z => (by cases z), cur := fun n z => (by cases z), fixN := fun p hp => by
      obtain ⟨y, h1, h2⟩ := G.fixN p hp
      rcases h2 with z | z
      · exact absurd (G.cur y z).1 hm
      · exact ⟨y, h1, .inr z⟩ }
theorem GoodX.named {E : EvC} {fa : FB} {W : WX} {m : Md} {X : Cx} {n : Str} {a dd : Addr} {oe : Obj} {pn : List (Addr × Obj)} {x : XV} {fs : List (Str × V)} {c i : Nat} (G : GoodX g E fa W N k m sc X) (hm : m.n ≠ 2) (hi : N[i]? = some n) (hv : Vis X.env.scope n) (hc : c < g.nown) (hs : E.sub x.k c = true) (hz : Zc (fa.cv x.k) (some dd) oe) (hf : ∃ vs, oe.data = .fields vs)
    (hk : KnF (fa.caught i a x dd fs) x.fs fs) : GoodX g { E with ask := noAsk, cur := some x } (fa.caught i a x dd fs) W0 N k ⟨2, some n, m.an⟩ sc (X.suite a ((a, oe) :: pn)) :=
  { hN := G.hN, hK := G.hK, nd := G.nd, un := G.un, gd := G.gd, tk := LamX.takes0, pass := PassesOwn.never, calm := fun z => absurd rfl z, hot := fun _ => rfl, bare := fun z => by rcases z with z | z <;> cases z
    vis := G.vis, gl := G.gl, loc := G.loc, cel := G.cel, fre := G.fre, G := G.G, lam := fun z => by cases z
    ask := fun a z => by cases z
    cur := fun n' hn => by
      cases hn
      refine ⟨rfl, fun x' hx => ?_⟩
      cases hx
      obtain ⟨D, e1, e2, e3⟩ := G.G.exck x.k c hs hc
      refine ⟨X, a, D, oe, pn, i, dd, fs, rfl, ?_, hf, e1, e2, hi, hv, List.mem_cons_self, List.mem_cons_self, hk, e3⟩
      rw [show fa.bare.cv x.k = fa.cv x.k from rfl] at e1
      rw [← e1]
      exact hz
    fixN := fun p hp => by
      rcases List.mem_cons.mp hp with rfl | hp
      · exact ⟨n, hi, .inl rfl⟩
      · obtain ⟨y, h1, h2⟩ := G.fixN p hp
        rcases h2 with z | z
        · exact absurd (G.cur y z).1 hm
        · exact ⟨y, h1, .inr z⟩ }
mutual
theorem simS : ∀ (E : EvC) (fa : FB) (W : WX) (m : Md) (X : Cx) (s : S) (st : Stmt), GoodX g E fa W N k m sc X → Body X → mS g N sc m s st = true → PS X st (tF fa W (exS s E))
  | E, fa, W, m, X, .set i e, st, G, B, h => by
    unfold mS at h
    split at h
    · rename_i x px v pos
      simp only [Bool.and_eq_true, decide_eq_true_eq, Bool.or_eq_true] at h
      obtain ⟨⟨⟨⟨h1, h2⟩, h3⟩, h4⟩, h5⟩ := h
      obtain ⟨q1, q2⟩ := G.store h2
      have hnd : X.N.Nodup := by rw [G.hN]; exact G.nd
      have hix : X.N[i]? = some x := by rw [G.hN]; exact h1
      have hfx := G.free h1 h5
      by_cases hc : notComp v = true
      · exact s_set hfx hnd hix q1 (simE _ _ _ _ e v sc X G h3) (swaps_of hc) q2
      · obtain ⟨el, gs, s, p, rfl⟩ := isLC_of (h4.resolve_left hc)
        have sw := swaps_lc (px := px) (l := pos.line) (el := el) (gs := gs) (s := s) (p := p) G B.kind h2
        by_cases hb : swB sc (.ListComp el gs s p) x px = true
        · rw [hb] at sw
          have hxl : X.env.scope.names.lookup x = some .local := by
            have : (sc.names.lookup x == some .local) = true := (Bool.and_eq_true_iff.mp (Bool.and_eq_true_iff.mp hb).1).1
            exact G.loc x (eq_of_beq this)
          cases e with
          | comp mb elt tg it ifs =>
            unfold mE at h3
            split at h3
            · rename_i heq
              cases heq
              simp only [Bool.and_eq_true, Bool.or_eq_true, decide_eq_true_eq] at h3
              obtain ⟨⟨⟨⟨⟨⟨⟨zm, z0⟩, z1⟩, z2⟩, z3⟩, z4⟩, z5⟩, z6⟩ := h3
              rw [eq_of_beq z0] at sw ⊢
              have n2 : m.n ≠ 2 := by rcases zm with z | z <;> rw [z] <;> decide
              exact s_setLc (by rw [G.bare zm]; rfl) (G.calm n2).1 hnd hix hxl sw (simI _ _ _ _ it _ _ sc X G z2) (G.blkOk z5) (ownOf_snd N tg) (fun s H C cs fp => (G.blk zm s H C cs fp).pg (G.calm n2).1 tg _ z1) (fun s H C cs fp => simIf _ _ _ _ ifs _ _ _ (G.blk zm s H C cs fp) z3) (fun s H C cs fp => simE _ _ _ _ elt _ _ _ (G.blk zm s H C cs fp) z4) (noFold z6)
            · cases h3
          | _ => simp [mE] at h3
        · rw [show swB sc (.ListComp el gs s p) x px = false by simpa using hb] at sw
          exact s_set hfx hnd hix q1 (simE _ _ _ _ e _ sc X G h3) sw q2
    · cases h
  | E, fa, W, m, X, .par i j a b, st, G, B, h => by
    unfold mS at h
    split at h
    · rename_i x px y py kt pt u w k2 pt2 pos
      simp only [Bool.and_eq_true, decide_eq_true_eq] at h
      obtain ⟨⟨⟨⟨⟨⟨⟨h0, h1⟩, h2⟩, h3⟩, h4⟩, h5⟩, h6⟩, h7⟩ := h
      have hnd : X.N.Nodup := by rw [G.hN]; exact G.nd
      have hix : X.N[i]? = some x := by rw [G.hN]; exact h1
      have hjy : X.N[j]? = some y := by rw [G.hN]; exact h2
      have n2 := plainM_ne h0
      have nf := G.nofix h0
      have nof : ∀ z : Nat, z ∉ fa.fix.map Prod.fst := fun z => by rw [nf]; simp
      have hbk : X.env.blockKind = .function := by
        unfold Env.blockKind
        rw [B.kind]
        rfl
      unfold parB at h7
      split at h7
      · rename_i hl
        simp only [Bool.and_eq_true, decide_eq_true_eq, Bool.not_eq_true'] at h7
        obtain ⟨⟨⟨⟨z1, z2⟩, z3⟩, z4⟩, z5⟩ := h7
        exact s_parL (nof i) (nof j) (G.calm n2).1 hnd hix hjy z3 (G.loc x hl.1) (G.loc y hl.2) (simE _ _ _ _ a u sc X G h3) (simE _ _ _ _ b w sc X G h4) h5 h6 (swap_some hbk (G.loc x hl.1) (G.loc y hl.2) z1 z2 h5 h6 z4 z5)
      · rename_i hl
        simp only [Bool.and_eq_true] at h7
        have kd : ∀ z, locB sc z = true → sc.names.lookup z ≠ some .local → X.env.kindOf z ≠ some .local := fun z hz hn => by
          unfold locB at hz
          split at hz
          · rename_i q; exact absurd q hn
          · rename_i q
            show X.env.scope.names.lookup z ≠ _
            rw [(G.cel z q).1]
            decide
          · cases hz
        have hno : X.env.kindOf x ≠ some .local ∨ X.env.kindOf y ≠ some .local := by
          by_cases q : sc.names.lookup x = some .local
          · exact .inr (kd y h7.2 fun z => hl ⟨q, z⟩)
          · exact .inl (kd x h7.1 q)
        refine s_parT (nof i) (nof j) (G.calm n2).1 (simE _ _ _ _ a u sc X G h3) (simE _ _ _ _ b w sc X G h4) h5 h6 (G.pg (G.calm n2).1 _ _ ?_) (swap_none hno)
        simp only [mTg, mTgs, plainT, Bool.and_eq_true, decide_eq_true_eq, List.isEmpty_nil, and_true]
        exact ⟨⟨h1, h7.1⟩, h2, h7.2⟩
    · cases h
  | E, fa, W, m, X, .unp tg e, st, G, B, h => by
    unfold mS at h
    split at h
    · rename_i t v pos
      simp only [Bool.and_eq_true, Bool.not_eq_true'] at h
      obtain ⟨⟨⟨⟨⟨h0, h1⟩, h2⟩, h3⟩, h4⟩, h5⟩ := h
      have n2 := plainM_ne h0
      have nf := G.nofix h0
      cases t with
      | Tuple es n tp =>
        refine s_unp (fun i _ => by rw [nf]; simp) (simE _ _ _ _ e v sc X G h3) (G.pg (G.calm n2).1 tg _ h1) ?_ ?_ rfl
        · cases v <;> first | rfl | cases h5
        · unfold swappedStores
          cases v <;> first | rfl | cases h4
      | _ => cases h2
    · cases h
  | E, fa, W, m, X, .setIx o k' e, st, G, B, h => by
    unfold mS at h
    split at h
    · simp only [Bool.and_eq_true] at h
      obtain ⟨⟨⟨h1, h2⟩, h3⟩, h4⟩ := h
      rw [← eq_of_beq h1]
      exact s_setIx G.un (simE _ _ _ _ o _ sc X G h2) (simE _ _ _ _ e _ sc X G h3) (swaps_of h4)
    · cases h
  | E, fa, W, m, X, .expr e, st, G, B, h => by
    unfold mS at h
    split at h
    · simp only [Bool.and_eq_true] at h
      exact s_expr (simE _ _ _ _ e _ sc X G h.1) (swaps_of h.2)
    · cases h
  | E, fa, W, m, X, .ret e, st, G, B, h => by
    unfold mS at h
    split at h
    · exact s_ret (simE _ _ _ _ e _ sc X G h)
    · cases h
  | E, fa, W, m, X, .ifs c a b, st, G, B, h => by
    unfold mS at h
    split at h
    · simp only [Bool.and_eq_true] at h
      exact s_if (simT _ _ _ _ c _ sc X G h.1.1) (simSs _ _ _ _ X a _ G B h.1.2) (simSs _ _ _ _ X b _ G B h.2)
    · cases h
  | E, fa, W, m, X, .for_ tg it body, st, G, B, h => by
    unfold mS at h
    split at h
    · simp only [Bool.and_eq_true] at h
      obtain ⟨⟨⟨⟨h0, h1⟩, h2⟩, h3⟩, h4⟩ := h
      have nf := G.nofix h0
      exact s_for (fun i _ => by rw [nf]; simp) G.pass (G.calm (plainM_ne h0)).1 (simI _ _ _ _ it _ _ sc X G h2) (G.pg (G.calm (plainM_ne h0)).1 tg _ h1) (simSs _ _ _ _ X body _ G B h3) (noFold h4)
    · cases h
  | E, fa, W, m, X, .raise kk ps as, st, G, B, h => by
    unfold mS at h
    split at h
    · rename_i x p xs pos p1
      simp only [Bool.and_eq_true, decide_eq_true_eq] at h
      obtain ⟨⟨⟨⟨⟨⟨h0, h1⟩, h2⟩, h3⟩, h4⟩, h5⟩, h6⟩ := h
      cases xs with
      | nil => simp at h6
      | cons y ys =>
        have pl := mEs_plain as (y :: ys) h5
        rw [List.all_cons, Bool.and_eq_true] at pl
        obtain ⟨C, fI, fd, z1, z2, z3, z4, z5, z6, z7, z8⟩ := (G.G.excs kk x ps h1 h2).ex
        exact s_raise z1 (G.calm h0).1 G.tk z3 z4 z5 z6 ((G.calm h0).2.mono (by have := G.G.k4; omega)) z7 z8 (G.gl x (glB_is h3)) z2 (sims _ _ _ _ as (y :: ys) sc X G h5) (okName_d h4).1 (star_plain pl.1) (star_none pl.2)
    · cases h
  | E, fa, W, m, X, .tryAs c i body suite, st, G, B, h => by
    unfold mS at h
    split at h
    · rename_i b x np n s0 s1 pos' pos
      simp only [Bool.and_eq_true, decide_eq_true_eq] at h
      obtain ⟨⟨⟨⟨⟨⟨⟨⟨⟨h0, h1⟩, h2⟩, h3⟩, h4⟩, h5⟩, h6⟩, h7⟩, h8⟩, h9⟩ := h
      have hloc : X.env.scope.names.lookup n = some .local := G.loc n (eq_of_beq h6)
      refine s_tryAs (ss := fun xv => exSs suite { E with ask := noAsk, cur := some xv }) B (by rw [G.hN]; exact G.nd) (by rw [G.hN]; exact h5) hloc (G.free h5 h7) (names_of G h2 h3 h4) G.tk (fun k => (G.G.subs k c).2) (fun W' pn xe tk ps => simSs _ _ _ _ _ body b (G.tr h0 tk ps) (B.tr pn xe) h8) fun a oe cls d pn hz hf => ?_
      refine ⟨fun pins s σ H En I q => ?_⟩
      obtain ⟨xv, dd, fs, q1, q2, q3, q4, q5⟩ := q
      subst q1 q2
      exact (simSs _ _ _ _ _ suite (s0 :: s1) (G.named (c := c) h0 h5 (.inl hloc) h1 q3 hz hf q4) (B.suite a _) h9).run pins s σ H En I q5
    · cases h
  | E, fa, W, m, X, .tryOnly c body suite, st, G, B, h => by
    unfold mS at h
    split at h
    · rename_i b x np s0 s1 pos' pos
      simp only [Bool.and_eq_true, decide_eq_true_eq] at h
      obtain ⟨⟨⟨⟨⟨h0, h1⟩, h2⟩, h3⟩, h4⟩, h5⟩ := h
      exact s_tryOnly B (names_of G h1 h2 h3) G.tk (fun k => (G.G.subs k c).2) (fun W' pn xe tk ps => simSs _ _ _ _ _ body b (G.tr h0 tk ps) (B.tr pn xe) h4) fun a oe pn => simSs _ _ _ _ _ suite (s0 :: s1) (G.only h0 a _) (B.suite a _) h5
    · cases h
  | E, fa, W, m, X, .while_ n c body, st, G, B, h => by
    unfold mS at h
    split at h
    · simp only [Bool.and_eq_true] at h
      exact s_while G.pass (simT _ _ _ _ c _ sc X G h.1) (simSs _ _ _ _ X body _ G B h.2)
    · cases h
theorem simSs : ∀ (E : EvC) (fa : FB) (W : WX) (m : Md) (X : Cx) (ss : Ss) (sts : List Stmt), GoodX g E fa W N k m sc X → Body X → mSs g N sc m ss sts = true → PSs X sts (tF fa W (exSs ss E))
  | E, fa, W, m, X, .nil, sts, G, B, h => by
    cases sts with
    | nil => exact s_nil
    | cons _ _ => simp [mSs] at h
  | E, fa, W, m, X, .cons s r, sts, G, B, h => by
    cases sts with
    | nil => simp [mSs] at h
    | cons st sts =>
      simp only [mSs, Bool.and_eq_true] at h
      exact s_cons (simS _ _ _ _ X s st G B h.1) (simSs _ _ _ _ X r sts G B h.2)
end
end
end Mj
/-! Mj19: defs. -/
namespace Mj
open PySem PySem.Spec PyProof.Rows L2

theorem deeper_guards {A : Around} {env : Env} (h : A.guards = some []) : (A.deeper env).guards = some [] := h
/-- how a def takes its arguments: qs its parameters, the star parameter last -/
structure Takes1 (K : PySem.W.Frag) (fd : FuncData) (f : Fn) (qs : List Str) (kws : List (List Str × List Nat)) : Prop where
  pos : f.star = false → f.np = qs.length ∧ Binds K fd qs []
  star : f.star = true → ∃ ps pv, qs = ps ++ [pv] ∧ f.np = ps.length ∧ ∀ us rest : List Value, us.length = ps.length → bindArgs fd ⟨us ++ rest, []⟩ = (newTuple rest >>= fun t => pure (ps.zip us ++ [(pv, t)]))
  kw : ∀ q ∈ kws, f.star = false ∧ (∀ us : List Value, us.length = q.1.length → (q.2.filterMap (us[·]?)).length = qs.length ∧ ∀ s : Shared, K.In s.heap → BindsTo s fd ⟨[], q.1.zip us⟩ (qs.zip (q.2.filterMap (us[·]?))))
/-- a def of the text and its small body -/
structure DefOk (g : Cfg) (fb : FB) (T : Nat → Option Fn) (K : PySem.W.Frag) (mg : Str → Option Value) (base : Heap) (i : Nat) (x : Str) : Prop where
  mgx : mg x = some (.ref (fb i))
  ex : ∃ (st : Stmt) (N qs : List Str) (fd : FuncData) (f : Fn), Fun K x x st (fb i) fd ∧ FnScope N qs (defScope st) ∧ T i = some f ∧ f.ns = N.length ∧
    ((f.ask = false ∧ Takes1 K fd f qs (g.kws i) ∧ ((mSs g N (defScope st) ⟨3, none, none⟩ f.body (defBody st) = true) ∨
        (mSs g N (defScope st) ⟨0, none, none⟩ f.body (defBody st) = true ∧ ∃ c P, fd.code = .ref c ∧ LamX.TabB base mg c P ∧ (P, (x ++ ".<locals>.") ++ "<lambda>") ∈ fb.T ∧ ∀ p ∈ fb.T, p.1 = P → p.2 = (x ++ ".<locals>.") ++ "<lambda>"))) ∨
     (f.ask = true ∧ ∃ a, qs = [a] ∧ g.askf i = some a ∧ okName a = true ∧ Binds K fd [a] [] ∧ N[0]? = some a ∧ visB (defScope st) a = true ∧ mSs g N (defScope st) ⟨1, none, some a⟩ f.body (defBody st) = true))
section
variable {g : Cfg} {cl : Calls} {sub : Nat → Nat → Bool} {fb : FB} {P : Program} {w : World} {K : PySem.W.Frag} {mg : Str → Option Value} {base : Heap} {T : Nat → Option Fn}
theorem startR {fa : FB} {res β : List Addr} {H : Hp} {ds : List D} {vs : List V} {n : Nat} {N : List Str} (hf : fa.fix = []) (r : Reps fa β res H ds vs) (hn : n = N.length) : RepS fa β res H (ds.map some ++ List.replicate (n - ds.length) none) (start N vs) := by
  refine ⟨?_, fun p hp => (by rw [hf] at hp; cases hp), fun i d h => ?_⟩
  · unfold L2.start
    simp [r.length, hn]
  · unfold L2.start
    by_cases hi : i < ds.length
    · rw [List.getElem?_append_left (by simpa using hi), List.getElem?_map] at h
      cases q : ds[i]? with
      | none => rw [q] at h; cases h
      | some d' =>
        rw [q] at h
        cases h
        obtain ⟨v, h1, h2⟩ := r.get q
        refine ⟨v, ?_, h2⟩
        rw [List.getElem?_append_left (by rw [List.length_map, ← r.length]; exact hi), List.getElem?_map, h1]
        rfl
    · rw [List.getElem?_append_right (by simpa using hi), List.getElem?_replicate] at h
      split at h <;> cases h
theorem FnG.bad {k : Nat} {f : Addr} {kws : List (List Str × List Nat)} {c : List D → MH → Rx D} (h : ∀ ds M, c ds M = .bad) : FnG P w K mg base k f (spD fb c) kws := by
  have no : ∀ {vs : List V} {H : Hp} {Q : VK} {E : XK}, spD fb c vs H Q E → False := by
    rintro vs H Q E ⟨res, β, M, ds, S, r, p⟩
    rw [h] at p
    exact p
  exact ⟨fun A outer s H us vs Q E _ _ _ _ z => (no z).elim, fun q _ A outer s H us vs Q E _ _ _ _ _ z => (no z).elim⟩
/-- where a def's body begins -/
def Begin (fb : FB) (f : Fn) (E1 : EvC) (N : List Str) (Q : VK) (E : XK) (vs : List V) (H : Hp) : Prop := ∃ res β M ρ, Sim fb β res M H ∧ RepS fb β res H ρ (start N vs) ∧ PR fb (fun c d _ H' => E c d H') res β H [] (match exSs f.body E1 ρ M with
    | .ok (.nx _) M1 => .ok .non M1
    | .ok (.rt d) M1 => .ok d M1
    | .ok (.xc x _) M1 => .exc x M1
    | .bad => .bad) fun d M' => Post fb res β H d M' Q
theorem begin_tF {f : Fn} {E1 : EvC} {N : List Str} {Q : VK} {E : XK} {vs : List V} {H : Hp} (h : Begin fb f E1 N Q E vs H) : tF fb (fun c d _ H' => E c d H') (exSs f.body E1) { nx := fun _ H' => Q .non H', rt := Q } (start N vs) H := by
  obtain ⟨res, β, M, ρ, S, R, h⟩ := h
  cases q : exSs f.body E1 ρ M with
  | bad => rw [q] at h; exact h.elim
  | ok o M1 =>
    rw [q] at h
    refine ⟨res, β, ρ, M, o, M1, S, R, q, ?_⟩
    cases o with
    | nx ρ1 => exact fun σ' H' β' st' S' R' => h .non H' β' st' S' .non
    | rt d => exact h
    | xc x ρ1 => exact fun σ' H' β' cls dd st s r rx => h H' β' cls dd st s rx
/-- the context of a def's body -/
theorem defG {k : Nat} {x : Str} {st : Stmt} {N : List Str} {i : Nat} {cdv : Value} {A : Around} {outer : List Env} {s : Shared} {H : Hp} {E : XK} {qs : List Str} {m : Md} {E1 : EvC} (G : GoodG g E1.cl E1.sub fb k P w K mg base) (hfb : fb = fb.bare) (hK : K = fb.K) (S : FnScope N qs (defScope st)) (hm : m.n = 0 ∨ m.n = 3) (he : m.en = none)
    (hr : Room (k + 2) (A.deeper (envOfC x (defScope st) s.heap.objs.size (fb i) cdv))) (hgd : A.guards = some []) (hl : m.n = 0 → ∃ c P, cdv = .ref c ∧ LamX.TabB base mg c P ∧ (P, (x ++ ".<locals>.") ++ "<lambda>") ∈ fb.T ∧ ∀ p ∈ fb.T, p.1 = P → p.2 = (x ++ ".<locals>.") ++ "<lambda>") :
    GoodX g E1 fb (fun c d _ H' => E c d H') N k m (defScope st) (cxOf (L2.CX P w) P w K mg base N x (defScope st) (fb i) cdv A outer s H E) :=
  { hN := rfl, hK := hK, nd := S.nd, un := by have := hr.un; show (A.deeper (envOfC x (defScope st) s.heap.objs.size (fb i) cdv)).units + 65 < cLine; omega, gd := deeper_guards hgd
    tk := takes_of rfl rfl rfl rfl, pass := passes_of rfl, calm := fun _ => ⟨rfl, hr.mono (by omega)⟩, hot := fun z => by rcases hm with y | y <;> rw [y] at z <;> cases z
    bare := fun _ => hfb
    vis := fun y hy => by
      show Vis (defScope st) y
      unfold visB at hy
      split at hy
      · rename_i q; exact .inl q
      · rename_i q; exact .inr (.inl q)
      · rename_i q; exact .inr (.inr q)
      · cases hy
    gl := fun y hy => hy, loc := fun y hy => hy, cel := fun y hy => ⟨hy, rfl⟩, fre := fun y hy => .inr hy
    G := by rw [← hfb]; exact G
    lam := fun z => by
      obtain ⟨c, Pl, h1, h2, h3, h4⟩ := hl z
      exact ⟨hr, fun _ => rfl, c, Pl, h2, h1, h3, h4⟩
    ask := fun a z => by rcases hm with y | y <;> rw [y] at z <;> cases z
    cur := fun n z => by rw [he] at z; cases z
    fixN := fun p hp => by rw [hfb] at hp; cases hp }
theorem fn_sim {k : Nat} {x : Str} {st : Stmt} {i : Nat} {fd : FuncData} {N qs : List Str} {f : Fn} {E1 : EvC} (G : GoodG g E1.cl E1.sub fb k P w K mg base) (hfb : fb = fb.bare) (hK : K = fb.K) (F : Fun K x x st (fb i) fd) (S : FnScope N qs (defScope st)) (hns : f.ns = N.length) (ha : f.ask = false) (Tk : Takes1 K fd f qs (g.kws i))
    (hm : (mSs g N (defScope st) ⟨3, none, none⟩ f.body (defBody st) = true) ∨ (mSs g N (defScope st) ⟨0, none, none⟩ f.body (defBody st) = true ∧ ∃ c P, fd.code = .ref c ∧ LamX.TabB base mg c P ∧ (P, (x ++ ".<locals>.") ++ "<lambda>") ∈ fb.T ∧ ∀ p ∈ fb.T, p.1 = P → p.2 = (x ++ ".<locals>.") ++ "<lambda>")) :
    FnG P w K mg base (k + 3) (fb i) (spD fb (runFn E1 f)) (g.kws i) := by
  obtain ⟨oc, od, kV, doc, pm, an, cdv, ct, osl, efd, lk, hcd⟩ := F.ex
  have nofix : fb.fix = [] := by rw [hfb]; rfl
  have body : ∀ {A : Around} {outer : List Env} {s : Shared} {H : Hp} {vs : List V} {Q : VK} {E : XK}, A.guards = some [] → Room (k + 2) (A.deeper (envOfC x (defScope st) s.heap.objs.size (fb i) cdv)) → Begin fb f E1 N Q E vs H → ∃ t, PSs (cxOf (L2.CX P w) P w K mg base N x (defScope st) (fb i) cdv A outer s H E) (defBody st) t ∧ t { nx := fun _ H' => Q .non H', rt := Q } (start N vs) H := by
    intro A outer s H vs Q E hgd hr hb
    have B : Body (cxOf (L2.CX P w) P w K mg base N x (defScope st) (fb i) cdv A outer s H E) := ⟨S.kind, rfl, rfl⟩
    rcases hm with hm | ⟨hm, c, Pl, h1, h2, h3, h4⟩
    · exact ⟨_, simSs _ _ _ _ _ f.body (defBody st) (defG G hfb hK S (.inr rfl) rfl hr hgd fun z => by cases z) B hm, begin_tF hb⟩
    · exact ⟨_, simSs _ _ _ _ _ f.body (defBody st) (defG G hfb hK S (.inl rfl) rfl hr hgd fun z => ⟨c, Pl, by rw [← h1, efd], h2, h3, h4⟩) B hm, begin_tF hb⟩
  have plain : f.star = false → ∀ {A : Around} {outer : List Env} {s : Shared} {H : Hp} {args : Args} {us : List Value} {vs : List V} {Q : VK} {E : XK}, Room (k + 3) A → A.guards = some [] → Env0 P w K mg base A outer s H → Vals vs us → BindsTo s fd args (qs.zip us) → spD fb (runFn E1 f) vs H Q E →
      codeAny (model P w) A (.call (.ref (fb i)) args) (CR (L2.CX P w) outer P w H s Q E) s := by
    intro hst A outer s H args us vs Q E hr hgd e0 rel hbd hsp
    obtain ⟨res, β, M, ds, Si, r, p⟩ := hsp
    have len : ds.length = f.np := by
      unfold runFn startOf at p
      simp only [ha, hst, Bool.false_eq_true, if_false] at p
      by_cases q : ds.length = f.np
      · exact q
      · simp only [q, if_false] at p; exact p.elim
    subst efd
    refine StX.run_bnd (N := N) (ps := qs) (G := fun vs' H2 => vs' = vs ∧ H2 = H) lk hcd S hr e0 (fun A' Ex Q' h => hbd _ _ _ _ (h s H vs us e0 Un.refl rfl (fun _ _ z => z) rel ?_ ⟨rfl, rfl⟩)) fun s2 H2 vs' ⟨e1, e2⟩ hr' => ?_
    · rw [← r.length, len, (Tk.pos hst).1]
    · subst e1 e2
      refine body hgd hr' ⟨res, β, M, ds.map some ++ List.replicate (f.ns - ds.length) none, Si, startR nofix r hns, ?_⟩
      unfold runFn startOf at p
      simp only [ha, hst, Bool.false_eq_true, if_false, len, if_true] at p
      rw [len]
      exact p
  refine ⟨fun A outer s H us vs Q E hr hgd e0 rel hsp => ?_, fun q hq A outer s H us vs Q E hr hgd e0 rel hul hsp => ?_⟩
  · cases hst : f.star with
    | false =>
      obtain ⟨res, β, M, ds, Si, r, p⟩ := id hsp
      have len : ds.length = f.np := by
        unfold runFn startOf at p
        simp only [ha, hst, Bool.false_eq_true, if_false] at p
        by_cases q : ds.length = f.np
        · exact q
        · simp only [q, if_false] at p; exact p.elim
      have kin : K.In s.heap := e0.mod.kin.keeps fun b o e => (e0.bs b o e).1
      have hb := (Tk.pos hst).2 s us kin (by rw [List.append_nil, ← rel.length, ← r.length, len]; exact (Tk.pos hst).1)
      rw [List.append_nil] at hb
      exact plain hst hr hgd e0 rel hb hsp
    | true =>
      obtain ⟨ps, pv, e1, e2, hb⟩ := Tk.star hst
      subst e1
      obtain ⟨res, β, M, ds, Si, r, p⟩ := hsp
      have len : f.np ≤ ds.length ∧ ds.length ≤ 1000 := by
        unfold runFn startOf at p
        simp only [ha, hst, Bool.false_eq_true, if_false, if_true] at p
        by_cases q : f.np ≤ ds.length ∧ ds.length ≤ 1000
        · exact q
        · simp only [q, if_false] at p; exact p.elim
      subst efd
      have hsl : (1000 : Nat) ≤ sizeLine := by decide
      have hvl : vs = vs.take f.np ++ vs.drop f.np := (List.take_append_drop _ _).symm
      rw [hvl] at rel
      obtain ⟨u1, u2, eu, r1, r2⟩ := StX.vals_split rel
      subst eu
      have hlv : (vs.take f.np).length = ps.length := by rw [List.length_take, ← r.length, ← e2]; omega
      have hl1 : u1.length = ps.length := by rw [← r1.length]; exact hlv
      have hz : (vs.drop f.np).length ≤ sizeLine := by rw [List.length_drop, ← r.length]; omega
      have hl2 : u2.length ≤ sizeLine := by rw [← r2.length]; exact hz
      have hn : H s.heap.objs.size = none := e0.hok.fresh (Nat.le_refl _)
      refine StX.run_bnd (N := N) (ps := ps ++ [pv]) (G := fun xs H2 => ∃ p o, H p = none ∧ TupO o ∧ xs = vs.take f.np ++ [V.ref p] ∧ H2 = upd H p (.frz o (.tup (vs.drop f.np)))) lk hcd S hr e0 (fun A' Ex Q' h => ?_) fun s2 H2 xs ⟨p0, o, hp, ho, ex, eH⟩ hr' => ?_
      · rw [hb u1 u2 hl1]
        refine wpAny_bind (wpAny_newTuple (wpAny_pure ?_) hl2)
        have new : ObjOk P w (upd H s.heap.objs.size (.frz { cls := .type "tuple", data := .seq u2.toArray } (.tup (vs.drop f.np)))) (s.heap.push ({ cls := .type "tuple", data := .seq u2.toArray } : Obj)) s.heap.objs.size (.frz { cls := .type "tuple", data := .seq u2.toArray } (.tup (vs.drop f.np))) := ⟨Heap.get?_push_size _ rfl, hz, u2, r2, IsTup.new _ _⟩
        have un := StX.un_laid (fs := frs outer) (s := s) (o := ({ cls := .type "tuple", data := .seq u2.toArray } : Obj)) (u := .frz { cls := .type "tuple", data := .seq u2.toArray } (.tup (vs.drop f.np))) hn
        have z := h _ _ (vs.take f.np ++ [V.ref s.heap.objs.size]) (u1 ++ [Value.ref s.heap.objs.size]) (StX.env0_laid e0 new) un rfl (fun e s' => StX.cxUp outer s H _ _ E e s' un (fun b o q => Heap.get?_push_of_some _ q) rfl) (r1.append (.cons rfl .nil)) (by rw [List.length_append, List.length_append, hlv]; rfl) ⟨_, _, hn, ⟨rfl, rfl, _, _, rfl⟩, rfl, rfl⟩
        rw [List.zip_append hl1.symm] at z
        exact z
      · subst ex eH
        have stp := step_new (mv := []) (β := β) (o := .frz o (.tup (vs.drop f.np))) hp
        have rr : Reps fb β res (upd H p0 (.frz o (.tup (vs.drop f.np)))) (ds.take f.np ++ [.tup (ds.drop f.np)]) (vs.take f.np ++ [V.ref p0]) := ((r.take f.np).step stp (by simp)).append (.cons (.tup upd_same ho (Si.fresh hp) (fun q => Si.rt p0 q hp) ((r.drop f.np).step stp (by simp))) .nil)
        have R := startR nofix rr hns
        have e3 : ((ds.take f.np ++ [D.tup (ds.drop f.np)]).map some ++ List.replicate (f.ns - (ds.take f.np ++ [D.tup (ds.drop f.np)]).length) none) = (ds.take f.np).map some ++ [some (.tup (ds.drop f.np))] ++ List.replicate (f.ns - (f.np + 1)) none := by
          rw [List.map_append, List.length_append, List.length_take, Nat.min_eq_left len.1]
          rfl
        rw [e3] at R
        refine body hgd hr' ⟨res, β, M, _, Si.new hp, R, ?_⟩
        unfold runFn startOf at p
        simp only [ha, hst, Bool.false_eq_true, if_false, if_true, len, and_self] at p
        exact (p.after stp).imp fun d M' _ q => q.after stp
  · obtain ⟨hst, hk⟩ := Tk.kw q hq
    obtain ⟨h1, h2⟩ := hk us hul
    have kin : K.In s.heap := e0.mod.kin.keeps fun b o e => (e0.bs b o e).1
    exact plain hst hr hgd e0 (vals_pick rel q.2) (h2 s kin) hsp
end
end Mj
/-! Mj20: defs that ask; all defs at once. -/
namespace Mj
open PySem PySem.Spec PyProof.Rows L2

section
variable {g : Cfg} {cl : Calls} {sub : Nat → Nat → Bool} {fb : FB} {P : Program} {w : World} {K : PySem.W.Frag} {mg : Str → Option Value} {base : Heap} {T : Nat → Option Fn}
theorem ask_sim {k k' : Nat} {x a : Str} {st : Stmt} {i : Nat} {fd : FuncData} {N : List Str} {f : Fn} (G : GoodG g cl sub fb k P w K mg base) (hfb : fb = fb.bare) (hK : K = fb.K) (hkk : k ≤ k') (F : Fun K x x st (fb i) fd) (S : FnScope N [a] (defScope st)) (hns : f.ns = N.length) (ha : f.ask = true) (hoka : okName a = true) (hb : Binds K fd [a] []) (hN : N[0]? = some a) (hv : visB (defScope st) a = true)
    (hm : mSs g N (defScope st) ⟨1, none, some a⟩ f.body (defBody st) = true) : AskG P w K mg base fb k' (fb i) x a fun ask M => runFn ⟨cl, ask, none, sub⟩ f [] M := by
  obtain ⟨oc, od, kV, doc, pm, an, cdv, ct, osl, efd, lk, hcd⟩ := F.ex
  subst efd
  have vis : Vis (defScope st) a := by
    unfold visB at hv
    split at hv
    · rename_i q; exact .inl q
    · rename_i q; exact .inr (.inl q)
    · rename_i q; exact .inr (.inr q)
    · cases hv
  refine ⟨_, _, _, _, _, _, _, _, _, _, _, _, _, N, lk, hcd, hb, S, hN, vis, hoka, fun X q e1 e2 e3 e4 e5 hgd => ?_⟩
  subst e1 e2 e3 e4 e5
  intro fA c' s H Q tl hr act hco tt
  obtain ⟨res, β, M, ask, kn, d, M', Si, er, lam, Po⟩ := tt
  have hN0 : 0 < N.length := (List.getElem?_eq_some_iff.mp hN).1
  let fz : FB := { fb with fix := [(0, .ref fA)], fixH := [(c', LamX.CodeO c' q)], kn := kn }
  have nb : c' ∉ β := fun z => by
    have := Si.plB z _ hco
    rcases this with ⟨_, h⟩ | ⟨_, h⟩ <;> cases h
  have nr : c' ∉ res := fun z => by
    have := Si.rp _ z _ hco
    rcases this with ⟨_, h⟩ | ⟨_, h⟩ <;> cases h
  have ntb : NoTbl (LamX.CodeO c' q) := fun ps z => LamX.codeO_ne ps z
  have toZ : ∀ {β' res' : List Addr} {M1 : MH} {H' : Hp}, Sim { fb with kn := kn } β' res' M1 H' → H' c' = some (LamX.CodeO c' q) → c' ∉ β' → c' ∉ res' → Sim fz β' res' M1 H' := fun s1 h1 h2 h3 =>
    ⟨s1.len, s1.nd, s1.nr, s1.rt, s1.rp, s1.tabs, fun p hp => by rw [List.mem_singleton.mp hp]; exact ⟨h1, h2, h3, ntb⟩, s1.kn, s1.at_⟩
  have ofZ : ∀ {β' res' : List Addr} {M1 : MH} {H' : Hp}, Sim fz β' res' M1 H' → Sim { fb with kn := kn } β' res' M1 H' := fun s1 => ⟨s1.len, s1.nd, s1.nr, s1.rt, s1.rp, s1.tabs, fun p hp => (by
    have : fb.fixH = [] := by rw [hfb]; rfl
    rw [show ({ fb with kn := kn } : FB).fixH = fb.fixH from rfl, this] at hp
    cases hp), s1.kn, s1.at_⟩
  have GX : GoodX g ⟨cl, ask, none, sub⟩ fz W0 N k ⟨1, none, some a⟩ (defScope st) (cxOf CX0 X.prog X.w X.K X.mg X.base N x (defScope st) (fb i) cdv X.A X.stack s H E0).nox :=
    { hN := rfl, hK := hK, nd := S.nd, un := by have := hr.un; show (X.A.deeper (envOfC x (defScope st) s.heap.objs.size (fb i) cdv)).units + 65 < cLine; omega, gd := deeper_guards hgd
      tk := LamX.takes0, pass := PassesOwn.never, calm := fun _ => ⟨rfl, hr.mono (by omega)⟩, hot := fun z => by cases z
      bare := fun z => by rcases z with z | z <;> cases z
      vis := fun y hy => by
        show Vis (defScope st) y
        unfold visB at hy
        split at hy
        · rename_i q; exact .inl q
        · rename_i q; exact .inr (.inl q)
        · rename_i q; exact .inr (.inr q)
        · cases hy
      gl := fun y hy => hy, loc := fun y hy => hy, cel := fun y hy => ⟨hy, rfl⟩, fre := fun y hy => .inr hy
      G := by
        have : fz.bare = fb := by rw [hfb]; rfl
        rw [this]; exact G
      lam := fun z => by cases z
      ask := fun a' _ ha' W' pn xe tk p1 p2 => by
        cases ha'
        refine PE.weak (act W' pn xe p1 p2 tk) fun σZ HZ Q' h => ?_
        obtain ⟨res', β', ρ', M1, S', R', pr⟩ := h
        have fx := S'.fx (c', LamX.CodeO c' q) List.mem_cons_self
        refine ⟨R'.fx (0, .ref fA) List.mem_cons_self, fx.1, lam _ HZ Q' res' β' M1 (ofZ S') ?_⟩
        have back : ∀ {H'' : Hp} {β'' : List Addr} {M2 : MH}, Step [] β' HZ β'' H'' → Sim { fb with kn := kn } β'' res' M2 H'' → Sim fz β'' res' M2 H'' := fun st2 s2 => toZ s2 (st2.keep _ _ fx.1 fx.2.1 (by simp) ntb) (st2.notin (by rw [fx.1]; simp) fx.2.1) fx.2.2.1
        simp only at pr
        cases z : ask M1 with
        | ok d2 M2 =>
          rw [z] at pr
          exact fun v H'' β'' st2 s2 r2 => pr v H'' β'' st2 (back st2 s2) r2
        | exc x2 M2 =>
          rw [z] at pr
          exact fun H'' β'' cls dd st2 s2 rx => pr H'' β'' cls dd st2 (back st2 s2) rx
        | bad => rw [z] at pr; exact pr
      cur := fun n z => by cases z
      fixN := fun p hp => by rw [List.mem_singleton.mp hp]; exact ⟨a, hN, .inr rfl⟩ }
  refine ⟨_, simSs _ _ _ _ _ f.body (defBody st) GX ⟨S.kind, rfl, rfl⟩ hm, ?_⟩
  have SZ : Sim fz β res M H := toZ Si hco nb nr
  have RZ : RepS fz β res H (List.replicate f.ns none) (start N [.ref fA]) := by
    refine ⟨?_, fun p hp => ?_, fun j e hj => ?_⟩
    · unfold L2.start
      simp [hns]
      omega
    · rw [List.mem_singleton.mp hp]
      rfl
    · rw [List.getElem?_replicate] at hj
      split at hj <;> cases hj
  have er' : (match exSs f.body ⟨cl, ask, none, sub⟩ (List.replicate f.ns none) M with
      | .ok (.nx _) M1 => Rx.ok D.non M1
      | .ok (.rt d) M1 => .ok d M1
      | .ok (.xc x _) M1 => .exc x M1
      | .bad => .bad) = .ok d M' := by
    have := er
    simp only [runFn, startOf, ha, if_true, List.length_nil] at this
    exact this
  cases z : exSs f.body ⟨cl, ask, none, sub⟩ (List.replicate f.ns none) M with
  | bad => rw [z] at er'; cases er'
  | ok o M1 =>
    rw [z] at er'
    refine ⟨res, β, _, M, o, M1, SZ, RZ, z, ?_⟩
    cases o with
    | nx ρ1 => cases er'; exact fun σ' H' β' st' S' R' => Po .non H' β' st' (ofZ S') .non
    | rt d1 => cases er'; exact fun v H' β' st' s' r' => Po v H' β' st' (ofZ s') r'
    | xc x1 ρ1 => cases er'
theorem ask_bad {k : Nat} {x a : Str} {st : Stmt} {i : Nat} {fd : FuncData} {N : List Str} {c : Ask → MH → Rx D} (F : Fun K x x st (fb i) fd) (S : FnScope N [a] (defScope st)) (hoka : okName a = true) (hb : Binds K fd [a] []) (hN : N[0]? = some a) (hv : visB (defScope st) a = true) (hc : ∀ ask M, c ask M = .bad) : AskG P w K mg base fb k (fb i) x a c := by
  obtain ⟨oc, od, kV, doc, pm, an, cdv, ct, osl, efd, lk, hcd⟩ := F.ex
  subst efd
  have vis : Vis (defScope st) a := by
    unfold visB at hv
    split at hv
    · rename_i q; exact .inl q
    · rename_i q; exact .inr (.inl q)
    · rename_i q; exact .inr (.inr q)
    · cases hv
  refine ⟨_, _, _, _, _, _, _, _, _, _, _, _, _, N, lk, hcd, hb, S, hN, vis, hoka, fun X q e1 e2 e3 e4 e5 hgd => ?_⟩
  intro fA c' s H Q tl hr act hco tt
  obtain ⟨res, β, M, ask, kn, d, M', Si, er, lam, Po⟩ := tt
  rw [hc] at er
  cases er
/-- the facts that do not change with the depth -/
structure Facts (g : Cfg) (sub : Nat → Nat → Bool) (fb : FB) (T : Nat → Option Fn) (P : Program) (w : World) (K : PySem.W.Frag) (mg : Str → Option Value) (base : Heap) : Prop where
  bare : fb = fb.bare
  hK : K = fb.K
  defs : ∀ i x, g.fnm[i]? = some x → DefOk g fb T K mg base i x
  tab : ∀ i f, T i = some f → (∃ x, g.fnm[i]? = some x) ∧ ∀ a, g.askf i = some a → f.ask = true
  kp : ∀ i, PySem.W.keepIn K (.ref (fb i)) = true
  gls : ∀ p ∈ g.gl, GOk mg fb p.1 p.2
  bis : ∀ x ∈ g.bis, mg x = none
  clsn : ∀ c x, g.cls[c]? = some x → (∃ C, fb.cv c = .ref C ∧ mg x = some (.ref C)) ∨ (∃ T, fb.cv c = .type T ∧ mg x = none ∧ bootBuiltins x = some (.type T) ∧ x ≠ "__name__")
  subs : ∀ k c, PySem.W.kitOne K (fb.cv k) (fb.cv c) = some (sub k c) ∧ PySem.W.exmOne K (fb.cv k) (fb.cv c) = some (sub k c)
  excs : ∀ k x ps, g.cls[k]? = some x → g.xps k = some ps → ExcR P w K mg base (fb.cv k) x ps
  exck : ∀ k c, sub k c = true → c < g.nown → ∃ D, fb.cv k = .ref D ∧ ExcK K D ∧ ∀ f ∈ g.fld, PySem.W.findIn K (.ref D) f = some none
def lvl (n : Nat) : Nat := 3 * n + 4
theorem all_ok (h : Facts g sub fb T P w K mg base) : ∀ n, GoodG g (callN T sub n) sub fb (lvl n) P w K mg base
  | 0 => { k4 := by decide, fns := fun i x hx => (h.defs i x hx).mgx, fnG := fun i => ⟨FnG.bad fun _ _ => rfl, h.kp i⟩
           askG := fun i x a hx ha => by
             obtain ⟨st, N, qs, fd, f, F, S, t1, t2, t3⟩ := (h.defs i x hx).ex
             rcases t3 with ⟨z1, z2, _⟩ | ⟨z1, a', z2, z3, z4, z5, z6, z7, z8⟩
             · rw [(h.tab i f t1).2 a ha] at z1
               cases z1
             · rw [ha] at z3
               cases z3
               subst z2
               exact ask_bad F S z4 z5 z6 z7 fun _ _ => rfl
           gls := h.gls, bis := h.bis, clsn := h.clsn, subs := h.subs, excs := h.excs, exck := h.exck }
  | n + 1 => { k4 := by unfold lvl; omega, fns := fun i x hx => (h.defs i x hx).mgx
               fnG := fun i => ⟨by
                 cases q : T i with
                 | none => exact FnG.bad fun _ _ => by simp only [callN, q]
                 | some f =>
                   obtain ⟨⟨x, hx⟩, _⟩ := h.tab i f q
                   obtain ⟨st, N, qs, fd, f', F, S, t1, t2, t3⟩ := (h.defs i x hx).ex
                   rw [q] at t1
                   cases t1
                   rcases t3 with ⟨z1, z2, z3⟩ | ⟨z1, _⟩
                   · have e : (fun ds M => callN T sub (n + 1) i ds none M) = runFn ⟨callN T sub n, noAsk, none, sub⟩ f := by
                       funext ds M
                       simp only [callN, q, z1]
                     rw [e]
                     exact fn_sim (E1 := ⟨callN T sub n, noAsk, none, sub⟩) (all_ok h n) h.bare h.hK F S t2 z1 z2 z3
                   · exact FnG.bad fun _ _ => by simp only [callN, q, z1], h.kp i⟩
               askG := fun i x a hx ha => by
                 obtain ⟨st, N, qs, fd, f, F, S, t1, t2, t3⟩ := (h.defs i x hx).ex
                 rcases t3 with ⟨z1, z2, _⟩ | ⟨z1, a', z2, z3, z4, z5, z6, z7, z8⟩
                 · rw [(h.tab i f t1).2 a ha] at z1
                   cases z1
                 · rw [ha] at z3
                   cases z3
                   subst z2
                   have e : (fun ask M => callN T sub (n + 1) i [] (some ask) M) = fun ask M => runFn ⟨callN T sub n, ask, none, sub⟩ f [] M := by
                     funext ask M
                     simp only [callN, t1, z1]
                   rw [e]
                   exact ask_sim (all_ok h n) h.bare h.hK (by unfold lvl; omega) F S t2 z1 z4 z5 z6 z7 z8
               gls := h.gls, bis := h.bis, clsn := h.clsn, subs := h.subs, excs := h.excs, exck := h.exck }
end
end Mj
/-! Mj21: the law's own call, from the evaluation of its small body. -/
namespace Mj
open PySem PySem.Spec PyProof.Rows L2

/-- what is tracked at the beginning: the script, if it is no object of the module, and the tables of the defs that make lambdas -/
def H0 (T : List (Addr × Str)) (S : Option (Addr × HO)) : Hp := fun b => match S with
  | some (a, o) => if b = a then some o else if b ∈ T.map Prod.fst then some (.tbl #[]) else none
  | none => if b ∈ T.map Prod.fst then some (.tbl #[]) else none
/-- a def's table, at the law's heap -/
structure TabAt0 (K : PySem.W.Frag) (h : Heap) (P : Addr) : Prop where
  at_ : h.get? P = some (PySem.W.tabObj #[])
  cod : ∃ c, PySem.W.CodeHd h c P
  out : K.lookup P = none
theorem law_run {P : Program} {w : World} {mg mb : Str → Option Value} {k : Nat} {fb : FB} {j : Nat} {a : Addr} {f : List D → MH → Rx D} {kws : List (List Str × List Nat)} {s₁ : Shared} {vs : List Value} {ns : List Int}
    (bare : fb = fb.bare) (inK : fb.K.In s₁.heap) (glo : s₁.heap.Ns mainGlobals mg) (blt : s₁.heap.Ns builtinsNs mb) (bltIs : ∀ x : Str, x ≠ "__name__" → mb x = bootBuiltins x) (nolim : s₁.heap.NoLimit) (nogen : s₁.gens = #[])
    (bm : ∃ bm ob, mg "__builtins__" = some (.ref bm) ∧ bm ≠ builtinsNs ∧ s₁.heap.get? bm = some ob ∧ ob.cls = .type "module" ∧ ob.dict = some builtinsNs ∧ ob.data = .plain)
    (at_a : s₁.heap.get? a = some { cls := .type "list", data := .seq vs.toArray }) (hints : IntsAre vs ns) (few : ns.length ≤ sizeLine) (hr : Room k callerA) (tabs : ∀ p ∈ fb.T, TabAt0 fb.K s₁.heap p.1)
    (F : ∀ base : Heap, fb.K.In base → base.Ns mainGlobals mg → (∀ p ∈ fb.T, ∀ c, PySem.W.CodeHd s₁.heap c p.1 → LamX.TabB base mg c p.1) → FnG P w fb.K mg base k (fb j) (spD fb f) kws)
    (ends : ∃ M', f [.scr ns] [] = .ok (.bl true) M') :
    codeAny (model P w) callerA (.call (.ref (fb j)) ⟨[.ref a], []⟩) (fun r s' => r = .ok (.ret (.bool true)) ∧ OldK s₁.heap s'.heap ∧ s'.os = s₁.os ∧ AllBare s'.gens) s₁ := by
  obtain ⟨M', ends⟩ := ends
  have rel := vals_ints hints
  have aT : a ∉ fb.T.map Prod.fst := fun z => by
    obtain ⟨p, hp, e⟩ := List.mem_map.mp z
    have := (tabs p hp).at_
    rw [e, at_a] at this
    cases this
  have go : ∀ S : Option (Addr × HO), (∀ b o, S = some (b, o) → b = a ∧ o = .frz { cls := .type "list", data := .seq vs.toArray } (.lst (ns.map V.int)) ∧ fb.K.lookup a = none) → Rep fb [] [] (H0 fb.T S) (.scr ns) (.ref a) →
      codeAny (model P w) callerA (.call (.ref (fb j)) ⟨[.ref a], []⟩) (fun r s' => r = .ok (.ret (.bool true)) ∧ OldK s₁.heap s'.heap ∧ s'.os = s₁.os ∧ AllBare s'.gens) s₁ := by
    intro S hS rep
    have cases0 : ∀ b u, H0 fb.T S b = some u → (b = a ∧ u = .frz { cls := .type "list", data := .seq vs.toArray } (.lst (ns.map V.int)) ∧ fb.K.lookup a = none) ∨ (b ∈ fb.T.map Prod.fst ∧ u = .tbl #[]) := by
      intro b u h
      unfold H0 at h
      split at h
      · rename_i a' o
        obtain ⟨e1, e2, e3⟩ := hS a' o rfl
        subst e1 e2
        split at h
        · rename_i z; cases h; exact .inl ⟨z, rfl, e3⟩
        · split at h
          · rename_i z; cases h; exact .inr ⟨z, rfl⟩
          · cases h
      · split at h
        · rename_i z; cases h; exact .inr ⟨z, rfl⟩
        · cases h
    have tblAt : ∀ b, b ∈ fb.T.map Prod.fst → H0 fb.T S b = some (.tbl #[]) := by
      intro b hb
      have ne : b ≠ a := fun z => aT (z ▸ hb)
      unfold H0
      split
      · rename_i a' o
        rw [if_neg (by rw [(hS a' o rfl).1]; exact ne), if_pos hb]
      · rw [if_pos hb]
    have tabOf : ∀ b, b ∈ fb.T.map Prod.fst → TabAt0 fb.K s₁.heap b := fun b hb => by
      obtain ⟨p, hp, e⟩ := List.mem_map.mp hb
      rw [← e]
      exact tabs p hp
    have hok : HOk P w (H0 fb.T S) s₁.heap := by
      intro b u h
      rcases cases0 b u h with ⟨rfl, rfl, _⟩ | ⟨hb, rfl⟩
      · exact ⟨at_a, by rw [List.length_map]; exact few, vs, _, rel, at_a⟩
      · exact (tabOf b hb).at_
    -- what stands and is neither the script nor a table is not tracked
    have un0 : ∀ {b : Addr} {o : Obj}, s₁.heap.get? b = some o → (∀ q n, o ≠ { cls := .type "list", data := .seq q n }) → o ≠ PySem.W.tabObj #[] → H0 fb.T S b = none := by
      intro b o e n1 n2
      cases q : H0 fb.T S b with
      | none => rfl
      | some u =>
        rcases cases0 b u q with ⟨rfl, _, _⟩ | ⟨hb, _⟩
        · rw [at_a] at e; cases e; exact absurd rfl (n1 _ _)
        · rw [(tabOf b hb).at_] at e; cases e; exact absurd rfl n2
    have nsIn : ∀ {b : Addr} {m : Str → Option Value}, s₁.heap.Ns b m → (hidT s₁.heap (H0 fb.T S)).Ns b m := by
      rintro b m ⟨o, es, ep, e1, e2, r⟩
      exact ⟨o, es, ep, hidT_get e1 (un0 e1 (fun q n z => by rw [z] at e2; cases e2) fun z => by rw [z] at e2; cases e2), e2, r⟩
    have kIn : fb.K.In (hidT s₁.heap (H0 fb.T S)) := by
      intro b o e1
      refine hidT_get (inK b o e1) ?_
      cases q : H0 fb.T S b with
      | none => rfl
      | some u =>
        rcases cases0 b u q with ⟨rfl, _, z⟩ | ⟨hb, _⟩
        · rw [z] at e1; cases e1
        · rw [(tabOf b hb).out] at e1; cases e1
    have mod : Mod fb.K mg (hidT s₁.heap (H0 fb.T S)) := by
      refine ⟨kIn, nsIn glo, ⟨mb, nsIn blt, bltIs⟩, ?_⟩
      obtain ⟨mc, h1, h2⟩ := nolim
      exact ⟨mc, nsIn h1, h2⟩
    have env : Env0 P w fb.K mg (hidT s₁.heap (H0 fb.T S)) callerA [] s₁ (H0 fb.T S) :=
      ⟨rfl, mod, fun b o e => of_hidT e, Nat.le_of_eq (hidT_size _ _), trivial, fun b hb => (nomatch hb), hok, .of_eq nogen⟩
    have tabB : ∀ p ∈ fb.T, ∀ c, PySem.W.CodeHd s₁.heap c p.1 → LamX.TabB (hidT s₁.heap (H0 fb.T S)) mg c p.1 := by
      intro p hp c hc
      have hcode : PySem.W.CodeHd (hidT s₁.heap (H0 fb.T S)) c p.1 := by
        obtain ⟨o, vs', file, tf, flags, tg, inF, text, tt, e, e2, r⟩ := hc
        exact ⟨o, vs', file, tf, flags, tg, inF, text, tt, hidT_get e (un0 e (fun q n z => by rw [z] at e2; exact absurd e2 (by simp)) fun z => by rw [z] at e2; cases e2), e2, r⟩
      obtain ⟨b, ob, b1, b2, b3, b4, b5, b6⟩ := bm
      obtain ⟨og, es, ep, g1, g2, _⟩ := glo
      refine ⟨hcode, ⟨b, ob, b1, b2, fun z => ?_, fun z => ?_, hidT_get b3 (un0 b3 (fun q n z => by rw [z] at b6; cases b6) fun z => by rw [z] at b6; cases b6), b4, b5, b6⟩, fun z => ?_⟩
      · rw [z, g1] at b3; cases b3; rw [b6] at g2; cases g2
      · rw [z, (tabs p hp).at_] at b3; cases b3; cases b6
      · rw [z, (tabs p hp).at_] at g1; cases g1; cases g2
    have sim0 : Sim fb [] [] [] (H0 fb.T S) := ⟨rfl, List.nodup_nil, fun _ h => (nomatch h), fun _ h => (nomatch h), fun _ h => (nomatch h), fun p hp => LamX.TabS.nil (tblAt _ (List.mem_map_of_mem hp)), fun p hp => (by rw [bare] at hp; cases hp), fun p hp => (by rw [bare] at hp; cases hp), fun n a o e _ => by simp at e⟩
    have sp : spD fb f [.ref a] (H0 fb.T S) (fun v _ => v = .bl true) (fun _ _ _ => False) := by
      refine ⟨[], [], [], [.scr ns], sim0, .cons rep .nil, ?_⟩
      rw [ends]
      exact fun v H' β' _ _ r => by cases r; rfl
    refine codeAny_mono ((F _ kIn (nsIn glo) tabB).run callerA [] s₁ (H0 fb.T S) [.ref a] [.ref a] _ _ hr rfl env (.cons rfl .nil) sp) fun r s' h => ?_
    cases r with
    | error e =>
      obtain ⟨_, _, _, _, _, _, _, _, _, _, _, _, z⟩ := h
      exact z.elim
    | ok fl =>
      cases fl with
      | next => exact False.elim h
      | brk => exact False.elim h
      | cont => exact False.elim h
      | ret u =>
        obtain ⟨v, H', os, allb, kept, hok', ru, q⟩ := h
        have q' : v = .bl true := q
        subst q'
        obtain rfl : u = Value.bool true := ru
        have ends' : ∀ b o, s₁.heap.get? b = some o → s'.heap.get? b = some o ∨ (b ∈ fb.T.map Prod.fst ∧ ∃ more, s'.heap.get? b = some { cls := .none, data := .fields (#[] ++ more) }) := by
          intro b o e
          cases q : H0 fb.T S b with
          | none => exact .inl (kept.keep b o e q (fun z => (nomatch z)) (by simp))
          | some u =>
            rcases cases0 b u q with ⟨rfl, rfl, _⟩ | ⟨hb, rfl⟩
            · obtain ⟨e2, _⟩ := hok' b _ (kept.frzs b _ _ q)
              rw [at_a] at e
              cases e
              exact .inl e2
            · obtain ⟨more, z⟩ := kept.tbls b _ q
              exact .inr ⟨hb, more, hok' b _ z⟩
        refine ⟨rfl, ⟨fun b o e => ?_, fun b o e => ?_⟩, os, allb⟩
        · rcases ends' b o e with z | ⟨hb, more, z⟩
          · exact .inl z
          · have t := tabOf b hb
            obtain ⟨c, hc⟩ := t.cod
            rw [t.at_] at e
            cases e
            exact .inr (.inl ⟨(hc.tab t.at_).isCodeTable, rfl, #[], more, rfl, z⟩)
        · rcases ends' b o e with z | ⟨hb, more, z⟩
          · exact ⟨_, z⟩
          · exact ⟨_, z⟩
  cases inside : fb.K.lookup a with
  | some o =>
    have e := inK a o inside
    rw [at_a] at e
    cases e
    refine go none (fun b o z => by cases z) (.scrK (.inr ⟨_, vs.toArray, _, inside, rfl, rfl, rfl, ?_, by simpa using rel⟩))
    rw [List.size_toArray, hints.length]
    exact few
  | none =>
    refine go (some (a, .frz { cls := .type "list", data := .seq vs.toArray } (.lst (ns.map V.int)))) (fun b o z => by cases z; exact ⟨rfl, rfl, inside⟩) (.scr (o := { cls := .type "list", data := .seq vs.toArray }) ?_ (by simp) (by simp))
    unfold H0
    exact if_pos rfl
/-- the goal behind k_head: what the top has left (facts), and the law's evaluation -/
theorem law_of {l : PySem.W.OpenLaw} {n k j : Nat} {q : Program} {loose : List Str} {XP : (Str → Option Value) → Heap → Prop} {YP : World → Heap → Prop} {d : DefRec} {K : Params → PySem.W.Frag} {g : Cfg} {sub : Nat → Nat → Bool} {T : Nat → Option Fn}
    (hn : l.most = some n) (hn2 : n ≤ sizeLine) (hdf : d.params.defaults = []) (hr : Room (lvl k) callerA) (hY : ∀ (w : World) (h : Heap), YP w h → (K w.params).In h) (hj : g.fnm[j]? = some d.name)
    (facts : ∀ (w : World) (mg : Str → Option Value) (h : Heap), (K w.params).In h → h.Ns mainGlobals mg → ∃ fb : FB, fb = fb.bare ∧ fb.K = K w.params ∧ (∀ i x, g.fnm[i]? = some x → mg x = some (.ref (fb i))) ∧ (∀ p ∈ fb.T, (K w.params).lookup p.1 = none ∧ ∃ x c d, PySem.W.tabIn (K w.params) x = some (c, p.1) ∧ (PyProof.Rows.recsOf q).find? (fun e => e.name == x) = some d) ∧
      ∀ base : Heap, (K w.params).In base → base.Ns mainGlobals mg → (∀ p ∈ fb.T, ∀ x c, PySem.W.tabIn (K w.params) x = some (c, p.1) → (∃ d, (PyProof.Rows.recsOf q).find? (fun e => e.name == x) = some d) → LamX.TabB base mg c p.1) → Facts g sub fb T l.prog w (K w.params) mg base)
    (ends : ∀ ns : List Int, ns.length ≤ n → ∃ M', callN T sub k j [.scr ns] none [] = .ok (.bl true) M') :
    PySem.W.WalkO q loose XP YP l.row.toRowW d [] (fun f vs => PySem.call f vs) := by
  refine Att.attach_call hn hdf fun w s₀ s₁ mg mb fad o pm cd doc a vs ns G Y ho hd hcd hmg hobj hints hlen hg => ?_
  have KX := hY w _ Y
  obtain ⟨fb, b0, b1, bm, b2, b3⟩ := facts w mg _ KX G.T.g
  have tabs : ∀ p ∈ fb.T, TabAt0 fb.K s₁.heap p.1 := fun p hp => by
    obtain ⟨z1, x, c, d', z2, z3⟩ := b2 p hp
    obtain ⟨y1, y2⟩ := PySem.W.tab_of G.T KX z3 z2
    exact ⟨y2, ⟨c, y1⟩, by rw [b1]; exact z1⟩
  have KX' : fb.K.In s₁.heap := by rw [b1]; exact KX
  have fx : ∀ base : Heap, fb.K.In base → base.Ns mainGlobals mg → (∀ p ∈ fb.T, ∀ c, PySem.W.CodeHd s₁.heap c p.1 → LamX.TabB base mg c p.1) → Facts g sub fb T l.prog w (K w.params) mg base := fun base k1 k2 k3 =>
    b3 base (by rw [← b1]; exact k1) k2 fun p hp x c z2 ⟨d', z3⟩ => k3 p hp c (PySem.W.tab_of G.T KX z3 z2).1
  have ej : fad = fb j := by
    have := hmg.symm.trans (bm j d.name hj)
    cases this
    rfl
  subst ej
  refine law_run (fb := fb) (j := j) (f := fun ds M => callN T sub k j ds none M) (kws := g.kws j) b0 KX' G.T.g G.T.b G.T.builtins G.T.nolimit hg G.T.bmain hobj hints (Nat.le_trans hlen hn2) hr tabs (fun base k1 k2 k3 => ?_) (ends ns hlen)
  have := ((all_ok (fx base k1 k2 k3) k).fnG j).1
  rw [b1]
  exact this
end Mj
/-! Mj22: what the written part says of exception classes. -/
namespace Mj
open PySem PySem.Spec PyProof.Rows L2

def clsStmt (st : Stmt) (i : Nat) : Stmt := match st with
  | .ClassDef _ _ _ body _ _ _ _ _ _ _ => body.getD i (.Pass ⟨0, 0, 0, 0⟩)
  | _ => .Pass ⟨0, 0, 0, 0⟩
def clsB (K : PySem.W.Frag) (C : Addr) (fl : List Str) : Bool :=
  (PySem.W.clsIn K C).isSome && (xfB K C && (decide (PySem.W.findIn K (.ref C) "__class__" = some (some (.builtin "object.__class__"))) && (decide (PySem.W.specialIn K (.builtin "object.__class__") "__get__" = some (some (.builtin "getset_descriptor.__get__"))) && (decide (PySem.W.takesIn K (.builtin "object.__class__") = some true) &&
    (decide (PySem.W.mroIn K C (.type "object") = some true) && fl.all fun f => decide (PySem.W.findIn K (.ref C) f = some none))))))
theorem clsB_ok {K : PySem.W.Frag} {C : Addr} {fl : List Str} (h : clsB K C fl = true) : ExcK K C ∧ ∀ f ∈ fl, PySem.W.findIn K (.ref C) f = some none := by
  simp only [clsB, Bool.and_eq_true, decide_eq_true_eq, List.all_eq_true] at h
  obtain ⟨h1, h2, h3, h4, h5, h6, h7⟩ := h
  exact ⟨⟨h1, xfB_ok h2, h3, h4, h5, h6⟩, h7⟩
def subsB (K : PySem.W.Frag) (cvs : List Value) (d : Value) (sub : Nat → Nat → Bool) : Bool :=
  (List.range cvs.length).all fun k => (List.range cvs.length).all fun c => decide (PySem.W.kitOne K (cvs.getD k d) (cvs.getD c d) = some (sub k c)) && decide (PySem.W.exmOne K (cvs.getD k d) (cvs.getD c d) = some (sub k c))
/-- numbers beyond the last are the first -/
def clip (n k : Nat) : Nat := if k < n then k else 0
theorem subs_ok {K : PySem.W.Frag} {cvs : List Value} {d : Value} {sub : Nat → Nat → Bool} (h : subsB K cvs d sub = true) (hn : 0 < cvs.length) : ∀ k c, PySem.W.kitOne K (cvs.getD (clip cvs.length k) d) (cvs.getD (clip cvs.length c) d) = some (sub (clip cvs.length k) (clip cvs.length c)) ∧ PySem.W.exmOne K (cvs.getD (clip cvs.length k) d) (cvs.getD (clip cvs.length c) d) = some (sub (clip cvs.length k) (clip cvs.length c)) := by
  have cl : ∀ k, clip cvs.length k < cvs.length := fun k => by unfold clip; split <;> omega
  intro k c
  have h1 := List.all_eq_true.mp h (clip cvs.length k) (List.mem_range.mpr (cl k))
  have h2 := List.all_eq_true.mp h1 (clip cvs.length c) (List.mem_range.mpr (cl c))
  simpa only [Bool.and_eq_true, decide_eq_true_eq] using h2
def okNames (ps : List Str) : Bool := ps.all okName
theorem excR_mk {P : Program} {w : World} {K : PySem.W.Frag} {mg : Str → Option Value} {base h : Heap} {x nm q qual file : Str} {C fI N cda cc : Addr} {bs bm sub : List Value} {sn : List Str} {ab : Bool} {col : Option Bool} {dd od an cdd cld : Option Addr} {k0 k1 k2 k3 k5 : Option Value} {oc kV doc pm ct ccl cl' : Value} {osl ccs csl : Array (Option Value)} {vs : Array Value} {tf : Tok} {cdD : ClassData} {st : Stmt} {ps : List Str}
    (X : K.In h) (G : h.Ns mainGlobals mg) (ca : PySem.W.nsIn K mainGlobals x = some (some (.ref C))) (cl : K.lookup C = some (excClassObj nm q C N bs bm true sn sub ab col dd k0 k1 k2 k3 k5 "ValueError.__new__")) (rf : PySem.HandSPX.refsVE bm = true)
    (iC : PySem.W.findIn K (.ref C) "__init__" = some (some (.ref fI))) (fL : K.lookup fI = some ⟨oc, od, .func (PySem.W.ksFn "__init__" qual (defArgs st) (defBody st) (defScope st) .none kV doc pm an (.ref cda) ct cc), osl⟩) (cI : PySem.W.codeIn K (.ref cda) qual = true)
    (cL : K.lookup cda = some ⟨ccl, cdd, .fields vs, ccs⟩) (v2 : vs[2]? = some (.str file tf)) (hfile : ((P.main.file : Str) == file) = true) (cC : K.lookup cc = some ⟨cl', cld, .cell (some (.ref C)), csl⟩) (cD : PySem.W.clsIn K C = some cdD) (mro : PySem.W.mroIn K C (.ref C) = some true)
    (opq : PySem.W.nsIn K cStatics "thirdparty.any" = some none) (sup : PySem.W.ks_superIn K C C "__init__" = some (some (.builtin "ValueError.__init__"))) (ve : PySem.W.subIn K (.ref C) (.type "ValueError") = some true) (sa : PySem.W.findIn K (.ref C) "__setattr__" = some (some (.builtin "object.__setattr__")))
    (exC : PySem.W.subIn K (.ref C) (.type "BaseException") = some true) (tyC : PySem.W.typeIn K (.ref C) = some (.type "type")) (kC : PySem.W.keepIn K (.ref C) = true) (tI : PySem.W.typeIn K (.ref fI) = some (.type "function")) (sN : PySem.W.nsIn K mainGlobals "super" = some none)
    (top : (P.main.scope.names.lookup ("super" : Str)).isSome = false) (par : ((defArgs st).posonlyargs ++ (defArgs st).args).head?.map (·.arg) = some "self") (sc : NdefX.nscB (("self" : Str) :: ps ++ [("__class__" : Str)]) (("self" : Str) :: ps) [("__class__" : Str)] (defScope st) = true)
    (ks : (defScope st).names.lookup ("super" : Str) = some .globalImplicit) (no : ∀ f ∈ ps, PySem.W.findIn K (.ref C) f = some none) (hb : Mi.initB ps (defBody st) = true) (hp : okNames ps = true) (hl : ps.length ≤ 2)
    (bd : ∀ us : List Value, us.length = (("self" : Str) :: ps).length → bindArgs (PySem.W.ksFn "__init__" qual (defArgs st) (defBody st) (defScope st) .none kV doc pm an (.ref cda) ct cc) ⟨us, []⟩ = pure ((("self" : Str) :: ps).zip us)) : ExcR P w K mg base (.ref C) x ps := by
  have oex : OexC K C := ⟨⟨_, _, _, _, _, _, _, _, _, _, _, _, _, _, _, cl, rf⟩, sa, exC, tyC, kC⟩
  have T : Mi.InitC P K C fI _ st ps := ⟨⟨qual, oc, od, kV, doc, pm, an, cda, ct, cc, osl, ccl, cdd, vs, ccs, file, tf, cl', cld, csl, cdD, rfl, fL, cI, cL, v2, hfile, cC, cD⟩, mro, opq, sup, ve, oex, top, by decide +kernel, par, NdefX.nscope_by sc, ks, no⟩
  have F := Mi.init_ok (w := w) (mg := mg) (base := base) T (PySem.W.mg_none_of X G sN) hb fun f hf => okName_d (List.all_eq_true.mp hp f hf)
  exact ⟨C, fI, _, rfl, PySem.W.mg_of X G ca, oex, F, iC, tI, .all bd, hl⟩
theorem code_of_tab {K : PySem.W.Frag} {x : Str} {f c P : Addr} {oc : Value} {od : Option Addr} {fd : FuncData} {sl : Array (Option Value)} (a : PySem.W.nsIn K mainGlobals x = some (some (.ref f))) (l : K.lookup f = some ⟨oc, od, .func fd, sl⟩) (t : PySem.W.tabIn K x = some (c, P)) : fd.code = .ref c := by
  unfold PySem.W.tabIn at t
  rw [a] at t
  simp only [l] at t
  split at t
  · rename_i c' hc
    split at t
    · split at t
      · cases t; exact hc
      · cases t
    · cases t
  · cases t
theorem tab_mk {K : PySem.W.Frag} {x : Str} {f c P : Addr} {oc ccl : Value} {od cdd : Option Addr} {fd : FuncData} {sl ccs : Array (Option Value)} {vs : Array Value} (a : PySem.W.nsIn K mainGlobals x = some (some (.ref f))) (l : K.lookup f = some ⟨oc, od, .func fd, sl⟩) (e : fd.code = .ref c) (h : K.lookup c = some ⟨ccl, cdd, .fields vs, ccs⟩) (v : vs[11]? = some (.ref P)) : PySem.W.tabIn K x = some (c, P) := by
  unfold PySem.W.tabIn
  rw [a]
  simp only [l, e, h, v]
theorem ne_of_nd {l : List Addr} (h : l.Nodup) (i j : Nat) (hi : i < l.length) (hj : j < l.length) (hij : i ≠ j) : l[i] ≠ l[j] := fun e => hij ((List.getElem_inj h).mp e)
theorem kp_all {K : PySem.W.Frag} {ads : List Addr} (h : ∀ f ∈ ads, PySem.W.keepIn K (.ref f) = true) (hn : 0 < ads.length) : ∀ i, PySem.W.keepIn K (.ref (ads.getD (clip ads.length i) 0)) = true := by
  intro i
  have hc : clip ads.length i < ads.length := by unfold clip; split <;> omega
  rw [List.getD_eq_getElem?_getD, List.getElem?_eq_getElem hc]
  exact h _ (List.getElem_mem hc)
end Mj
/-! written by gen2.py: the defs of the linked text in the small syntax -/
namespace Law
open PySem PySem.Spec PyProof.Rows L2 Mj
def topS (i : Nat) : Stmt := PySem.Challenge.pw_lateforms_k18_plain_steps_done.main.body.getD i (.Pass ⟨0, 0, 0, 0⟩)
/-- is_integer(thing) -/
def b_is_integer : Ss := (.cons (.ret (.and (.cons (.bi false "isinstance" (.cons (.var 0) (.cons (.glob "int" (.ty "int")) .nil))) (.cons (.not (.bi false "isinstance" (.cons (.var 0) (.cons (.glob "bool" (.ty "bool")) .nil)))) .nil)))) .nil)
abbrev B0 : Ss := b_is_integer
abbrev j_is_integer : Nat := 0
/-- is_name(thing) -/
def q_is_name_0 : C := (.comp false (.cmp .In (.var 1) (.glob "LETTERS" (.str "abcdefghijklmnopqrstuvwxyz"))) (.name 1) (.seq (.var 0)) .none)
def b_is_name : Ss := (.cons (.ifs (.or (.cons (.not (.bi false "isinstance" (.cons (.var 0) (.cons (.glob "str" (.ty "str")) .nil)))) (.cons (.not (.chain .LtE .LtE (.const (.int 1)) (.bi false "len" (.cons (.var 0) .nil)) (.glob "LONGEST" (.int 8)))) .nil))) (.cons (.ret (.const (.bl false))) .nil) .nil) (.cons (.ret (.bi false "all" (.cons q_is_name_0 .nil))) .nil))
abbrev B1 : Ss := b_is_name
abbrev j_is_name : Nat := 1
/-- require_step(truth, step, word) -/
def b_require_step : Ss := (.cons (.ifs (.not (.var 0)) (.cons (.raise 6 ["step", "word"] (.cons (.var 1) (.cons (.var 2) .nil))) .nil) .nil) .nil)
abbrev B2 : Ss := b_require_step
abbrev j_require_step : Nat := 2
/-- object_of(plain, number) -/
def l_object_of_0 : Ss := (.cons (.ifs (.and (.cons (.call 0 (.cons (.var 1) .nil)) (.cons (.cmp .Eq (.idx (.var 2) (.const (.int 0))) (.var 1)) .nil))) (.cons (.ret (.var 2)) .nil) .nil) .nil)
def b_object_of : Ss := (.cons (.for_ (.name 2) (.seq (.idx (.var 0) (.const (.int 2)))) l_object_of_0) (.cons (.raise 5 ["number"] (.cons (.var 1) .nil)) .nil))
abbrev B3 : Ss := b_object_of
abbrev j_object_of : Nat := 3
/-- is_value(plain, kind, thing) -/
def q_is_value_0 : C := (.comp false (.slice false (.var 3) .none (.some (.const (.int 2)))) (.name 3) (.seq (.idx (.var 0) (.const (.int 2)))) .none)
def b_is_value : Ss := (.cons (.ifs (.bi false "isinstance" (.cons (.var 1) (.cons (.glob "tuple" (.ty "tuple")) .nil))) (.cons (.ret (.and (.cons (.call 0 (.cons (.var 2) .nil)) (.cons (.chain .LtE .LtE (.idx (.var 1) (.const (.int 0))) (.var 2) (.idx (.var 1) (.const (.int 1)))) .nil)))) .nil) .nil) (.cons (.ret (.or (.cons (.cmp .Is (.var 2) (.const .non)) (.cons (.and (.cons (.call 0 (.cons (.var 2) .nil)) (.cons (.cmp .In (.tup (.cons (.var 2) (.cons (.var 1) .nil))) q_is_value_0) .nil))) .nil)))) .nil))
abbrev B4 : Ss := b_is_value
abbrev j_is_value : Nat := 4
/-- made(plain, cls, values) -/
def q_made_0 : C := (.comp false (.call 4 (.cons (.var 0) (.cons (.var 12) (.cons (.var 10) .nil)))) (.tup (.cons (.tup (.cons (.name 11) (.cons (.name 12) .nil))) (.cons (.name 10) .nil))) (.zip (.var 3) (.var 2)) .none)
def b_made : Ss := (.cons (.unp (.tup (.cons (.name 5) (.cons (.name 6) (.cons (.name 7) .nil)))) (.var 0)) (.cons (.par 8 9 (.tup (.cons (.const (.str "make")) (.cons (.var 1) (.cons (.var 2) .nil)))) (.bi false "dict" (.cons (.var 5) .nil))) (.cons (.expr (.call 2 (.cons (.and (.cons (.call 1 (.cons (.var 1) .nil)) (.cons (.cmp .In (.var 1) (.var 9)) .nil))) (.cons (.var 8) (.cons (.const (.str "class")) .nil))))) (.cons (.set 3 (.idx (.var 9) (.var 1))) (.cons (.expr (.call 2 (.cons (.cmp .Eq (.bi false "len" (.cons (.var 2) .nil)) (.bi false "len" (.cons (.var 3) .nil))) (.cons (.var 8) (.cons (.const (.str "values")) .nil))))) (.cons (.set 4 q_made_0) (.cons (.expr (.call 2 (.cons (.bi false "all" (.cons (.var 4) .nil)) (.cons (.var 8) (.cons (.const (.str "values")) .nil))))) (.cons (.ret (.tup (.cons (.var 5) (.cons (.bin false .Add (.var 6) (.const (.int 1))) (.cons (.bin false .Add (.var 7) (.tup (.cons (.tup (.cons (.var 6) (.cons (.var 1) (.cons (.var 2) .nil)))) .nil))) .nil))))) .nil))))))))
abbrev B5 : Ss := b_made
abbrev j_made : Nat := 5
/-- written(plain, number, field, value) -/
def q_written_0 : C := (.comp false (.var 13) (.tup (.cons (.name 13) (.cons (.name 14) .nil))) (.seq (.var 4)) .none)
def q_written_1 : C := (.comp false (.ife (.cmp .Eq (.idx (.var 15) (.const (.int 0))) (.var 1)) (.var 7) (.var 15)) (.name 15) (.seq (.var 10)) .none)
def b_written : Ss := (.cons (.unp (.tup (.cons (.name 8) (.cons (.name 9) (.cons (.name 10) .nil)))) (.var 0)) (.cons (.par 11 12 (.tup (.cons (.const (.str "write")) (.cons (.var 1) (.cons (.var 2) (.cons (.var 3) .nil))))) (.call 3 (.cons (.var 0) (.cons (.var 1) .nil)))) (.cons (.set 4 (.idx (.bi false "dict" (.cons (.var 8) .nil)) (.idx (.var 12) (.const (.int 1))))) (.cons (.set 5 q_written_0) (.cons (.expr (.call 2 (.cons (.and (.cons (.call 1 (.cons (.var 2) .nil)) (.cons (.cmp .In (.var 2) (.var 5)) .nil))) (.cons (.var 11) (.cons (.const (.str "field")) .nil))))) (.cons (.set 6 (.meth "index" (.var 5) (.cons (.var 2) .nil))) (.cons (.expr (.call 2 (.cons (.call 4 (.cons (.var 0) (.cons (.idx (.idx (.var 4) (.var 6)) (.const (.int 1))) (.cons (.var 3) .nil)))) (.cons (.var 11) (.cons (.const (.str "value")) .nil))))) (.cons (.set 7 (.tup (.cons (.var 1) (.cons (.idx (.var 12) (.const (.int 1))) (.cons (.bin false .Add (.bin false .Add (.slice false (.idx (.var 12) (.const (.int 2))) .none (.some (.var 6))) (.tup (.cons (.var 3) .nil))) (.slice false (.idx (.var 12) (.const (.int 2))) (.some (.bin false .Add (.var 6) (.const (.int 1)))) .none)) .nil))))) (.cons (.ret (.tup (.cons (.var 8) (.cons (.var 9) (.cons (.bi false "tuple" (.cons q_written_1 .nil)) .nil))))) .nil)))))))))
abbrev B6 : Ss := b_written
abbrev j_written : Nat := 6
/-- without_link(form, values, number) -/
def q_without_link_0 : C := (.comp false (.ife (.and (.cons (.bi false "isinstance" (.cons (.var 6) (.cons (.glob "str" (.ty "str")) .nil))) (.cons (.cmp .Eq (.var 4) (.var 2)) .nil))) (.const .non) (.var 4)) (.tup (.cons (.tup (.cons (.name 5) (.cons (.name 6) .nil))) (.cons (.name 4) .nil))) (.seq (.var 3)) .none)
def b_without_link : Ss := (.cons (.set 3 (.listZip false (.var 0) (.var 1))) (.cons (.ret (.bi false "tuple" (.cons q_without_link_0 .nil))) .nil))
abbrev B7 : Ss := b_without_link
abbrev j_without_link : Nat := 7
/-- dropped(plain, number) -/
def l_dropped_0 : Ss := (.cons (.ifs (.cmp .NotEq (.var 7) (.var 1)) (.cons (.expr (.meth "append" (.var 6) (.cons (.tup (.cons (.var 7) (.cons (.var 8) (.cons (.call 7 (.cons (.idx (.var 5) (.var 8)) (.cons (.var 9) (.cons (.var 1) .nil)))) .nil)))) .nil))) .nil) .nil) .nil)
def b_dropped : Ss := (.cons (.expr (.call 3 (.cons (.var 0) (.cons (.var 1) .nil)))) (.cons (.unp (.tup (.cons (.name 2) (.cons (.name 3) (.cons (.name 4) .nil)))) (.var 0)) (.cons (.par 5 6 (.bi false "dict" (.cons (.var 2) .nil)) (.lst true .nil)) (.cons (.for_ (.tup (.cons (.name 7) (.cons (.name 8) (.cons (.name 9) .nil)))) (.seq (.var 4)) l_dropped_0) (.cons (.ret (.tup (.cons (.var 2) (.cons (.var 3) (.cons (.bi false "tuple" (.cons (.var 6) .nil)) .nil))))) .nil)))))
abbrev B8 : Ss := b_dropped
abbrev j_dropped : Nat := 8
/-- _law_feed(_law_script) -/
def b__law_feed : Ss := (.cons (.ret (.dict ["cells", "at", "left", "count"] (.cons (.bi false "list" (.cons (.slice false (.var 0) .none (.some (.const (.int 63)))) .nil)) (.cons (.const (.int 0)) (.cons (.const (.int 0)) (.cons (.const (.int 0)) .nil)))))) .nil)
abbrev B9 : Ss := b__law_feed
abbrev j__law_feed : Nat := 9
/-- _law_draw(_law_feed_here, _law_many) -/
def b__law_draw : Ss := (.cons (.setIx (.var 0) "count" (.bin false .Add (.idx (.var 0) (.const (.str "count"))) (.const (.int 1)))) (.cons (.ifs (.cmp .Eq (.idx (.var 0) (.const (.str "cells"))) (.lst false .nil)) (.cons (.ret (.bin false .Mod (.bi false "int" (.cons (.idx (.var 0) (.const (.str "count"))) .nil)) (.var 1))) .nil) .nil) (.cons (.ifs (.cmp .Gt (.idx (.var 0) (.const (.str "left"))) (.const (.int 0))) (.cons (.set 5 (.bin false .Mod (.bi false "int" (.cons (.idx (.var 0) (.const (.str "left"))) .nil)) (.var 1))) (.cons (.setIx (.var 0) "left" (.bin false .FloorDiv (.idx (.var 0) (.const (.str "left"))) (.var 1))) (.cons (.ret (.var 5)) .nil))) .nil) (.cons (.set 2 (.idx (.var 0) (.const (.str "at")))) (.cons (.setIx (.var 0) "at" (.bin false .Add (.var 2) (.const (.int 1)))) (.cons (.set 3 (.idx (.idx (.var 0) (.const (.str "cells"))) (.bin false .Mod (.bi false "int" (.cons (.var 2) .nil)) (.bi false "len" (.cons (.idx (.var 0) (.const (.str "cells"))) .nil))))) (.cons (.ifs (.and (.cons (.cmp .GtE (.var 3) (.bin false .Pow (.const (.int 10)) (.const (.int 18)))) (.cons (.cmp .Lt (.var 2) (.bi false "len" (.cons (.idx (.var 0) (.const (.str "cells"))) .nil))) .nil))) (.cons (.setIx (.var 0) "left" (.bin false .FloorDiv (.var 3) (.var 1))) (.cons (.ret (.bin false .Mod (.bi false "int" (.cons (.var 3) .nil)) (.var 1))) .nil)) .nil) (.cons (.set 4 (.bin false .Mod (.bi false "int" (.cons (.bin false .Add (.bin false .Add (.bin false .Mod (.bi false "int" (.cons (.var 3) .nil)) (.const (.int 1000001801))) (.bin false .Mult (.const (.int 96401)) (.idx (.var 0) (.const (.str "count"))))) (.const (.int 631))) .nil)) (.const (.int 2147483563)))) (.cons (.set 4 (.bin false .Mod (.bi false "int" (.cons (.bin false .Add (.bin false .Add (.bin false .Pow (.var 4) (.const (.int 3))) (.bin false .Mult (.const (.int 7400441)) (.idx (.var 0) (.const (.str "count"))))) (.const (.int 347))) .nil)) (.const (.int 2147483497)))) (.cons (.ret (.bin false .Mod (.bi false "int" (.cons (.bin false .FloorDiv (.bin false .Mod (.bi false "int" (.cons (.bin false .Add (.bin false .Pow (.var 4) (.const (.int 3))) (.bin false .Mult (.const (.int 337)) (.var 4))) .nil)) (.const (.int 2147483489))) (.const (.int 32))) .nil)) (.var 1))) .nil))))))))))
abbrev B10 : Ss := b__law_draw
abbrev j__law_draw : Nat := 10
/-- _law_laps(_law_script, _law_count) -/
def b__law_laps : Ss := (.cons (.ret (.ife (.cmp .NotEq (.var 0) (.lst false .nil)) (.var 1) (.const (.int 1)))) .nil)
abbrev B11 : Ss := b__law_laps
abbrev j__law_laps : Nat := 11
/-- _law_any(_law_feed_here, _law_some) -/
def b__law_any : Ss := (.cons (.ret (.idx (.var 1) (.call 10 (.cons (.var 0) (.cons (.bi false "len" (.cons (.var 1) .nil)) .nil))))) .nil)
abbrev B12 : Ss := b__law_any
abbrev j__law_any : Nat := 12
/-- _law_lot(_law_feed_here, _law_names) -/
def l__law_lot_0 : Ss := (.cons (.set 4 (.call 10 (.cons (.var 0) (.cons (.const (.int 7)) .nil)))) (.cons (.ifs (.cmp .Lt (.var 4) (.const (.int 3))) (.cons (.expr (.meth "append" (.var 2) (.cons (.tup (.cons (.var 3) (.cons (.call 12 (.cons (.var 0) (.cons (.lst false (.cons (.tup (.cons (.const (.int 0)) (.cons (.const (.int 3)) .nil))) (.cons (.tup (.cons (.const (.int 0)) (.cons (.const (.int 9)) .nil))) (.cons (.tup (.cons (.neg (.const (.int 2))) (.cons (.const (.int 2)) .nil))) (.cons (.tup (.cons (.const (.int 1)) (.cons (.const (.int 1)) .nil))) (.cons (.tup (.cons (.neg (.const (.int 999))) (.cons (.const (.int 1000)) .nil))) .nil)))))) .nil))) .nil))) .nil))) .nil) (.cons (.ifs (.cmp .Lt (.var 4) (.const (.int 5))) (.cons (.expr (.meth "append" (.var 2) (.cons (.tup (.cons (.var 3) (.cons (.call 12 (.cons (.var 0) (.cons (.var 1) .nil))) .nil))) .nil))) .nil) .nil) .nil)) .nil))
def b__law_lot : Ss := (.cons (.set 2 (.lst true .nil)) (.cons (.for_ (.name 3) (.seq (.ife (.cmp .Gt (.call 10 (.cons (.var 0) (.cons (.const (.int 8)) .nil))) (.const (.int 0))) (.tup (.cons (.const (.str "k")) (.cons (.const (.str "n")) (.cons (.const (.str "to")) (.cons (.const (.str "w")) .nil))))) (.tup .nil))) l__law_lot_0) (.cons (.ret (.bi false "tuple" (.cons (.var 2) .nil))) .nil)))
abbrev B13 : Ss := b__law_lot
abbrev j__law_lot : Nat := 13
/-- _law_classes(_law_feed_here) -/
def q__law_classes_0 : C := (.comp false (.tup (.cons (.var 2) (.cons (.call 13 (.cons (.var 0) (.cons (.var 1) .nil))) .nil))) (.name 2) (.seq (.var 1)) .none)
def b__law_classes : Ss := (.cons (.set 1 (.slice false (.lst false (.cons (.const (.str "a")) (.cons (.const (.str "get")) (.cons (.const (.str "lid")) .nil)))) .none (.some (.bin false .Add (.const (.int 1)) (.call 10 (.cons (.var 0) (.cons (.const (.int 3)) .nil))))))) (.cons (.ret (.bi false "tuple" (.cons q__law_classes_0 .nil))) .nil))
abbrev B14 : Ss := b__law_classes
abbrev j__law_classes : Nat := 14
/-- _law_fitting(_law_feed_here, _law_sort, _law_members) -/
def q__law_fitting_0 : C := (.comp false (.var 3) (.tup (.cons (.name 3) (.cons (.name 4) .nil))) (.seq (.var 2)) (.some (.cmp .Eq (.var 4) (.var 1))))
def b__law_fitting : Ss := (.cons (.ifs (.bi false "isinstance" (.cons (.var 1) (.cons (.glob "tuple" (.ty "tuple")) .nil))) (.cons (.ret (.bin false .Add (.idx (.var 1) (.const (.int 0))) (.call 10 (.cons (.var 0) (.cons (.bin false .Add (.bin false .Sub (.idx (.var 1) (.const (.int 1))) (.idx (.var 1) (.const (.int 0)))) (.const (.int 1))) .nil))))) .nil) .nil) (.cons (.ret (.call 12 (.cons (.var 0) (.cons (.bin false .Add (.lst false (.cons (.const .non) .nil)) q__law_fitting_0) .nil)))) .nil))
abbrev B15 : Ss := b__law_fitting
abbrev j__law_fitting : Nat := 15
/-- _law_values(_law_feed_here, _law_lot_here, _law_members) -/
def q__law_values_0 : C := (.comp false (.call 15 (.cons (.var 0) (.cons (.var 4) (.cons (.var 2) .nil)))) (.tup (.cons (.name 3) (.cons (.name 4) .nil))) (.seq (.var 1)) .none)
def b__law_values : Ss := (.cons (.ret (.bi false "tuple" (.cons q__law_values_0 .nil))) .nil)
abbrev B16 : Ss := b__law_values
abbrev j__law_values : Nat := 16
/-- _law_house(_law_feed_here, _law_classes_here, _law_most) -/
def q__law_house_0 : C := (.comp false (.var 8) (.tup (.cons (.name 8) (.cons (.name 9) .nil))) (.seq (.var 1)) .none)
def q__law_house_1 : C := (.comp false (.tup (.cons (.var 7) (.cons (.call 12 (.cons (.var 0) (.cons (.var 5) .nil))) .nil))) (.name 7) (.rng1 (.var 6)) (.some (.cmp .Gt (.call 10 (.cons (.var 0) (.cons (.const (.int 4)) .nil))) (.const (.int 0)))))
def q__law_house_2 : C := (.comp false (.tup (.cons (.var 7) (.cons (.var 8) (.cons (.call 16 (.cons (.var 0) (.cons (.idx (.bi false "dict" (.cons (.var 1) .nil)) (.var 8)) (.cons (.var 3) .nil)))) .nil)))) (.tup (.cons (.name 7) (.cons (.name 8) .nil))) (.seq (.var 3)) .none)
def b__law_house : Ss := (.cons (.par 5 6 q__law_house_0 (.call 10 (.cons (.var 0) (.cons (.bin false .Add (.var 2) (.const (.int 1))) .nil)))) (.cons (.set 3 q__law_house_1) (.cons (.set 4 q__law_house_2) (.cons (.ret (.tup (.cons (.var 1) (.cons (.var 6) (.cons (.bi false "tuple" (.cons (.var 4) .nil)) .nil))))) .nil))))
abbrev B17 : Ss := b__law_house
abbrev j__law_house : Nat := 17
/-- _law_is_integer(_law_item) -/
def b__law_is_integer : Ss := (.cons (.ret (.and (.cons (.bi false "isinstance" (.cons (.var 0) (.cons (.glob "int" (.ty "int")) .nil))) (.cons (.not (.bi false "isinstance" (.cons (.var 0) (.cons (.glob "bool" (.ty "bool")) .nil)))) .nil)))) .nil)
abbrev B18 : Ss := b__law_is_integer
abbrev j__law_is_integer : Nat := 18
/-- _law_outcome(_law_ask) -/
def b__law_outcome : Ss := (.cons (.set 1 (.tup (.cons (.const (.str "odd")) .nil))) (.cons (.tryAs 0 2 (.cons (.set 1 (.tup (.cons (.const (.str "told")) (.cons .ask .nil)))) .nil) (.cons (.set 3 (.lst false (.cons (.isE false [1]) (.cons (.isE false [2]) (.cons (.isE false [3]) .nil))))) (.cons (.set 4 (.lst false (.cons (.isE false [4]) (.cons (.isE false [5]) (.cons (.isE false [6]) .nil))))) (.cons (.set 4 (.bin false .Add (.var 4) (.lst false (.cons (.isE false [8]) (.cons (.isE false [11]) .nil))))) (.cons (.ifs (.or (.cons (.not (.isE false [13])) (.cons (.isE true [7, 9, 10, 12]) .nil))) (.cons (.set 4 (.lst false .nil)) .nil) .nil) (.cons (.ifs (.and (.cons (.cmp .Eq (.var 4) (.lst false (.cons (.const (.bl true)) (.cons (.const (.bl false)) (.cons (.const (.bl false)) (.cons (.const (.bl false)) (.cons (.const (.bl false)) .nil))))))) (.cons (.cmp .Eq (.var 3) (.lst false (.cons (.const (.bl true)) (.cons (.const (.bl false)) (.cons (.const (.bl false)) .nil))))) .nil))) (.cons (.set 1 (.tup (.cons (.const (.str "paper")) (.cons (.fldE "word") (.cons (.fldE "at") .nil))))) .nil) .nil) (.cons (.ifs (.and (.cons (.cmp .Eq (.var 4) (.lst false (.cons (.const (.bl false)) (.cons (.const (.bl true)) (.cons (.const (.bl false)) (.cons (.const (.bl false)) (.cons (.const (.bl false)) .nil))))))) (.cons (.cmp .Eq (.var 3) (.lst false (.cons (.const (.bl false)) (.cons (.const (.bl true)) (.cons (.const (.bl false)) .nil))))) .nil))) (.cons (.set 1 (.tup (.cons (.const (.str "object")) (.cons (.fldE "number") .nil)))) .nil) .nil) (.cons (.ifs (.and (.cons (.cmp .Eq (.var 4) (.lst false (.cons (.const (.bl false)) (.cons (.const (.bl false)) (.cons (.const (.bl true)) (.cons (.const (.bl false)) (.cons (.const (.bl false)) .nil))))))) (.cons (.cmp .Eq (.var 3) (.lst false (.cons (.const (.bl false)) (.cons (.const (.bl true)) (.cons (.const (.bl false)) .nil))))) .nil))) (.cons (.set 1 (.tup (.cons (.const (.str "step")) (.cons (.fldE "step") (.cons (.fldE "word") .nil))))) .nil) .nil) (.cons (.ifs (.and (.cons (.cmp .Eq (.var 4) (.lst false (.cons (.const (.bl false)) (.cons (.const (.bl false)) (.cons (.const (.bl false)) (.cons (.const (.bl true)) (.cons (.const (.bl false)) .nil))))))) (.cons (.cmp .Eq (.var 3) (.lst false (.cons (.const (.bl false)) (.cons (.const (.bl true)) (.cons (.const (.bl false)) .nil))))) .nil))) (.cons (.set 1 (.tup (.cons (.const (.str "misfit")) (.cons (.fldE "path") .nil)))) .nil) .nil) (.cons (.ifs (.and (.cons (.cmp .Eq (.var 4) (.lst false (.cons (.const (.bl false)) (.cons (.const (.bl false)) (.cons (.const (.bl false)) (.cons (.const (.bl false)) (.cons (.const (.bl true)) .nil))))))) (.cons (.cmp .Eq (.var 3) (.lst false (.cons (.const (.bl false)) (.cons (.const (.bl false)) (.cons (.const (.bl true)) .nil))))) .nil))) (.cons (.set 1 (.tup (.cons (.const (.str "text")) (.cons (.fldE "row") (.cons (.fldE "field") .nil))))) .nil) .nil) .nil)))))))))) (.cons (.ret (.var 1)) .nil)))
abbrev B19 : Ss := b__law_outcome
abbrev j__law_outcome : Nat := 19
/-- _law_document() -/
def b__law_document : Ss := (.cons (.set 0 (.tup (.cons (.tup (.cons (.const (.str "box")) (.cons (.tup (.cons (.tup (.cons (.const (.str "lid")) (.cons (.const (.str "lid")) .nil))) (.cons (.tup (.cons (.const (.str "size")) (.cons (.tup (.cons (.const (.int 0)) (.cons (.const (.int 9)) .nil))) .nil))) .nil))) .nil))) (.cons (.tup (.cons (.const (.str "lid")) (.cons (.tup (.cons (.tup (.cons (.const (.str "of")) (.cons (.const (.str "box")) .nil))) (.cons (.tup (.cons (.const (.str "w")) (.cons (.tup (.cons (.const (.int 0)) (.cons (.const (.int 5)) .nil))) .nil))) .nil))) .nil))) .nil)))) (.cons (.set 1 (.tup (.cons (.const (.str "*")) (.cons (.tup (.cons (.const (.str "get")) (.cons (.tup (.cons (.const (.str "size")) .nil)) (.cons (.const (.int 0)) .nil)))) (.cons (.tup (.cons (.const (.str "get")) (.cons (.tup (.cons (.const (.str "lid")) (.cons (.const (.str "w")) .nil))) (.cons (.const (.int 1)) .nil)))) .nil))))) (.cons (.set 2 (.tup (.cons (.tup (.cons (.const (.str "box")) (.cons (.tup (.cons (.tup (.cons (.const (.str "area")) (.cons (.tup (.cons (.const (.int 0)) (.cons (.const (.int 50)) .nil))) .nil))) (.cons (.tup (.cons (.const (.str "lid")) (.cons (.const (.str "lid")) .nil))) .nil))) (.cons (.tup (.cons (.var 1) (.cons (.tup (.cons (.const (.str "to")) (.cons (.tup (.cons (.const (.str "lid")) .nil)) .nil))) .nil))) .nil)))) .nil))) (.cons (.ret (.tup (.cons (.tup (.cons (.var 0) (.cons (.const (.int 3)) (.cons (.tup (.cons (.tup (.cons (.const (.int 0)) (.cons (.const (.str "box")) (.cons (.tup (.cons (.const (.int 1)) (.cons (.const (.int 4)) .nil))) .nil)))) (.cons (.tup (.cons (.const (.int 1)) (.cons (.const (.str "lid")) (.cons (.tup (.cons (.const (.int 0)) (.cons (.const (.int 5)) .nil))) .nil)))) (.cons (.tup (.cons (.const (.int 2)) (.cons (.const (.str "box")) (.cons (.tup (.cons (.const .non) (.cons (.const (.int 9)) .nil))) .nil)))) .nil)))) .nil)))) (.cons (.var 2) .nil)))) .nil))))
abbrev B20 : Ss := b__law_document
abbrev j__law_document : Nat := 20
/-- _law_suits(_law_house_here, _law_sort, _law_item) -/
def q__law_suits_0 : C := (.comp false (.tup (.cons (.var 4) (.cons (.var 5) .nil))) (.tup (.cons (.name 4) (.cons (.name 5) (.cons (.name 6) .nil)))) (.seq (.idx (.var 0) (.const (.int 2)))) .none)
def b__law_suits : Ss := (.cons (.ifs (.bi false "isinstance" (.cons (.var 1) (.cons (.glob "tuple" (.ty "tuple")) .nil))) (.cons (.ret (.and (.cons (.call 18 (.cons (.var 2) .nil)) (.cons (.chain .LtE .LtE (.idx (.var 1) (.const (.int 0))) (.var 2) (.idx (.var 1) (.const (.int 1)))) .nil)))) .nil) .nil) (.cons (.set 3 q__law_suits_0) (.cons (.ret (.or (.cons (.cmp .Is (.var 2) (.const .non)) (.cons (.and (.cons (.call 18 (.cons (.var 2) .nil)) (.cons (.cmp .In (.tup (.cons (.var 2) (.cons (.var 1) .nil))) (.var 3)) .nil))) .nil)))) .nil)))
abbrev B21 : Ss := b__law_suits
abbrev j__law_suits : Nat := 21
/-- _law_made_due(_law_house_here, _law_own, _law_lots) -/
def q__law_made_due_0 : C := (.comp false (.bi false "repr" (.cons (.var 6) .nil)) (.tup (.cons (.name 6) (.cons (.name 3) .nil))) (.seq (.idx (.var 0) (.const (.int 0)))) .none)
def q__law_made_due_1 : C := (.comp false (.var 5) (.name 5) (.rng1 (.bi false "min" (.cons (.bi false "len" (.cons (.var 3) .nil)) (.cons (.bi false "len" (.cons (.var 2) .nil)) .nil)))) (.some (.not (.call 21 (.cons (.var 0) (.cons (.idx (.idx (.var 3) (.var 5)) (.const (.int 1))) (.cons (.idx (.var 2) (.var 5)) .nil)))))))
def b__law_made_due : Ss := (.cons (.ifs (.cmp .NotIn (.bi false "repr" (.cons (.var 1) .nil)) q__law_made_due_0) (.cons (.ret (.tup (.cons (.const (.str "step")) (.cons (.tup (.cons (.const (.str "make")) (.cons (.var 1) (.cons (.var 2) .nil)))) (.cons (.const (.str "class")) .nil))))) .nil) .nil) (.cons (.set 3 (.idx (.bi false "dict" (.cons (.idx (.var 0) (.const (.int 0))) .nil)) (.var 1))) (.cons (.set 4 q__law_made_due_1) (.cons (.ifs (.or (.cons (.cmp .NotEq (.bi false "len" (.cons (.var 3) .nil)) (.bi false "len" (.cons (.var 2) .nil))) (.cons (.cmp .NotEq (.var 4) (.lst false .nil)) .nil))) (.cons (.ret (.tup (.cons (.const (.str "step")) (.cons (.tup (.cons (.const (.str "make")) (.cons (.var 1) (.cons (.var 2) .nil)))) (.cons (.const (.str "values")) .nil))))) .nil) .nil) (.cons (.ret (.tup (.cons (.const (.str "told")) (.cons (.tup (.cons (.idx (.var 0) (.const (.int 0))) (.cons (.bin false .Add (.idx (.var 0) (.const (.int 1))) (.const (.int 1))) (.cons (.bin false .Add (.idx (.var 0) (.const (.int 2))) (.tup (.cons (.tup (.cons (.idx (.var 0) (.const (.int 1))) (.cons (.var 1) (.cons (.var 2) .nil)))) .nil))) .nil)))) .nil)))) .nil)))))
abbrev B22 : Ss := b__law_made_due
abbrev j__law_made_due : Nat := 22
/-- _law_is_member(_law_house_here, _law_item) -/
def q__law_is_member_0 : C := (.comp false (.bi false "repr" (.cons (.var 2) .nil)) (.tup (.cons (.name 2) (.cons (.name 3) (.cons (.name 4) .nil)))) (.seq (.idx (.var 0) (.const (.int 2)))) .none)
def b__law_is_member : Ss := (.cons (.ret (.cmp .In (.bi false "repr" (.cons (.var 1) .nil)) q__law_is_member_0)) .nil)
abbrev B23 : Ss := b__law_is_member
abbrev j__law_is_member : Nat := 23
/-- _law_written_due(_law_house_here, _law_n, _law_label, _law_item) -/
def q__law_written_due_0 : C := (.comp false (.var 9) (.tup (.cons (.name 8) (.cons (.name 9) (.cons (.name 10) .nil)))) (.seq (.idx (.var 0) (.const (.int 2)))) (.some (.cmp .Eq (.var 8) (.var 1))))
def q__law_written_due_1 : C := (.comp false (.var 12) (.tup (.cons (.name 12) (.cons (.name 13) .nil))) (.seq (.idx (.bi false "dict" (.cons (.idx (.var 0) (.const (.int 0))) .nil)) (.var 4))) .none)
def q__law_written_due_2 : C := (.comp false (.bi false "repr" (.cons (.var 12) .nil)) (.name 12) (.seq (.var 5)) .none)
def l__law_written_due_0 : Ss := (.cons (.set 11 (.bin false .Add (.bin false .Add (.slice false (.var 10) .none (.some (.var 6))) (.tup (.cons (.var 3) .nil))) (.slice false (.var 10) (.some (.bin false .Add (.var 6) (.const (.int 1)))) .none))) (.cons (.expr (.meth "append" (.var 7) (.cons (.tup (.cons (.var 8) (.cons (.var 9) (.cons (.ife (.cmp .Eq (.var 8) (.var 1)) (.var 11) (.var 10)) .nil)))) .nil))) .nil))
def b__law_written_due : Ss := (.cons (.ifs (.not (.call 23 (.cons (.var 0) (.cons (.var 1) .nil)))) (.cons (.ret (.tup (.cons (.const (.str "object")) (.cons (.var 1) .nil)))) .nil) .nil) (.cons (.set 4 (.idx q__law_written_due_0 (.const (.int 0)))) (.cons (.set 5 q__law_written_due_1) (.cons (.ifs (.cmp .NotIn (.bi false "repr" (.cons (.var 2) .nil)) q__law_written_due_2) (.cons (.ret (.tup (.cons (.const (.str "step")) (.cons (.tup (.cons (.const (.str "write")) (.cons (.var 1) (.cons (.var 2) (.cons (.var 3) .nil))))) (.cons (.const (.str "field")) .nil))))) .nil) .nil) (.cons (.par 6 7 (.meth "index" (.var 5) (.cons (.var 2) .nil)) (.lst true .nil)) (.cons (.ifs (.not (.call 21 (.cons (.var 0) (.cons (.idx (.idx (.idx (.bi false "dict" (.cons (.idx (.var 0) (.const (.int 0))) .nil)) (.var 4)) (.var 6)) (.const (.int 1))) (.cons (.var 3) .nil))))) (.cons (.ret (.tup (.cons (.const (.str "step")) (.cons (.tup (.cons (.const (.str "write")) (.cons (.var 1) (.cons (.var 2) (.cons (.var 3) .nil))))) (.cons (.const (.str "value")) .nil))))) .nil) .nil) (.cons (.for_ (.tup (.cons (.name 8) (.cons (.name 9) (.cons (.name 10) .nil)))) (.seq (.idx (.var 0) (.const (.int 2)))) l__law_written_due_0) (.cons (.ret (.tup (.cons (.const (.str "told")) (.cons (.tup (.cons (.idx (.var 0) (.const (.int 0))) (.cons (.idx (.var 0) (.const (.int 1))) (.cons (.bi false "tuple" (.cons (.var 7) .nil)) .nil)))) .nil)))) .nil))))))))
abbrev B24 : Ss := b__law_written_due
abbrev j__law_written_due : Nat := 24
/-- _law_dropped_due(_law_house_here, _law_n) -/
def l__law_dropped_due_0 : Ss := (.cons (.expr (.meth "append" (.var 6) (.cons (.ife (.and (.cons (.bi false "isinstance" (.cons (.var 9) (.cons (.glob "str" (.ty "str")) .nil))) (.cons (.cmp .Eq (.var 7) (.var 1)) .nil))) (.const .non) (.var 7)) .nil))) .nil)
def l__law_dropped_due_1 : Ss := (.cons (.set 6 (.lst true .nil)) (.cons (.for_ (.tup (.cons (.tup (.cons (.name 8) (.cons (.name 9) .nil))) (.cons (.name 7) .nil))) (.zip (.idx (.bi false "dict" (.cons (.idx (.var 0) (.const (.int 0))) .nil)) (.var 4)) (.var 5)) l__law_dropped_due_0) (.cons (.ifs (.cmp .NotEq (.var 3) (.var 1)) (.cons (.expr (.meth "append" (.var 2) (.cons (.tup (.cons (.var 3) (.cons (.var 4) (.cons (.bi false "tuple" (.cons (.var 6) .nil)) .nil)))) .nil))) .nil) .nil) .nil)))
def b__law_dropped_due : Ss := (.cons (.ifs (.not (.call 23 (.cons (.var 0) (.cons (.var 1) .nil)))) (.cons (.ret (.tup (.cons (.const (.str "object")) (.cons (.var 1) .nil)))) .nil) .nil) (.cons (.set 2 (.lst true .nil)) (.cons (.for_ (.tup (.cons (.name 3) (.cons (.name 4) (.cons (.name 5) .nil)))) (.seq (.idx (.var 0) (.const (.int 2)))) l__law_dropped_due_1) (.cons (.ret (.tup (.cons (.const (.str "told")) (.cons (.tup (.cons (.idx (.var 0) (.const (.int 0))) (.cons (.idx (.var 0) (.const (.int 1))) (.cons (.bi false "tuple" (.cons (.var 2) .nil)) .nil)))) .nil)))) .nil))))
abbrev B25 : Ss := b__law_dropped_due
abbrev j__law_dropped_due : Nat := 25
/-- _law_some_number(_law_feed_here, _law_house_here) -/
def q__law_some_number_0 : C := (.comp false (.var 3) (.tup (.cons (.name 3) (.cons (.name 4) (.cons (.name 5) .nil)))) (.seq (.idx (.var 1) (.const (.int 2)))) .none)
def b__law_some_number : Ss := (.cons (.set 2 q__law_some_number_0) (.cons (.ret (.call 12 (.cons (.var 0) (.cons (.bin false .Add (.bin false .Add (.var 2) (.var 2)) (.lst false (.cons (.idx (.var 1) (.const (.int 1))) (.cons (.neg (.const (.int 1))) (.cons (.const .non) (.cons (.const (.bl true)) (.cons (.const (.str "a")) (.cons (.tup (.cons (.const (.int 0)) .nil)) .nil)))))))) .nil)))) .nil))
abbrev B26 : Ss := b__law_some_number
abbrev j__law_some_number : Nat := 26
/-- _law_some_label(_law_feed_here, _law_house_here, _law_n) -/
def q__law_some_label_0 : C := (.comp false (.var 4) (.tup (.cons (.name 5) (.cons (.name 4) (.cons (.name 6) .nil)))) (.seq (.idx (.var 1) (.const (.int 2)))) (.some (.and (.cons (.call 23 (.cons (.var 1) (.cons (.var 2) .nil))) (.cons (.cmp .Eq (.var 5) (.var 2)) .nil)))))
def q__law_some_label_1 : C := (.comp false (.var 7) (.tup (.cons (.name 7) (.cons (.name 8) .nil))) (.seq (.idx (.bi false "dict" (.cons (.idx (.var 1) (.const (.int 0))) .nil)) (.idx (.var 3) (.const (.int 0))))) .none)
def b__law_some_label : Ss := (.cons (.set 3 q__law_some_label_0) (.cons (.set 4 (.ife (.cmp .NotEq (.var 3) (.lst false .nil)) q__law_some_label_1 (.lst false (.cons (.const (.str "k")) .nil)))) (.cons (.ret (.call 12 (.cons (.var 0) (.cons (.bin false .Add (.bin false .Add (.var 4) (.var 4)) (.lst false (.cons (.const (.str "z")) (.cons (.const (.str "")) (.cons (.const .non) (.cons (.const (.int 0)) (.cons (.tup (.cons (.const (.str "k")) .nil)) .nil))))))) .nil)))) .nil)))
abbrev B27 : Ss := b__law_some_label
abbrev j__law_some_label : Nat := 27
/-- _law_some_item(_law_feed_here, _law_house_here) -/
def q__law_some_item_0 : C := (.comp false (.var 3) (.tup (.cons (.name 3) (.cons (.name 4) (.cons (.name 5) .nil)))) (.seq (.idx (.var 1) (.const (.int 2)))) .none)
def b__law_some_item : Ss := (.cons (.set 2 q__law_some_item_0) (.cons (.ret (.call 12 (.cons (.var 0) (.cons (.bin false .Add (.bin false .Add (.lst false (.cons (.const (.int 0)) (.cons (.const (.int 1)) (.cons (.const (.int 2)) (.cons (.const (.int 3)) (.cons (.const (.int 9)) (.cons (.neg (.const (.int 1))) (.cons (.const .non) (.cons (.const .non) (.cons (.const (.bl true)) (.cons (.const (.str "a")) (.cons (.idx (.var 1) (.const (.int 1))) (.cons (.bin false .Pow (.const (.int 10)) (.const (.int 30))) .nil))))))))))))) (.var 2)) (.var 2)) .nil)))) .nil))
abbrev B28 : Ss := b__law_some_item
abbrev j__law_some_item : Nat := 28
/-- _law_some_lots(_law_feed_here, _law_house_here, _law_own) -/
def q__law_some_lots_0 : C := (.comp false (.tup (.cons (.var 8) (.cons (.var 9) .nil))) (.tup (.cons (.name 8) (.cons (.name 9) (.cons (.name 4) .nil)))) (.seq (.idx (.var 1) (.const (.int 2)))) .none)
def b__law_some_lots : Ss := (.cons (.set 3 q__law_some_lots_0) (.cons (.set 4 (.call 16 (.cons (.var 0) (.cons (.meth "get" (.bi false "dict" (.cons (.idx (.var 1) (.const (.int 0))) .nil)) (.cons (.var 2) (.cons (.tup .nil) .nil))) (.cons (.var 3) .nil))))) (.cons (.set 5 (.call 10 (.cons (.var 0) (.cons (.const (.int 6)) .nil)))) (.cons (.ifs (.or (.cons (.cmp .Lt (.var 5) (.const (.int 3))) (.cons (.cmp .Eq (.var 4) (.tup .nil)) .nil))) (.cons (.ret (.ife (.cmp .Eq (.var 5) (.const (.int 5))) (.bin false .Add (.var 4) (.tup (.cons (.const (.int 0)) .nil))) (.var 4))) .nil) .nil) (.cons (.set 6 (.call 10 (.cons (.var 0) (.cons (.bi false "len" (.cons (.var 4) .nil)) .nil)))) (.cons (.set 7 (.lst true (.cons (.slice false (.var 4) .none (.some (.var 6))) (.cons (.bin false .Add (.var 4) (.slice false (.var 4) (.some (.neg (.const (.int 1)))) .none)) .nil)))) (.cons (.expr (.meth "append" (.var 7) (.cons (.bin false .Add (.bin false .Add (.slice false (.var 4) .none (.some (.var 6))) (.tup (.cons (.call 28 (.cons (.var 0) (.cons (.var 1) .nil))) .nil))) (.slice false (.var 4) (.some (.bin false .Add (.var 6) (.const (.int 1)))) .none)) .nil))) (.cons (.ret (.idx (.var 7) (.bin false .Sub (.var 5) (.const (.int 3))))) .nil))))))))
abbrev B29 : Ss := b__law_some_lots
abbrev j__law_some_lots : Nat := 29
/-- _law_make(_law_house_here, _law_own, _law_lots) -/
def b__law_make : Ss := (.cons (.ifs (.cmp .Eq (.var 2) (.tup .nil)) (.cons (.ret (.call 5 (.cons (.var 0) (.cons (.var 1) .nil)))) .nil) .nil) (.cons (.ifs (.cmp .Eq (.bi false "len" (.cons (.var 2) .nil)) (.const (.int 1))) (.cons (.ret (.call 5 (.cons (.var 0) (.cons (.var 1) (.cons (.idx (.var 2) (.const (.int 0))) .nil))))) .nil) .nil) (.cons (.ifs (.cmp .Eq (.bi false "len" (.cons (.var 2) .nil)) (.const (.int 2))) (.cons (.ret (.call 5 (.cons (.var 0) (.cons (.var 1) (.cons (.idx (.var 2) (.const (.int 0))) (.cons (.idx (.var 2) (.const (.int 1))) .nil)))))) .nil) .nil) (.cons (.ifs (.cmp .Eq (.bi false "len" (.cons (.var 2) .nil)) (.const (.int 3))) (.cons (.ret (.call 5 (.cons (.var 0) (.cons (.var 1) (.cons (.idx (.var 2) (.const (.int 0))) (.cons (.idx (.var 2) (.const (.int 1))) (.cons (.idx (.var 2) (.const (.int 2))) .nil))))))) .nil) .nil) (.cons (.ifs (.cmp .Eq (.bi false "len" (.cons (.var 2) .nil)) (.const (.int 4))) (.cons (.ret (.call 5 (.cons (.var 0) (.cons (.var 1) (.cons (.idx (.var 2) (.const (.int 0))) (.cons (.idx (.var 2) (.const (.int 1))) (.cons (.idx (.var 2) (.const (.int 2))) (.cons (.idx (.var 2) (.const (.int 3))) .nil)))))))) .nil) .nil) (.cons (.ret (.call 5 (.cons (.var 0) (.cons (.var 1) (.cons (.idx (.var 2) (.const (.int 0))) (.cons (.idx (.var 2) (.const (.int 1))) (.cons (.idx (.var 2) (.const (.int 2))) (.cons (.idx (.var 2) (.const (.int 3))) (.cons (.idx (.var 2) (.const (.int 4))) .nil))))))))) .nil))))))
abbrev B30 : Ss := b__law_make
abbrev j__law_make : Nat := 30
/-- _law_making_right(_law_feed_here, _law_house_here) -/
def q__law_making_right_0 : C := (.comp false (.var 4) (.tup (.cons (.name 4) (.cons (.name 5) .nil))) (.seq (.idx (.var 1) (.const (.int 0)))) .none)
def b__law_making_right : Ss := (.cons (.set 2 (.call 12 (.cons (.var 0) (.cons (.bin false .Add (.bin false .Mult q__law_making_right_0 (.const (.int 2))) (.lst false (.cons (.const (.str "zz")) (.cons (.const (.str "")) (.cons (.const .non) (.cons (.const (.int 0)) .nil)))))) .nil)))) (.cons (.set 3 (.call 29 (.cons (.var 0) (.cons (.var 1) (.cons (.ife (.bi false "isinstance" (.cons (.var 2) (.cons (.glob "str" (.ty "str")) .nil))) (.var 2) (.const (.str "zz"))) .nil))))) (.cons (.ret (.cmp .Eq (.bi false "repr" (.cons (.lamcall 19 (.call 30 (.cons (.var 1) (.cons (.var 2) (.cons (.var 3) .nil))))) .nil)) (.bi false "repr" (.cons (.call 22 (.cons (.var 1) (.cons (.var 2) (.cons (.var 3) .nil)))) .nil)))) .nil)))
abbrev B31 : Ss := b__law_making_right
abbrev j__law_making_right : Nat := 31
/-- _law_others_right(_law_feed_here, _law_house_here) -/
def b__law_others_right : Ss := (.cons (.set 2 (.call 26 (.cons (.var 0) (.cons (.var 1) .nil)))) (.cons (.par 5 6 (.call 27 (.cons (.var 0) (.cons (.var 1) (.cons (.var 2) .nil)))) (.call 28 (.cons (.var 0) (.cons (.var 1) .nil)))) (.cons (.set 3 (.bi false "repr" (.cons (.call 24 (.cons (.var 1) (.cons (.var 2) (.cons (.var 5) (.cons (.var 6) .nil))))) .nil))) (.cons (.set 4 (.lst true (.cons (.bi false "repr" (.cons (.lamcall 19 (.call 6 (.cons (.var 1) (.cons (.var 2) (.cons (.var 5) (.cons (.var 6) .nil)))))) .nil)) .nil))) (.cons (.expr (.meth "append" (.var 4) (.cons (.bi false "repr" (.cons (.lamcall 19 (.callW 6 ["value", "field", "number", "plain"] [3, 2, 1, 0] (.cons (.var 6) (.cons (.var 5) (.cons (.var 2) (.cons (.var 1) .nil)))))) .nil)) .nil))) (.cons (.ifs (.cmp .NotEq (.var 4) (.lst false (.cons (.var 3) (.cons (.var 3) .nil)))) (.cons (.ret (.const (.bl false))) .nil) .nil) (.cons (.set 3 (.bi false "repr" (.cons (.call 25 (.cons (.var 1) (.cons (.var 2) .nil))) .nil))) (.cons (.set 4 (.lst true (.cons (.bi false "repr" (.cons (.lamcall 19 (.call 8 (.cons (.var 1) (.cons (.var 2) .nil)))) .nil)) .nil))) (.cons (.expr (.meth "append" (.var 4) (.cons (.bi false "repr" (.cons (.lamcall 19 (.callW 8 ["number", "plain"] [1, 0] (.cons (.var 2) (.cons (.var 1) .nil)))) .nil)) .nil))) (.cons (.ret (.cmp .Eq (.var 4) (.lst false (.cons (.var 3) (.cons (.var 3) .nil))))) .nil))))))))))
abbrev B32 : Ss := b__law_others_right
abbrev j__law_others_right : Nat := 32
/-- law(_law_script) -/
def l_law_0 : Ss := (.cons (.ifs (.or (.cons (.not (.call 31 (.cons (.var 1) (.cons (.var 4) .nil)))) (.cons (.not (.call 32 (.cons (.var 1) (.cons (.var 4) .nil)))) .nil))) (.cons (.ret (.const (.bl false))) .nil) .nil) .nil)
def l_law_1 : Ss := (.cons (.set 4 (.call 17 (.cons (.var 1) (.cons (.call 14 (.cons (.var 1) .nil)) (.cons (.const (.int 6)) .nil))))) (.cons (.set 6 (.bi false "repr" (.cons (.var 4) .nil))) (.cons (.for_ (.name 7) (.rng1 (.const (.int 6))) l_law_0) (.cons (.ifs (.cmp .NotEq (.bi false "repr" (.cons (.var 4) .nil)) (.var 6)) (.cons (.ret (.const (.bl false))) .nil) .nil) .nil))))
def b_law : Ss := (.cons (.set 1 (.call 9 (.cons (.var 0) .nil))) (.cons (.unp (.tup (.cons (.name 4) (.cons (.name 5) .nil))) (.call 20 .nil)) (.cons (.set 2 (.tup (.cons (.const (.str "told")) (.cons (.tup (.cons (.idx (.var 4) (.const (.int 0))) (.cons (.const (.int 3)) (.cons (.tup (.cons (.tup (.cons (.const (.int 0)) (.cons (.const (.str "box")) (.cons (.tup (.cons (.const .non) (.cons (.const (.int 4)) .nil))) .nil)))) (.cons (.tup (.cons (.const (.int 2)) (.cons (.const (.str "box")) (.cons (.tup (.cons (.const .non) (.cons (.const (.int 9)) .nil))) .nil)))) .nil))) .nil)))) .nil)))) (.cons (.ifs (.cmp .NotEq (.lamcall 19 (.call 8 (.cons (.var 4) (.cons (.const (.int 1)) .nil)))) (.var 2)) (.cons (.ret (.const (.bl false))) .nil) .nil) (.cons (.for_ (.name 3) (.rng1 (.call 11 (.cons (.var 0) (.cons (.const (.int 5)) .nil)))) l_law_1) (.cons (.ret (.const (.bl true))) .nil))))))
abbrev B33 : Ss := b_law
abbrev j_law : Nat := 33
abbrev c_LateError : Nat := 0
abbrev c_PaperError : Nat := 1
abbrev c_StoreError : Nat := 2
abbrev c_TextError : Nat := 3
abbrev c_InvalidPaper : Nat := 4
abbrev c_UnknownObject : Nat := 5
abbrev c_InvalidStep : Nat := 6
abbrev c_GoneCell : Nat := 7
abbrev c_UnfitExpression : Nat := 8
abbrev c_NothingToUndo : Nat := 9
abbrev c_InvalidPace : Nat := 10
abbrev c_InvalidText : Nat := 11
abbrev c_InvalidCommand : Nat := 12
abbrev c_ValueError : Nat := 13
def cfg : Cfg where
  fnm := (("is_integer" : Str) :: ("is_name" : Str) :: ("require_step" : Str) :: ("object_of" : Str) :: ("is_value" : Str) :: ("made" : Str) :: ("written" : Str) :: ("without_link" : Str) :: ("dropped" : Str) :: ("_law_feed" : Str) :: ("_law_draw" : Str) :: ("_law_laps" : Str) :: ("_law_any" : Str) :: ("_law_lot" : Str) :: ("_law_classes" : Str) :: ("_law_fitting" : Str) :: ("_law_values" : Str) :: ("_law_house" : Str) :: ("_law_is_integer" : Str) :: ("_law_outcome" : Str) :: ("_law_document" : Str) :: ("_law_suits" : Str) :: ("_law_made_due" : Str) :: ("_law_is_member" : Str) :: ("_law_written_due" : Str) :: ("_law_dropped_due" : Str) :: ("_law_some_number" : Str) :: ("_law_some_label" : Str) :: ("_law_some_item" : Str) :: ("_law_some_lots" : Str) :: ("_law_make" : Str) :: ("_law_making_right" : Str) :: ("_law_others_right" : Str) :: ("law" : Str) :: [])
  kws := fun i => match i with
    | 6 => [((["value", "field", "number", "plain"] : List Str), ([3, 2, 1, 0] : List Nat))]
    | 8 => [((["number", "plain"] : List Str), ([1, 0] : List Nat))]
    | _ => []
  gl := [("int", (.ty "int")), ("bool", (.ty "bool")), ("str", (.ty "str")), ("LONGEST", (.int 8)), ("LETTERS", (.str "abcdefghijklmnopqrstuvwxyz")), ("tuple", (.ty "tuple"))]
  bis := ["all", "dict", "int", "isinstance", "len", "list", "min", "range", "repr", "tuple", "zip"]
  cls := ["LateError", "PaperError", "StoreError", "TextError", "InvalidPaper", "UnknownObject", "InvalidStep", "GoneCell", "UnfitExpression", "NothingToUndo", "InvalidPace", "InvalidText", "InvalidCommand", "ValueError"]
  xps := fun i => match i with
    | 6 => some (["step", "word"] : List Str)
    | 5 => some (["number"] : List Str)
    | _ => none
  askf := fun i => match i with
    | 19 => some ("_law_ask" : Str)
    | _ => none
  fld := ["word", "at", "number", "step", "path", "row", "field"]
  nown := 13
abbrev N0 : List Str := ["thing"]
abbrev N1 : List Str := ["thing", "sign"]
abbrev N2 : List Str := ["truth", "step", "word"]
abbrev N3 : List Str := ["plain", "number", "one"]
abbrev N4 : List Str := ["plain", "kind", "thing", "one"]
abbrev N5 : List Str := ["plain", "cls", "values", "form", "good", "schema", "following", "objects", "step", "forms", "one", "field", "kind"]
abbrev N6 : List Str := ["plain", "number", "field", "value", "form", "names", "at", "later", "schema", "following", "objects", "step", "own", "name", "kind", "one"]
abbrev N7 : List Str := ["form", "values", "number", "pairs", "one", "field", "kind"]
abbrev N8 : List Str := ["plain", "number", "schema", "following", "objects", "forms", "found", "own", "cls", "values"]
abbrev N9 : List Str := ["_law_script"]
abbrev N10 : List Str := ["_law_feed_here", "_law_many", "_law_at", "_law_cell", "_law_mixed", "_law_digit"]
abbrev N11 : List Str := ["_law_script", "_law_count"]
abbrev N12 : List Str := ["_law_feed_here", "_law_some"]
abbrev N13 : List Str := ["_law_feed_here", "_law_names", "_law_found", "_law_label", "_law_which"]
abbrev N14 : List Str := ["_law_feed_here", "_law_names", "_law_own"]
abbrev N15 : List Str := ["_law_feed_here", "_law_sort", "_law_members", "_law_n", "_law_own"]
abbrev N16 : List Str := ["_law_feed_here", "_law_lot_here", "_law_members", "_law_label", "_law_sort"]
abbrev N17 : List Str := ["_law_feed_here", "_law_classes_here", "_law_most", "_law_members", "_law_things", "_law_names", "_law_count", "_law_n", "_law_own", "_law_lot_here"]
abbrev N18 : List Str := ["_law_item"]
abbrev N19 : List Str := ["_law_ask", "_law_found", "e", "_law_homes", "_law_sorts"]
abbrev N20 : List Str := ["_law_classes_here", "_law_area", "_law_rows"]
abbrev N21 : List Str := ["_law_house_here", "_law_sort", "_law_item", "_law_members", "_law_n", "_law_own", "_law_lots"]
abbrev N22 : List Str := ["_law_house_here", "_law_own", "_law_lots", "_law_lot_here", "_law_wrong", "_law_k", "_law_some"]
abbrev N23 : List Str := ["_law_house_here", "_law_item", "_law_n", "_law_own", "_law_lots"]
abbrev N24 : List Str := ["_law_house_here", "_law_n", "_law_label", "_law_item", "_law_own", "_law_labels", "_law_at", "_law_found", "_law_m", "_law_some", "_law_lots", "_law_later", "_law_one", "_law_sort"]
abbrev N25 : List Str := ["_law_house_here", "_law_n", "_law_found", "_law_m", "_law_own", "_law_lots", "_law_later", "_law_item", "_law_label", "_law_sort"]
abbrev N26 : List Str := ["_law_feed_here", "_law_house_here", "_law_some", "_law_n", "_law_own", "_law_lots"]
abbrev N27 : List Str := ["_law_feed_here", "_law_house_here", "_law_n", "_law_own", "_law_some", "_law_m", "_law_lots", "_law_label", "_law_sort"]
abbrev N28 : List Str := ["_law_feed_here", "_law_house_here", "_law_some", "_law_n", "_law_own", "_law_lots"]
abbrev N29 : List Str := ["_law_feed_here", "_law_house_here", "_law_own", "_law_members", "_law_lots", "_law_which", "_law_at", "_law_ways", "_law_n", "_law_some"]
abbrev N30 : List Str := ["_law_house_here", "_law_own", "_law_lots"]
abbrev N31 : List Str := ["_law_feed_here", "_law_house_here", "_law_own", "_law_lots", "_law_some", "_law_lot_here"]
abbrev N32 : List Str := ["_law_feed_here", "_law_house_here", "_law_n", "_law_due", "_law_told", "_law_label", "_law_item"]
abbrev N33 : List Str := ["_law_script", "_law_feed_here", "_law_later", "_law_lap", "_law_house_here", "_law_rows", "_law_before", "_law_k"]
def T : Nat → Option Fn
  | 0 => some { np := 1, ns := 1, body := B0, star := false, ask := false }
  | 1 => some { np := 1, ns := 2, body := B1, star := false, ask := false }
  | 2 => some { np := 3, ns := 3, body := B2, star := false, ask := false }
  | 3 => some { np := 2, ns := 3, body := B3, star := false, ask := false }
  | 4 => some { np := 3, ns := 4, body := B4, star := false, ask := false }
  | 5 => some { np := 2, ns := 13, body := B5, star := true, ask := false }
  | 6 => some { np := 4, ns := 16, body := B6, star := false, ask := false }
  | 7 => some { np := 3, ns := 7, body := B7, star := false, ask := false }
  | 8 => some { np := 2, ns := 10, body := B8, star := false, ask := false }
  | 9 => some { np := 1, ns := 1, body := B9, star := false, ask := false }
  | 10 => some { np := 2, ns := 6, body := B10, star := false, ask := false }
  | 11 => some { np := 2, ns := 2, body := B11, star := false, ask := false }
  | 12 => some { np := 2, ns := 2, body := B12, star := false, ask := false }
  | 13 => some { np := 2, ns := 5, body := B13, star := false, ask := false }
  | 14 => some { np := 1, ns := 3, body := B14, star := false, ask := false }
  | 15 => some { np := 3, ns := 5, body := B15, star := false, ask := false }
  | 16 => some { np := 3, ns := 5, body := B16, star := false, ask := false }
  | 17 => some { np := 3, ns := 10, body := B17, star := false, ask := false }
  | 18 => some { np := 1, ns := 1, body := B18, star := false, ask := false }
  | 19 => some { np := 1, ns := 5, body := B19, star := false, ask := true }
  | 20 => some { np := 0, ns := 3, body := B20, star := false, ask := false }
  | 21 => some { np := 3, ns := 7, body := B21, star := false, ask := false }
  | 22 => some { np := 3, ns := 7, body := B22, star := false, ask := false }
  | 23 => some { np := 2, ns := 5, body := B23, star := false, ask := false }
  | 24 => some { np := 4, ns := 14, body := B24, star := false, ask := false }
  | 25 => some { np := 2, ns := 10, body := B25, star := false, ask := false }
  | 26 => some { np := 2, ns := 6, body := B26, star := false, ask := false }
  | 27 => some { np := 3, ns := 9, body := B27, star := false, ask := false }
  | 28 => some { np := 2, ns := 6, body := B28, star := false, ask := false }
  | 29 => some { np := 3, ns := 10, body := B29, star := false, ask := false }
  | 30 => some { np := 3, ns := 3, body := B30, star := false, ask := false }
  | 31 => some { np := 2, ns := 6, body := B31, star := false, ask := false }
  | 32 => some { np := 2, ns := 7, body := B32, star := false, ask := false }
  | 33 => some { np := 1, ns := 8, body := B33, star := false, ask := false }
  | _ => none
theorem T_is_integer : T j_is_integer = some { np := 1, ns := 1, body := b_is_integer, star := false, ask := false } := rfl
theorem T_is_name : T j_is_name = some { np := 1, ns := 2, body := b_is_name, star := false, ask := false } := rfl
theorem T_require_step : T j_require_step = some { np := 3, ns := 3, body := b_require_step, star := false, ask := false } := rfl
theorem T_object_of : T j_object_of = some { np := 2, ns := 3, body := b_object_of, star := false, ask := false } := rfl
theorem T_is_value : T j_is_value = some { np := 3, ns := 4, body := b_is_value, star := false, ask := false } := rfl
theorem T_made : T j_made = some { np := 2, ns := 13, body := b_made, star := true, ask := false } := rfl
theorem T_written : T j_written = some { np := 4, ns := 16, body := b_written, star := false, ask := false } := rfl
theorem T_without_link : T j_without_link = some { np := 3, ns := 7, body := b_without_link, star := false, ask := false } := rfl
theorem T_dropped : T j_dropped = some { np := 2, ns := 10, body := b_dropped, star := false, ask := false } := rfl
theorem T__law_feed : T j__law_feed = some { np := 1, ns := 1, body := b__law_feed, star := false, ask := false } := rfl
theorem T__law_draw : T j__law_draw = some { np := 2, ns := 6, body := b__law_draw, star := false, ask := false } := rfl
theorem T__law_laps : T j__law_laps = some { np := 2, ns := 2, body := b__law_laps, star := false, ask := false } := rfl
theorem T__law_any : T j__law_any = some { np := 2, ns := 2, body := b__law_any, star := false, ask := false } := rfl
theorem T__law_lot : T j__law_lot = some { np := 2, ns := 5, body := b__law_lot, star := false, ask := false } := rfl
theorem T__law_classes : T j__law_classes = some { np := 1, ns := 3, body := b__law_classes, star := false, ask := false } := rfl
theorem T__law_fitting : T j__law_fitting = some { np := 3, ns := 5, body := b__law_fitting, star := false, ask := false } := rfl
theorem T__law_values : T j__law_values = some { np := 3, ns := 5, body := b__law_values, star := false, ask := false } := rfl
theorem T__law_house : T j__law_house = some { np := 3, ns := 10, body := b__law_house, star := false, ask := false } := rfl
theorem T__law_is_integer : T j__law_is_integer = some { np := 1, ns := 1, body := b__law_is_integer, star := false, ask := false } := rfl
theorem T__law_outcome : T j__law_outcome = some { np := 1, ns := 5, body := b__law_outcome, star := false, ask := true } := rfl
theorem T__law_document : T j__law_document = some { np := 0, ns := 3, body := b__law_document, star := false, ask := false } := rfl
theorem T__law_suits : T j__law_suits = some { np := 3, ns := 7, body := b__law_suits, star := false, ask := false } := rfl
theorem T__law_made_due : T j__law_made_due = some { np := 3, ns := 7, body := b__law_made_due, star := false, ask := false } := rfl
theorem T__law_is_member : T j__law_is_member = some { np := 2, ns := 5, body := b__law_is_member, star := false, ask := false } := rfl
theorem T__law_written_due : T j__law_written_due = some { np := 4, ns := 14, body := b__law_written_due, star := false, ask := false } := rfl
theorem T__law_dropped_due : T j__law_dropped_due = some { np := 2, ns := 10, body := b__law_dropped_due, star := false, ask := false } := rfl
theorem T__law_some_number : T j__law_some_number = some { np := 2, ns := 6, body := b__law_some_number, star := false, ask := false } := rfl
theorem T__law_some_label : T j__law_some_label = some { np := 3, ns := 9, body := b__law_some_label, star := false, ask := false } := rfl
theorem T__law_some_item : T j__law_some_item = some { np := 2, ns := 6, body := b__law_some_item, star := false, ask := false } := rfl
theorem T__law_some_lots : T j__law_some_lots = some { np := 3, ns := 10, body := b__law_some_lots, star := false, ask := false } := rfl
theorem T__law_make : T j__law_make = some { np := 3, ns := 3, body := b__law_make, star := false, ask := false } := rfl
theorem T__law_making_right : T j__law_making_right = some { np := 2, ns := 6, body := b__law_making_right, star := false, ask := false } := rfl
theorem T__law_others_right : T j__law_others_right = some { np := 2, ns := 7, body := b__law_others_right, star := false, ask := false } := rfl
theorem T_law : T j_law = some { np := 1, ns := 8, body := b_law, star := false, ask := false } := rfl
def subT : List (List Bool) := [[true, false, false, false, false, false, false, false, false, false, false, false, false, true], [true, true, false, false, false, false, false, false, false, false, false, false, false, true], [true, false, true, false, false, false, false, false, false, false, false, false, false, true], [true, false, false, true, false, false, false, false, false, false, false, false, false, true], [true, true, false, false, true, false, false, false, false, false, false, false, false, true], [true, false, true, false, false, true, false, false, false, false, false, false, false, true], [true, false, true, false, false, false, true, false, false, false, false, false, false, true], [true, false, true, false, false, false, false, true, false, false, false, false, false, true], [true, false, true, false, false, false, false, false, true, false, false, false, false, true], [true, false, true, false, false, false, false, false, false, true, false, false, false, true], [true, false, true, false, false, false, false, false, false, false, true, false, false, true], [true, false, false, true, false, false, false, false, false, false, false, true, false, true], [true, false, false, true, false, false, false, false, false, false, false, false, true, true], [false, false, false, false, false, false, false, false, false, false, false, false, false, true]]
def sub0 (k c : Nat) : Bool := (subT.getD k []).getD c false
def sub (k c : Nat) : Bool := sub0 (clip 14 k) (clip 14 c)
abbrev S0 : Stmt := topS 17
theorem sc0 : FnScope N0 ["thing"] (defScope S0) := ⟨rfl, rfl, rfl, by decide +kernel, rfl, by decide +kernel, by decide +kernel⟩
theorem chk0 : mSs cfg N0 (defScope S0) ⟨3, none, none⟩ B0 (defBody S0) = true := by decide +kernel
abbrev S1 : Stmt := topS 18
theorem sc1 : FnScope N1 ["thing"] (defScope S1) := ⟨rfl, rfl, rfl, by decide +kernel, rfl, by decide +kernel, by decide +kernel⟩
theorem chk1 : mSs cfg N1 (defScope S1) ⟨3, none, none⟩ B1 (defBody S1) = true := by decide +kernel
abbrev S2 : Stmt := topS 20
theorem sc2 : FnScope N2 ["truth", "step", "word"] (defScope S2) := ⟨rfl, rfl, rfl, by decide +kernel, rfl, by decide +kernel, by decide +kernel⟩
theorem chk2 : mSs cfg N2 (defScope S2) ⟨3, none, none⟩ B2 (defBody S2) = true := by decide +kernel
abbrev S3 : Stmt := topS 21
theorem sc3 : FnScope N3 ["plain", "number"] (defScope S3) := ⟨rfl, rfl, rfl, by decide +kernel, rfl, by decide +kernel, by decide +kernel⟩
theorem chk3 : mSs cfg N3 (defScope S3) ⟨3, none, none⟩ B3 (defBody S3) = true := by decide +kernel
abbrev S4 : Stmt := topS 22
theorem sc4 : FnScope N4 ["plain", "kind", "thing"] (defScope S4) := ⟨rfl, rfl, rfl, by decide +kernel, rfl, by decide +kernel, by decide +kernel⟩
theorem chk4 : mSs cfg N4 (defScope S4) ⟨3, none, none⟩ B4 (defBody S4) = true := by decide +kernel
abbrev S5 : Stmt := topS 23
theorem sc5 : FnScope N5 ["plain", "cls", "values"] (defScope S5) := ⟨rfl, rfl, rfl, by decide +kernel, rfl, by decide +kernel, by decide +kernel⟩
theorem chk5 : mSs cfg N5 (defScope S5) ⟨3, none, none⟩ B5 (defBody S5) = true := by decide +kernel
abbrev S6 : Stmt := topS 24
theorem sc6 : FnScope N6 ["plain", "number", "field", "value"] (defScope S6) := ⟨rfl, rfl, rfl, by decide +kernel, rfl, by decide +kernel, by decide +kernel⟩
theorem chk6 : mSs cfg N6 (defScope S6) ⟨3, none, none⟩ B6 (defBody S6) = true := by decide +kernel
abbrev S7 : Stmt := topS 25
theorem sc7 : FnScope N7 ["form", "values", "number"] (defScope S7) := ⟨rfl, rfl, rfl, by decide +kernel, rfl, by decide +kernel, by decide +kernel⟩
theorem chk7 : mSs cfg N7 (defScope S7) ⟨3, none, none⟩ B7 (defBody S7) = true := by decide +kernel
abbrev S8 : Stmt := topS 26
theorem sc8 : FnScope N8 ["plain", "number"] (defScope S8) := ⟨rfl, rfl, rfl, by decide +kernel, rfl, by decide +kernel, by decide +kernel⟩
theorem chk8 : mSs cfg N8 (defScope S8) ⟨3, none, none⟩ B8 (defBody S8) = true := by decide +kernel
abbrev S9 : Stmt := topS 28
theorem sc9 : FnScope N9 ["_law_script"] (defScope S9) := ⟨rfl, rfl, rfl, by decide +kernel, rfl, by decide +kernel, by decide +kernel⟩
theorem chk9 : mSs cfg N9 (defScope S9) ⟨3, none, none⟩ B9 (defBody S9) = true := by decide +kernel
abbrev S10 : Stmt := topS 29
theorem sc10 : FnScope N10 ["_law_feed_here", "_law_many"] (defScope S10) := ⟨rfl, rfl, rfl, by decide +kernel, rfl, by decide +kernel, by decide +kernel⟩
theorem chk10 : mSs cfg N10 (defScope S10) ⟨3, none, none⟩ B10 (defBody S10) = true := by decide +kernel
abbrev S11 : Stmt := topS 30
theorem sc11 : FnScope N11 ["_law_script", "_law_count"] (defScope S11) := ⟨rfl, rfl, rfl, by decide +kernel, rfl, by decide +kernel, by decide +kernel⟩
theorem chk11 : mSs cfg N11 (defScope S11) ⟨3, none, none⟩ B11 (defBody S11) = true := by decide +kernel
abbrev S12 : Stmt := topS 31
theorem sc12 : FnScope N12 ["_law_feed_here", "_law_some"] (defScope S12) := ⟨rfl, rfl, rfl, by decide +kernel, rfl, by decide +kernel, by decide +kernel⟩
theorem chk12 : mSs cfg N12 (defScope S12) ⟨3, none, none⟩ B12 (defBody S12) = true := by decide +kernel
abbrev S13 : Stmt := topS 32
theorem sc13 : FnScope N13 ["_law_feed_here", "_law_names"] (defScope S13) := ⟨rfl, rfl, rfl, by decide +kernel, rfl, by decide +kernel, by decide +kernel⟩
theorem chk13 : mSs cfg N13 (defScope S13) ⟨3, none, none⟩ B13 (defBody S13) = true := by decide +kernel
abbrev S14 : Stmt := topS 33
theorem sc14 : FnScope N14 ["_law_feed_here"] (defScope S14) := ⟨rfl, rfl, rfl, by decide +kernel, rfl, by decide +kernel, by decide +kernel⟩
theorem chk14 : mSs cfg N14 (defScope S14) ⟨3, none, none⟩ B14 (defBody S14) = true := by decide +kernel
abbrev S15 : Stmt := topS 34
theorem sc15 : FnScope N15 ["_law_feed_here", "_law_sort", "_law_members"] (defScope S15) := ⟨rfl, rfl, rfl, by decide +kernel, rfl, by decide +kernel, by decide +kernel⟩
theorem chk15 : mSs cfg N15 (defScope S15) ⟨3, none, none⟩ B15 (defBody S15) = true := by decide +kernel
abbrev S16 : Stmt := topS 35
theorem sc16 : FnScope N16 ["_law_feed_here", "_law_lot_here", "_law_members"] (defScope S16) := ⟨rfl, rfl, rfl, by decide +kernel, rfl, by decide +kernel, by decide +kernel⟩
theorem chk16 : mSs cfg N16 (defScope S16) ⟨3, none, none⟩ B16 (defBody S16) = true := by decide +kernel
abbrev S17 : Stmt := topS 36
theorem sc17 : FnScope N17 ["_law_feed_here", "_law_classes_here", "_law_most"] (defScope S17) := ⟨rfl, rfl, rfl, by decide +kernel, rfl, by decide +kernel, by decide +kernel⟩
theorem chk17 : mSs cfg N17 (defScope S17) ⟨3, none, none⟩ B17 (defBody S17) = true := by decide +kernel
abbrev S18 : Stmt := topS 37
theorem sc18 : FnScope N18 ["_law_item"] (defScope S18) := ⟨rfl, rfl, rfl, by decide +kernel, rfl, by decide +kernel, by decide +kernel⟩
theorem chk18 : mSs cfg N18 (defScope S18) ⟨3, none, none⟩ B18 (defBody S18) = true := by decide +kernel
abbrev S19 : Stmt := topS 38
theorem sc19 : FnScope N19 ["_law_ask"] (defScope S19) := ⟨rfl, rfl, rfl, by decide +kernel, rfl, by decide +kernel, by decide +kernel⟩
theorem chk19 : mSs cfg N19 (defScope S19) ⟨1, none, some "_law_ask"⟩ B19 (defBody S19) = true := by decide +kernel
abbrev S20 : Stmt := topS 39
theorem sc20 : FnScope N20 [] (defScope S20) := ⟨rfl, rfl, rfl, by decide +kernel, rfl, by decide +kernel, by decide +kernel⟩
theorem chk20 : mSs cfg N20 (defScope S20) ⟨3, none, none⟩ B20 (defBody S20) = true := by decide +kernel
abbrev S21 : Stmt := topS 40
theorem sc21 : FnScope N21 ["_law_house_here", "_law_sort", "_law_item"] (defScope S21) := ⟨rfl, rfl, rfl, by decide +kernel, rfl, by decide +kernel, by decide +kernel⟩
theorem chk21 : mSs cfg N21 (defScope S21) ⟨3, none, none⟩ B21 (defBody S21) = true := by decide +kernel
abbrev S22 : Stmt := topS 41
theorem sc22 : FnScope N22 ["_law_house_here", "_law_own", "_law_lots"] (defScope S22) := ⟨rfl, rfl, rfl, by decide +kernel, rfl, by decide +kernel, by decide +kernel⟩
theorem chk22 : mSs cfg N22 (defScope S22) ⟨3, none, none⟩ B22 (defBody S22) = true := by decide +kernel
abbrev S23 : Stmt := topS 42
theorem sc23 : FnScope N23 ["_law_house_here", "_law_item"] (defScope S23) := ⟨rfl, rfl, rfl, by decide +kernel, rfl, by decide +kernel, by decide +kernel⟩
theorem chk23 : mSs cfg N23 (defScope S23) ⟨3, none, none⟩ B23 (defBody S23) = true := by decide +kernel
abbrev S24 : Stmt := topS 43
theorem sc24 : FnScope N24 ["_law_house_here", "_law_n", "_law_label", "_law_item"] (defScope S24) := ⟨rfl, rfl, rfl, by decide +kernel, rfl, by decide +kernel, by decide +kernel⟩
theorem chk24 : mSs cfg N24 (defScope S24) ⟨3, none, none⟩ B24 (defBody S24) = true := by decide +kernel
abbrev S25 : Stmt := topS 44
theorem sc25 : FnScope N25 ["_law_house_here", "_law_n"] (defScope S25) := ⟨rfl, rfl, rfl, by decide +kernel, rfl, by decide +kernel, by decide +kernel⟩
theorem chk25 : mSs cfg N25 (defScope S25) ⟨3, none, none⟩ B25 (defBody S25) = true := by decide +kernel
abbrev S26 : Stmt := topS 45
theorem sc26 : FnScope N26 ["_law_feed_here", "_law_house_here"] (defScope S26) := ⟨rfl, rfl, rfl, by decide +kernel, rfl, by decide +kernel, by decide +kernel⟩
theorem chk26 : mSs cfg N26 (defScope S26) ⟨3, none, none⟩ B26 (defBody S26) = true := by decide +kernel
abbrev S27 : Stmt := topS 46
theorem sc27 : FnScope N27 ["_law_feed_here", "_law_house_here", "_law_n"] (defScope S27) := ⟨rfl, rfl, rfl, by decide +kernel, rfl, by decide +kernel, by decide +kernel⟩
theorem chk27 : mSs cfg N27 (defScope S27) ⟨3, none, none⟩ B27 (defBody S27) = true := by decide +kernel
abbrev S28 : Stmt := topS 47
theorem sc28 : FnScope N28 ["_law_feed_here", "_law_house_here"] (defScope S28) := ⟨rfl, rfl, rfl, by decide +kernel, rfl, by decide +kernel, by decide +kernel⟩
theorem chk28 : mSs cfg N28 (defScope S28) ⟨3, none, none⟩ B28 (defBody S28) = true := by decide +kernel
abbrev S29 : Stmt := topS 48
theorem sc29 : FnScope N29 ["_law_feed_here", "_law_house_here", "_law_own"] (defScope S29) := ⟨rfl, rfl, rfl, by decide +kernel, rfl, by decide +kernel, by decide +kernel⟩
theorem chk29 : mSs cfg N29 (defScope S29) ⟨3, none, none⟩ B29 (defBody S29) = true := by decide +kernel
abbrev S30 : Stmt := topS 49
theorem sc30 : FnScope N30 ["_law_house_here", "_law_own", "_law_lots"] (defScope S30) := ⟨rfl, rfl, rfl, by decide +kernel, rfl, by decide +kernel, by decide +kernel⟩
theorem chk30 : mSs cfg N30 (defScope S30) ⟨3, none, none⟩ B30 (defBody S30) = true := by decide +kernel
abbrev S31 : Stmt := topS 50
theorem sc31 : FnScope N31 ["_law_feed_here", "_law_house_here"] (defScope S31) := ⟨rfl, rfl, rfl, by decide +kernel, rfl, by decide +kernel, by decide +kernel⟩
theorem chk31 : mSs cfg N31 (defScope S31) ⟨0, none, none⟩ B31 (defBody S31) = true := by decide +kernel
abbrev S32 : Stmt := topS 51
theorem sc32 : FnScope N32 ["_law_feed_here", "_law_house_here"] (defScope S32) := ⟨rfl, rfl, rfl, by decide +kernel, rfl, by decide +kernel, by decide +kernel⟩
theorem chk32 : mSs cfg N32 (defScope S32) ⟨0, none, none⟩ B32 (defBody S32) = true := by decide +kernel
abbrev S33 : Stmt := topS 52
theorem sc33 : FnScope N33 ["_law_script"] (defScope S33) := ⟨rfl, rfl, rfl, by decide +kernel, rfl, by decide +kernel, by decide +kernel⟩
theorem chk33 : mSs cfg N33 (defScope S33) ⟨0, none, none⟩ B33 (defBody S33) = true := by decide +kernel
theorem T_ok : ∀ i f, T i = some f → (∃ x, cfg.fnm[i]? = some x) ∧ ∀ a, cfg.askf i = some a → f.ask = true := by
  intro i f h
  match i, h with
  | 0, h => cases h; exact ⟨⟨_, rfl⟩, fun a ha => by first | rfl | cases ha⟩
  | 1, h => cases h; exact ⟨⟨_, rfl⟩, fun a ha => by first | rfl | cases ha⟩
  | 2, h => cases h; exact ⟨⟨_, rfl⟩, fun a ha => by first | rfl | cases ha⟩
  | 3, h => cases h; exact ⟨⟨_, rfl⟩, fun a ha => by first | rfl | cases ha⟩
  | 4, h => cases h; exact ⟨⟨_, rfl⟩, fun a ha => by first | rfl | cases ha⟩
  | 5, h => cases h; exact ⟨⟨_, rfl⟩, fun a ha => by first | rfl | cases ha⟩
  | 6, h => cases h; exact ⟨⟨_, rfl⟩, fun a ha => by first | rfl | cases ha⟩
  | 7, h => cases h; exact ⟨⟨_, rfl⟩, fun a ha => by first | rfl | cases ha⟩
  | 8, h => cases h; exact ⟨⟨_, rfl⟩, fun a ha => by first | rfl | cases ha⟩
  | 9, h => cases h; exact ⟨⟨_, rfl⟩, fun a ha => by first | rfl | cases ha⟩
  | 10, h => cases h; exact ⟨⟨_, rfl⟩, fun a ha => by first | rfl | cases ha⟩
  | 11, h => cases h; exact ⟨⟨_, rfl⟩, fun a ha => by first | rfl | cases ha⟩
  | 12, h => cases h; exact ⟨⟨_, rfl⟩, fun a ha => by first | rfl | cases ha⟩
  | 13, h => cases h; exact ⟨⟨_, rfl⟩, fun a ha => by first | rfl | cases ha⟩
  | 14, h => cases h; exact ⟨⟨_, rfl⟩, fun a ha => by first | rfl | cases ha⟩
  | 15, h => cases h; exact ⟨⟨_, rfl⟩, fun a ha => by first | rfl | cases ha⟩
  | 16, h => cases h; exact ⟨⟨_, rfl⟩, fun a ha => by first | rfl | cases ha⟩
  | 17, h => cases h; exact ⟨⟨_, rfl⟩, fun a ha => by first | rfl | cases ha⟩
  | 18, h => cases h; exact ⟨⟨_, rfl⟩, fun a ha => by first | rfl | cases ha⟩
  | 19, h => cases h; exact ⟨⟨_, rfl⟩, fun a ha => by first | rfl | cases ha⟩
  | 20, h => cases h; exact ⟨⟨_, rfl⟩, fun a ha => by first | rfl | cases ha⟩
  | 21, h => cases h; exact ⟨⟨_, rfl⟩, fun a ha => by first | rfl | cases ha⟩
  | 22, h => cases h; exact ⟨⟨_, rfl⟩, fun a ha => by first | rfl | cases ha⟩
  | 23, h => cases h; exact ⟨⟨_, rfl⟩, fun a ha => by first | rfl | cases ha⟩
  | 24, h => cases h; exact ⟨⟨_, rfl⟩, fun a ha => by first | rfl | cases ha⟩
  | 25, h => cases h; exact ⟨⟨_, rfl⟩, fun a ha => by first | rfl | cases ha⟩
  | 26, h => cases h; exact ⟨⟨_, rfl⟩, fun a ha => by first | rfl | cases ha⟩
  | 27, h => cases h; exact ⟨⟨_, rfl⟩, fun a ha => by first | rfl | cases ha⟩
  | 28, h => cases h; exact ⟨⟨_, rfl⟩, fun a ha => by first | rfl | cases ha⟩
  | 29, h => cases h; exact ⟨⟨_, rfl⟩, fun a ha => by first | rfl | cases ha⟩
  | 30, h => cases h; exact ⟨⟨_, rfl⟩, fun a ha => by first | rfl | cases ha⟩
  | 31, h => cases h; exact ⟨⟨_, rfl⟩, fun a ha => by first | rfl | cases ha⟩
  | 32, h => cases h; exact ⟨⟨_, rfl⟩, fun a ha => by first | rfl | cases ha⟩
  | 33, h => cases h; exact ⟨⟨_, rfl⟩, fun a ha => by first | rfl | cases ha⟩
  | _ + 34, h => cases h
abbrev I6 : Stmt := clsStmt (topS 7) 0
abbrev I5 : Stmt := clsStmt (topS 6) 0
section
theorem facts {prog : Program} {w : World} {K : PySem.W.Frag} {h : Heap} {mg : Str → Option Value} (X : K.In h) (G : h.Ns mainGlobals mg)
    {f0 f1 f2 f3 f4 f5 f6 f7 f8 f9 f10 f11 f12 f13 f14 f15 f16 f17 f18 f19 f20 f21 f22 f23 f24 f25 f26 f27 f28 f29 f30 f31 f32 f33 : Addr} {od0 an0 od1 an1 od2 an2 od3 an3 od4 an4 od5 an5 od6 an6 od7 an7 od8 an8 od9 an9 od10 an10 od11 an11 od12 an12 od13 an13 od14 an14 od15 an15 od16 an16 od17 an17 od18 an18 od19 an19 od20 an20 od21 an21 od22 an22 od23 an23 od24 an24 od25 an25 od26 an26 od27 an27 od28 an28 od29 an29 od30 an30 od31 an31 od32 an32 od33 an33 : Option Addr} {sl0 sl1 sl2 sl3 sl4 sl5 sl6 sl7 sl8 sl9 sl10 sl11 sl12 sl13 sl14 sl15 sl16 sl17 sl18 sl19 sl20 sl21 sl22 sl23 sl24 sl25 sl26 sl27 sl28 sl29 sl30 sl31 sl32 sl33 : Array (Option Value)} {oc0 kV0 dc0 pm0 cd0 ct0 oc1 kV1 dc1 pm1 cd1 ct1 oc2 kV2 dc2 pm2 cd2 ct2 oc3 kV3 dc3 pm3 cd3 ct3 oc4 kV4 dc4 pm4 cd4 ct4 oc5 kV5 dc5 pm5 cd5 ct5 oc6 kV6 dc6 pm6 cd6 ct6 oc7 kV7 dc7 pm7 cd7 ct7 oc8 kV8 dc8 pm8 cd8 ct8 oc9 kV9 dc9 pm9 cd9 ct9 oc10 kV10 dc10 pm10 cd10 ct10 oc11 kV11 dc11 pm11 cd11 ct11 oc12 kV12 dc12 pm12 cd12 ct12 oc13 kV13 dc13 pm13 cd13 ct13 oc14 kV14 dc14 pm14 cd14 ct14 oc15 kV15 dc15 pm15 cd15 ct15 oc16 kV16 dc16 pm16 cd16 ct16 oc17 kV17 dc17 pm17 cd17 ct17 oc18 kV18 dc18 pm18 cd18 ct18 oc19 kV19 dc19 pm19 cd19 ct19 oc20 kV20 dc20 pm20 cd20 ct20 oc21 kV21 dc21 pm21 cd21 ct21 oc22 kV22 dc22 pm22 cd22 ct22 oc23 kV23 dc23 pm23 cd23 ct23 oc24 kV24 dc24 pm24 cd24 ct24 oc25 kV25 dc25 pm25 cd25 ct25 oc26 kV26 dc26 pm26 cd26 ct26 oc27 kV27 dc27 pm27 cd27 ct27 oc28 kV28 dc28 pm28 cd28 ct28 oc29 kV29 dc29 pm29 cd29 ct29 oc30 kV30 dc30 pm30 cd30 ct30 oc31 kV31 dc31 pm31 cd31 ct31 oc32 kV32 dc32 pm32 cd32 ct32 oc33 kV33 dc33 pm33 cd33 ct33 : Value}
    (a0 : PySem.W.nsIn K mainGlobals "is_integer" = some (some (.ref f0))) (l0 : K.lookup f0 = some ⟨oc0, od0, .func (PySem.W.fnOf "is_integer" "is_integer" (defArgs S0) (defBody S0) (defScope S0) .none kV0 dc0 pm0 an0 cd0 ct0), sl0⟩) (c0 : PySem.W.codeIn K cd0 "is_integer" = true) (k0 : PySem.W.keepIn K (.ref f0) = true)
    (a1 : PySem.W.nsIn K mainGlobals "is_name" = some (some (.ref f1))) (l1 : K.lookup f1 = some ⟨oc1, od1, .func (PySem.W.fnOf "is_name" "is_name" (defArgs S1) (defBody S1) (defScope S1) .none kV1 dc1 pm1 an1 cd1 ct1), sl1⟩) (c1 : PySem.W.codeIn K cd1 "is_name" = true) (k1 : PySem.W.keepIn K (.ref f1) = true)
    (a2 : PySem.W.nsIn K mainGlobals "require_step" = some (some (.ref f2))) (l2 : K.lookup f2 = some ⟨oc2, od2, .func (PySem.W.fnOf "require_step" "require_step" (defArgs S2) (defBody S2) (defScope S2) .none kV2 dc2 pm2 an2 cd2 ct2), sl2⟩) (c2 : PySem.W.codeIn K cd2 "require_step" = true) (k2 : PySem.W.keepIn K (.ref f2) = true)
    (a3 : PySem.W.nsIn K mainGlobals "object_of" = some (some (.ref f3))) (l3 : K.lookup f3 = some ⟨oc3, od3, .func (PySem.W.fnOf "object_of" "object_of" (defArgs S3) (defBody S3) (defScope S3) .none kV3 dc3 pm3 an3 cd3 ct3), sl3⟩) (c3 : PySem.W.codeIn K cd3 "object_of" = true) (k3 : PySem.W.keepIn K (.ref f3) = true)
    (a4 : PySem.W.nsIn K mainGlobals "is_value" = some (some (.ref f4))) (l4 : K.lookup f4 = some ⟨oc4, od4, .func (PySem.W.fnOf "is_value" "is_value" (defArgs S4) (defBody S4) (defScope S4) .none kV4 dc4 pm4 an4 cd4 ct4), sl4⟩) (c4 : PySem.W.codeIn K cd4 "is_value" = true) (k4 : PySem.W.keepIn K (.ref f4) = true)
    (a5 : PySem.W.nsIn K mainGlobals "made" = some (some (.ref f5))) (l5 : K.lookup f5 = some ⟨oc5, od5, .func (PySem.W.fnOf "made" "made" (defArgs S5) (defBody S5) (defScope S5) .none kV5 dc5 pm5 an5 cd5 ct5), sl5⟩) (c5 : PySem.W.codeIn K cd5 "made" = true) (k5 : PySem.W.keepIn K (.ref f5) = true)
    (a6 : PySem.W.nsIn K mainGlobals "written" = some (some (.ref f6))) (l6 : K.lookup f6 = some ⟨oc6, od6, .func (PySem.W.fnOf "written" "written" (defArgs S6) (defBody S6) (defScope S6) .none kV6 dc6 pm6 an6 cd6 ct6), sl6⟩) (c6 : PySem.W.codeIn K cd6 "written" = true) (k6 : PySem.W.keepIn K (.ref f6) = true)
    (a7 : PySem.W.nsIn K mainGlobals "without_link" = some (some (.ref f7))) (l7 : K.lookup f7 = some ⟨oc7, od7, .func (PySem.W.fnOf "without_link" "without_link" (defArgs S7) (defBody S7) (defScope S7) .none kV7 dc7 pm7 an7 cd7 ct7), sl7⟩) (c7 : PySem.W.codeIn K cd7 "without_link" = true) (k7 : PySem.W.keepIn K (.ref f7) = true)
    (a8 : PySem.W.nsIn K mainGlobals "dropped" = some (some (.ref f8))) (l8 : K.lookup f8 = some ⟨oc8, od8, .func (PySem.W.fnOf "dropped" "dropped" (defArgs S8) (defBody S8) (defScope S8) .none kV8 dc8 pm8 an8 cd8 ct8), sl8⟩) (c8 : PySem.W.codeIn K cd8 "dropped" = true) (k8 : PySem.W.keepIn K (.ref f8) = true)
    (a9 : PySem.W.nsIn K mainGlobals "_law_feed" = some (some (.ref f9))) (l9 : K.lookup f9 = some ⟨oc9, od9, .func (PySem.W.fnOf "_law_feed" "_law_feed" (defArgs S9) (defBody S9) (defScope S9) .none kV9 dc9 pm9 an9 cd9 ct9), sl9⟩) (c9 : PySem.W.codeIn K cd9 "_law_feed" = true) (k9 : PySem.W.keepIn K (.ref f9) = true)
    (a10 : PySem.W.nsIn K mainGlobals "_law_draw" = some (some (.ref f10))) (l10 : K.lookup f10 = some ⟨oc10, od10, .func (PySem.W.fnOf "_law_draw" "_law_draw" (defArgs S10) (defBody S10) (defScope S10) .none kV10 dc10 pm10 an10 cd10 ct10), sl10⟩) (c10 : PySem.W.codeIn K cd10 "_law_draw" = true) (k10 : PySem.W.keepIn K (.ref f10) = true)
    (a11 : PySem.W.nsIn K mainGlobals "_law_laps" = some (some (.ref f11))) (l11 : K.lookup f11 = some ⟨oc11, od11, .func (PySem.W.fnOf "_law_laps" "_law_laps" (defArgs S11) (defBody S11) (defScope S11) .none kV11 dc11 pm11 an11 cd11 ct11), sl11⟩) (c11 : PySem.W.codeIn K cd11 "_law_laps" = true) (k11 : PySem.W.keepIn K (.ref f11) = true)
    (a12 : PySem.W.nsIn K mainGlobals "_law_any" = some (some (.ref f12))) (l12 : K.lookup f12 = some ⟨oc12, od12, .func (PySem.W.fnOf "_law_any" "_law_any" (defArgs S12) (defBody S12) (defScope S12) .none kV12 dc12 pm12 an12 cd12 ct12), sl12⟩) (c12 : PySem.W.codeIn K cd12 "_law_any" = true) (k12 : PySem.W.keepIn K (.ref f12) = true)
    (a13 : PySem.W.nsIn K mainGlobals "_law_lot" = some (some (.ref f13))) (l13 : K.lookup f13 = some ⟨oc13, od13, .func (PySem.W.fnOf "_law_lot" "_law_lot" (defArgs S13) (defBody S13) (defScope S13) .none kV13 dc13 pm13 an13 cd13 ct13), sl13⟩) (c13 : PySem.W.codeIn K cd13 "_law_lot" = true) (k13 : PySem.W.keepIn K (.ref f13) = true)
    (a14 : PySem.W.nsIn K mainGlobals "_law_classes" = some (some (.ref f14))) (l14 : K.lookup f14 = some ⟨oc14, od14, .func (PySem.W.fnOf "_law_classes" "_law_classes" (defArgs S14) (defBody S14) (defScope S14) .none kV14 dc14 pm14 an14 cd14 ct14), sl14⟩) (c14 : PySem.W.codeIn K cd14 "_law_classes" = true) (k14 : PySem.W.keepIn K (.ref f14) = true)
    (a15 : PySem.W.nsIn K mainGlobals "_law_fitting" = some (some (.ref f15))) (l15 : K.lookup f15 = some ⟨oc15, od15, .func (PySem.W.fnOf "_law_fitting" "_law_fitting" (defArgs S15) (defBody S15) (defScope S15) .none kV15 dc15 pm15 an15 cd15 ct15), sl15⟩) (c15 : PySem.W.codeIn K cd15 "_law_fitting" = true) (k15 : PySem.W.keepIn K (.ref f15) = true)
    (a16 : PySem.W.nsIn K mainGlobals "_law_values" = some (some (.ref f16))) (l16 : K.lookup f16 = some ⟨oc16, od16, .func (PySem.W.fnOf "_law_values" "_law_values" (defArgs S16) (defBody S16) (defScope S16) .none kV16 dc16 pm16 an16 cd16 ct16), sl16⟩) (c16 : PySem.W.codeIn K cd16 "_law_values" = true) (k16 : PySem.W.keepIn K (.ref f16) = true)
    (a17 : PySem.W.nsIn K mainGlobals "_law_house" = some (some (.ref f17))) (l17 : K.lookup f17 = some ⟨oc17, od17, .func (PySem.W.fnOf "_law_house" "_law_house" (defArgs S17) (defBody S17) (defScope S17) .none kV17 dc17 pm17 an17 cd17 ct17), sl17⟩) (c17 : PySem.W.codeIn K cd17 "_law_house" = true) (k17 : PySem.W.keepIn K (.ref f17) = true)
    (a18 : PySem.W.nsIn K mainGlobals "_law_is_integer" = some (some (.ref f18))) (l18 : K.lookup f18 = some ⟨oc18, od18, .func (PySem.W.fnOf "_law_is_integer" "_law_is_integer" (defArgs S18) (defBody S18) (defScope S18) .none kV18 dc18 pm18 an18 cd18 ct18), sl18⟩) (c18 : PySem.W.codeIn K cd18 "_law_is_integer" = true) (k18 : PySem.W.keepIn K (.ref f18) = true)
    (a19 : PySem.W.nsIn K mainGlobals "_law_outcome" = some (some (.ref f19))) (l19 : K.lookup f19 = some ⟨oc19, od19, .func (PySem.W.fnOf "_law_outcome" "_law_outcome" (defArgs S19) (defBody S19) (defScope S19) .none kV19 dc19 pm19 an19 cd19 ct19), sl19⟩) (c19 : PySem.W.codeIn K cd19 "_law_outcome" = true) (k19 : PySem.W.keepIn K (.ref f19) = true)
    (a20 : PySem.W.nsIn K mainGlobals "_law_document" = some (some (.ref f20))) (l20 : K.lookup f20 = some ⟨oc20, od20, .func (PySem.W.fnOf "_law_document" "_law_document" (defArgs S20) (defBody S20) (defScope S20) .none kV20 dc20 pm20 an20 cd20 ct20), sl20⟩) (c20 : PySem.W.codeIn K cd20 "_law_document" = true) (k20 : PySem.W.keepIn K (.ref f20) = true)
    (a21 : PySem.W.nsIn K mainGlobals "_law_suits" = some (some (.ref f21))) (l21 : K.lookup f21 = some ⟨oc21, od21, .func (PySem.W.fnOf "_law_suits" "_law_suits" (defArgs S21) (defBody S21) (defScope S21) .none kV21 dc21 pm21 an21 cd21 ct21), sl21⟩) (c21 : PySem.W.codeIn K cd21 "_law_suits" = true) (k21 : PySem.W.keepIn K (.ref f21) = true)
    (a22 : PySem.W.nsIn K mainGlobals "_law_made_due" = some (some (.ref f22))) (l22 : K.lookup f22 = some ⟨oc22, od22, .func (PySem.W.fnOf "_law_made_due" "_law_made_due" (defArgs S22) (defBody S22) (defScope S22) .none kV22 dc22 pm22 an22 cd22 ct22), sl22⟩) (c22 : PySem.W.codeIn K cd22 "_law_made_due" = true) (k22 : PySem.W.keepIn K (.ref f22) = true)
    (a23 : PySem.W.nsIn K mainGlobals "_law_is_member" = some (some (.ref f23))) (l23 : K.lookup f23 = some ⟨oc23, od23, .func (PySem.W.fnOf "_law_is_member" "_law_is_member" (defArgs S23) (defBody S23) (defScope S23) .none kV23 dc23 pm23 an23 cd23 ct23), sl23⟩) (c23 : PySem.W.codeIn K cd23 "_law_is_member" = true) (k23 : PySem.W.keepIn K (.ref f23) = true)
    (a24 : PySem.W.nsIn K mainGlobals "_law_written_due" = some (some (.ref f24))) (l24 : K.lookup f24 = some ⟨oc24, od24, .func (PySem.W.fnOf "_law_written_due" "_law_written_due" (defArgs S24) (defBody S24) (defScope S24) .none kV24 dc24 pm24 an24 cd24 ct24), sl24⟩) (c24 : PySem.W.codeIn K cd24 "_law_written_due" = true) (k24 : PySem.W.keepIn K (.ref f24) = true)
    (a25 : PySem.W.nsIn K mainGlobals "_law_dropped_due" = some (some (.ref f25))) (l25 : K.lookup f25 = some ⟨oc25, od25, .func (PySem.W.fnOf "_law_dropped_due" "_law_dropped_due" (defArgs S25) (defBody S25) (defScope S25) .none kV25 dc25 pm25 an25 cd25 ct25), sl25⟩) (c25 : PySem.W.codeIn K cd25 "_law_dropped_due" = true) (k25 : PySem.W.keepIn K (.ref f25) = true)
    (a26 : PySem.W.nsIn K mainGlobals "_law_some_number" = some (some (.ref f26))) (l26 : K.lookup f26 = some ⟨oc26, od26, .func (PySem.W.fnOf "_law_some_number" "_law_some_number" (defArgs S26) (defBody S26) (defScope S26) .none kV26 dc26 pm26 an26 cd26 ct26), sl26⟩) (c26 : PySem.W.codeIn K cd26 "_law_some_number" = true) (k26 : PySem.W.keepIn K (.ref f26) = true)
    (a27 : PySem.W.nsIn K mainGlobals "_law_some_label" = some (some (.ref f27))) (l27 : K.lookup f27 = some ⟨oc27, od27, .func (PySem.W.fnOf "_law_some_label" "_law_some_label" (defArgs S27) (defBody S27) (defScope S27) .none kV27 dc27 pm27 an27 cd27 ct27), sl27⟩) (c27 : PySem.W.codeIn K cd27 "_law_some_label" = true) (k27 : PySem.W.keepIn K (.ref f27) = true)
    (a28 : PySem.W.nsIn K mainGlobals "_law_some_item" = some (some (.ref f28))) (l28 : K.lookup f28 = some ⟨oc28, od28, .func (PySem.W.fnOf "_law_some_item" "_law_some_item" (defArgs S28) (defBody S28) (defScope S28) .none kV28 dc28 pm28 an28 cd28 ct28), sl28⟩) (c28 : PySem.W.codeIn K cd28 "_law_some_item" = true) (k28 : PySem.W.keepIn K (.ref f28) = true)
    (a29 : PySem.W.nsIn K mainGlobals "_law_some_lots" = some (some (.ref f29))) (l29 : K.lookup f29 = some ⟨oc29, od29, .func (PySem.W.fnOf "_law_some_lots" "_law_some_lots" (defArgs S29) (defBody S29) (defScope S29) .none kV29 dc29 pm29 an29 cd29 ct29), sl29⟩) (c29 : PySem.W.codeIn K cd29 "_law_some_lots" = true) (k29 : PySem.W.keepIn K (.ref f29) = true)
    (a30 : PySem.W.nsIn K mainGlobals "_law_make" = some (some (.ref f30))) (l30 : K.lookup f30 = some ⟨oc30, od30, .func (PySem.W.fnOf "_law_make" "_law_make" (defArgs S30) (defBody S30) (defScope S30) .none kV30 dc30 pm30 an30 cd30 ct30), sl30⟩) (c30 : PySem.W.codeIn K cd30 "_law_make" = true) (k30 : PySem.W.keepIn K (.ref f30) = true)
    (a31 : PySem.W.nsIn K mainGlobals "_law_making_right" = some (some (.ref f31))) (l31 : K.lookup f31 = some ⟨oc31, od31, .func (PySem.W.fnOf "_law_making_right" "_law_making_right" (defArgs S31) (defBody S31) (defScope S31) .none kV31 dc31 pm31 an31 cd31 ct31), sl31⟩) (c31 : PySem.W.codeIn K cd31 "_law_making_right" = true) (k31 : PySem.W.keepIn K (.ref f31) = true)
    (a32 : PySem.W.nsIn K mainGlobals "_law_others_right" = some (some (.ref f32))) (l32 : K.lookup f32 = some ⟨oc32, od32, .func (PySem.W.fnOf "_law_others_right" "_law_others_right" (defArgs S32) (defBody S32) (defScope S32) .none kV32 dc32 pm32 an32 cd32 ct32), sl32⟩) (c32 : PySem.W.codeIn K cd32 "_law_others_right" = true) (k32 : PySem.W.keepIn K (.ref f32) = true)
    (a33 : PySem.W.nsIn K mainGlobals "law" = some (some (.ref f33))) (l33 : K.lookup f33 = some ⟨oc33, od33, .func (PySem.W.fnOf "law" "law" (defArgs S33) (defBody S33) (defScope S33) .none kV33 dc33 pm33 an33 cd33 ct33), sl33⟩) (c33 : PySem.W.codeIn K cd33 "law" = true) (k33 : PySem.W.keepIn K (.ref f33) = true)
    {t0 : Tok} (gq0 : PySem.W.nsIn K mainGlobals "LONGEST" = some (some (.int 8 t0)))
    {t1 : Tok} (gq1 : PySem.W.nsIn K mainGlobals "LETTERS" = some (some (.str "abcdefghijklmnopqrstuvwxyz" t1)))
    (zq0 : PySem.W.nsIn K mainGlobals "ValueError" = some none)
    (zq1 : PySem.W.nsIn K mainGlobals "all" = some none)
    (zq2 : PySem.W.nsIn K mainGlobals "bool" = some none)
    (zq3 : PySem.W.nsIn K mainGlobals "dict" = some none)
    (zq4 : PySem.W.nsIn K mainGlobals "int" = some none)
    (zq5 : PySem.W.nsIn K mainGlobals "isinstance" = some none)
    (zq6 : PySem.W.nsIn K mainGlobals "len" = some none)
    (zq7 : PySem.W.nsIn K mainGlobals "list" = some none)
    (zq8 : PySem.W.nsIn K mainGlobals "min" = some none)
    (zq9 : PySem.W.nsIn K mainGlobals "range" = some none)
    (zq10 : PySem.W.nsIn K mainGlobals "repr" = some none)
    (zq11 : PySem.W.nsIn K mainGlobals "str" = some none)
    (zq12 : PySem.W.nsIn K mainGlobals "super" = some none)
    (zq13 : PySem.W.nsIn K mainGlobals "tuple" = some none)
    (zq14 : PySem.W.nsIn K mainGlobals "zip" = some none)
    {C0 C1 C2 C3 C4 C5 C6 C7 C8 C9 C10 C11 C12 : Addr}
    (ca0 : PySem.W.nsIn K mainGlobals "LateError" = some (some (.ref C0)))
    (ca1 : PySem.W.nsIn K mainGlobals "PaperError" = some (some (.ref C1)))
    (ca2 : PySem.W.nsIn K mainGlobals "StoreError" = some (some (.ref C2)))
    (ca3 : PySem.W.nsIn K mainGlobals "TextError" = some (some (.ref C3)))
    (ca4 : PySem.W.nsIn K mainGlobals "InvalidPaper" = some (some (.ref C4)))
    (ca5 : PySem.W.nsIn K mainGlobals "UnknownObject" = some (some (.ref C5)))
    (ca6 : PySem.W.nsIn K mainGlobals "InvalidStep" = some (some (.ref C6)))
    (ca7 : PySem.W.nsIn K mainGlobals "GoneCell" = some (some (.ref C7)))
    (ca8 : PySem.W.nsIn K mainGlobals "UnfitExpression" = some (some (.ref C8)))
    (ca9 : PySem.W.nsIn K mainGlobals "NothingToUndo" = some (some (.ref C9)))
    (ca10 : PySem.W.nsIn K mainGlobals "InvalidPace" = some (some (.ref C10)))
    (ca11 : PySem.W.nsIn K mainGlobals "InvalidText" = some (some (.ref C11)))
    (ca12 : PySem.W.nsIn K mainGlobals "InvalidCommand" = some (some (.ref C12)))
    (cb0 : clsB K C0 cfg.fld = true)
    (cb1 : clsB K C1 cfg.fld = true)
    (cb2 : clsB K C2 cfg.fld = true)
    (cb3 : clsB K C3 cfg.fld = true)
    (cb4 : clsB K C4 cfg.fld = true)
    (cb5 : clsB K C5 cfg.fld = true)
    (cb6 : clsB K C6 cfg.fld = true)
    (cb7 : clsB K C7 cfg.fld = true)
    (cb8 : clsB K C8 cfg.fld = true)
    (cb9 : clsB K C9 cfg.fld = true)
    (cb10 : clsB K C10 cfg.fld = true)
    (cb11 : clsB K C11 cfg.fld = true)
    (cb12 : clsB K C12 cfg.fld = true)
    (sb : subsB K [.ref C0, .ref C1, .ref C2, .ref C3, .ref C4, .ref C5, .ref C6, .ref C7, .ref C8, .ref C9, .ref C10, .ref C11, .ref C12, .type "ValueError"] (.ref C0) sub0 = true)
    {fI6 N6a cda6 cc6 : Addr} {nm6 q6 qual6 file6 : Str} {bs6 bm6 su6 : List Value} {sn6 : List Str} {ab6 : Bool} {col6 : Option Bool} {dd6 iod6 ian6 icdd6 icld6 : Option Addr} {xk0_6 xk1_6 xk2_6 xk3_6 xk5_6 : Option Value} {ioc6 ikV6 idoc6 ipm6 ict6 iccl6 icl6 : Value} {iosl6 iccs6 icsl6 : Array (Option Value)} {ivs6 : Array Value} {itf6 : Tok} {icd6 : ClassData}
    (xl6 : K.lookup C6 = some (excClassObj nm6 q6 C6 N6a bs6 bm6 true sn6 su6 ab6 col6 dd6 xk0_6 xk1_6 xk2_6 xk3_6 xk5_6 "ValueError.__new__")) (xr6 : PySem.HandSPX.refsVE bm6 = true) (xi6 : PySem.W.findIn K (.ref C6) "__init__" = some (some (.ref fI6)))
    (xf6 : K.lookup fI6 = some ⟨ioc6, iod6, .func (PySem.W.ksFn "__init__" qual6 (defArgs I6) (defBody I6) (defScope I6) .none ikV6 idoc6 ipm6 ian6 (.ref cda6) ict6 cc6), iosl6⟩) (xc6 : PySem.W.codeIn K (.ref cda6) qual6 = true) (xd6 : K.lookup cda6 = some ⟨iccl6, icdd6, .fields ivs6, iccs6⟩) (xv6 : ivs6[2]? = some (.str file6 itf6)) (xw6 : ((prog.main.file : Str) == file6) = true) (xe6 : K.lookup cc6 = some ⟨icl6, icld6, .cell (some (.ref C6)), icsl6⟩)
    (xg6 : PySem.W.clsIn K C6 = some icd6) (xm6 : PySem.W.mroIn K C6 (.ref C6) = some true) (xo6 : PySem.W.nsIn K cStatics "thirdparty.any" = some none) (xs6 : PySem.W.ks_superIn K C6 C6 "__init__" = some (some (.builtin "ValueError.__init__"))) (xt6 : PySem.W.subIn K (.ref C6) (.type "ValueError") = some true) (xa6 : PySem.W.findIn K (.ref C6) "__setattr__" = some (some (.builtin "object.__setattr__"))) (xb6 : PySem.W.subIn K (.ref C6) (.type "BaseException") = some true) (xy6 : PySem.W.typeIn K (.ref C6) = some (.type "type")) (xk6 : PySem.W.keepIn K (.ref C6) = true) (xz6 : PySem.W.typeIn K (.ref fI6) = some (.type "function"))
    {fI5 N5a cda5 cc5 : Addr} {nm5 q5 qual5 file5 : Str} {bs5 bm5 su5 : List Value} {sn5 : List Str} {ab5 : Bool} {col5 : Option Bool} {dd5 iod5 ian5 icdd5 icld5 : Option Addr} {xk0_5 xk1_5 xk2_5 xk3_5 xk5_5 : Option Value} {ioc5 ikV5 idoc5 ipm5 ict5 iccl5 icl5 : Value} {iosl5 iccs5 icsl5 : Array (Option Value)} {ivs5 : Array Value} {itf5 : Tok} {icd5 : ClassData}
    (xl5 : K.lookup C5 = some (excClassObj nm5 q5 C5 N5a bs5 bm5 true sn5 su5 ab5 col5 dd5 xk0_5 xk1_5 xk2_5 xk3_5 xk5_5 "ValueError.__new__")) (xr5 : PySem.HandSPX.refsVE bm5 = true) (xi5 : PySem.W.findIn K (.ref C5) "__init__" = some (some (.ref fI5)))
    (xf5 : K.lookup fI5 = some ⟨ioc5, iod5, .func (PySem.W.ksFn "__init__" qual5 (defArgs I5) (defBody I5) (defScope I5) .none ikV5 idoc5 ipm5 ian5 (.ref cda5) ict5 cc5), iosl5⟩) (xc5 : PySem.W.codeIn K (.ref cda5) qual5 = true) (xd5 : K.lookup cda5 = some ⟨iccl5, icdd5, .fields ivs5, iccs5⟩) (xv5 : ivs5[2]? = some (.str file5 itf5)) (xw5 : ((prog.main.file : Str) == file5) = true) (xe5 : K.lookup cc5 = some ⟨icl5, icld5, .cell (some (.ref C5)), icsl5⟩)
    (xg5 : PySem.W.clsIn K C5 = some icd5) (xm5 : PySem.W.mroIn K C5 (.ref C5) = some true) (xo5 : PySem.W.nsIn K cStatics "thirdparty.any" = some none) (xs5 : PySem.W.ks_superIn K C5 C5 "__init__" = some (some (.builtin "ValueError.__init__"))) (xt5 : PySem.W.subIn K (.ref C5) (.type "ValueError") = some true) (xa5 : PySem.W.findIn K (.ref C5) "__setattr__" = some (some (.builtin "object.__setattr__"))) (xb5 : PySem.W.subIn K (.ref C5) (.type "BaseException") = some true) (xy5 : PySem.W.typeIn K (.ref C5) = some (.type "type")) (xk5 : PySem.W.keepIn K (.ref C5) = true) (xz5 : PySem.W.typeIn K (.ref fI5) = some (.type "function"))
    (tp : (prog.main.scope.names.lookup ("super" : Str)).isSome = false)
    {tc31 tP31 : Addr} {tcl31 : Value} {tcd31 : Option Addr} {tvs31 : Array Value} {tcs31 : Array (Option Value)} (tq31 : cd31 = .ref tc31) (tk31 : K.lookup tc31 = some ⟨tcl31, tcd31, .fields tvs31, tcs31⟩) (tv31 : tvs31[11]? = some (.ref tP31)) (tn31 : K.lookup tP31 = none)
    {tc32 tP32 : Addr} {tcl32 : Value} {tcd32 : Option Addr} {tvs32 : Array Value} {tcs32 : Array (Option Value)} (tq32 : cd32 = .ref tc32) (tk32 : K.lookup tc32 = some ⟨tcl32, tcd32, .fields tvs32, tcs32⟩) (tv32 : tvs32[11]? = some (.ref tP32)) (tn32 : K.lookup tP32 = none)
    {tc33 tP33 : Addr} {tcl33 : Value} {tcd33 : Option Addr} {tvs33 : Array Value} {tcs33 : Array (Option Value)} (tq33 : cd33 = .ref tc33) (tk33 : K.lookup tc33 = some ⟨tcl33, tcd33, .fields tvs33, tcs33⟩) (tv33 : tvs33[11]? = some (.ref tP33)) (tn33 : K.lookup tP33 = none)
    (tnd : [tP31, tP32, tP33].Nodup)
    {rcs : List DefRec} {dr31 : DefRec} (tr31 : rcs.find? (fun e : DefRec => e.name == ("_law_making_right" : Str)) = some dr31) {dr32 : DefRec} (tr32 : rcs.find? (fun e : DefRec => e.name == ("_law_others_right" : Str)) = some dr32) {dr33 : DefRec} (tr33 : rcs.find? (fun e : DefRec => e.name == ("law" : Str)) = some dr33)
    : ∃ fb : FB, fb = fb.bare ∧ fb.K = K ∧ (∀ i x, cfg.fnm[i]? = some x → mg x = some (.ref (fb i))) ∧ (∀ p ∈ fb.T, K.lookup p.1 = none ∧ ∃ x c d, PySem.W.tabIn K x = some (c, p.1) ∧ rcs.find? (fun e : DefRec => e.name == x) = some d) ∧
      ∀ base : Heap, K.In base → base.Ns mainGlobals mg → (∀ p ∈ fb.T, ∀ x c, PySem.W.tabIn K x = some (c, p.1) → (∃ d, rcs.find? (fun e : DefRec => e.name == x) = some d) → LamX.TabB base mg c p.1) → Facts cfg sub fb T prog w K mg base := by
  have F0 := fun_mk (st := S0) l0 c0 k0
  have F1 := fun_mk (st := S1) l1 c1 k1
  have F2 := fun_mk (st := S2) l2 c2 k2
  have F3 := fun_mk (st := S3) l3 c3 k3
  have F4 := fun_mk (st := S4) l4 c4 k4
  have F5 := fun_mk (st := S5) l5 c5 k5
  have F6 := fun_mk (st := S6) l6 c6 k6
  have F7 := fun_mk (st := S7) l7 c7 k7
  have F8 := fun_mk (st := S8) l8 c8 k8
  have F9 := fun_mk (st := S9) l9 c9 k9
  have F10 := fun_mk (st := S10) l10 c10 k10
  have F11 := fun_mk (st := S11) l11 c11 k11
  have F12 := fun_mk (st := S12) l12 c12 k12
  have F13 := fun_mk (st := S13) l13 c13 k13
  have F14 := fun_mk (st := S14) l14 c14 k14
  have F15 := fun_mk (st := S15) l15 c15 k15
  have F16 := fun_mk (st := S16) l16 c16 k16
  have F17 := fun_mk (st := S17) l17 c17 k17
  have F18 := fun_mk (st := S18) l18 c18 k18
  have F19 := fun_mk (st := S19) l19 c19 k19
  have F20 := fun_mk (st := S20) l20 c20 k20
  have F21 := fun_mk (st := S21) l21 c21 k21
  have F22 := fun_mk (st := S22) l22 c22 k22
  have F23 := fun_mk (st := S23) l23 c23 k23
  have F24 := fun_mk (st := S24) l24 c24 k24
  have F25 := fun_mk (st := S25) l25 c25 k25
  have F26 := fun_mk (st := S26) l26 c26 k26
  have F27 := fun_mk (st := S27) l27 c27 k27
  have F28 := fun_mk (st := S28) l28 c28 k28
  have F29 := fun_mk (st := S29) l29 c29 k29
  have F30 := fun_mk (st := S30) l30 c30 k30
  have F31 := fun_mk (st := S31) l31 c31 k31
  have F32 := fun_mk (st := S32) l32 c32 k32
  have F33 := fun_mk (st := S33) l33 c33 k33
  have tb31 := tab_mk a31 l31 (by exact tq31) tk31 tv31
  have tb32 := tab_mk a32 l32 (by exact tq32) tk32 tv32
  have tb33 := tab_mk a33 l33 (by exact tq33) tk33 tv33
  refine ⟨⟨⟨fun i => (f0 :: f1 :: f2 :: f3 :: f4 :: f5 :: f6 :: f7 :: f8 :: f9 :: f10 :: f11 :: f12 :: f13 :: f14 :: f15 :: f16 :: f17 :: f18 :: f19 :: f20 :: f21 :: f22 :: f23 :: f24 :: f25 :: f26 :: f27 :: f28 :: f29 :: f30 :: f31 :: f32 :: f33 :: []).getD (clip 34 i) 0, K, fun k => ([.ref C0, .ref C1, .ref C2, .ref C3, .ref C4, .ref C5, .ref C6, .ref C7, .ref C8, .ref C9, .ref C10, .ref C11, .ref C12, .type "ValueError"] : List Value).getD (clip 14 k) (.ref C0)⟩, [(tP31, ("_law_making_right" ++ ".<locals>.") ++ "<lambda>"), (tP32, ("_law_others_right" ++ ".<locals>.") ++ "<lambda>"), (tP33, ("law" ++ ".<locals>.") ++ "<lambda>")], [], [], []⟩, rfl, rfl, ?_, ?_, fun base KB GB TB => ?_⟩
  · intro i x h
    match i, h with
    | 0, h => cases h; exact PySem.W.mg_of X G a0
    | 1, h => cases h; exact PySem.W.mg_of X G a1
    | 2, h => cases h; exact PySem.W.mg_of X G a2
    | 3, h => cases h; exact PySem.W.mg_of X G a3
    | 4, h => cases h; exact PySem.W.mg_of X G a4
    | 5, h => cases h; exact PySem.W.mg_of X G a5
    | 6, h => cases h; exact PySem.W.mg_of X G a6
    | 7, h => cases h; exact PySem.W.mg_of X G a7
    | 8, h => cases h; exact PySem.W.mg_of X G a8
    | 9, h => cases h; exact PySem.W.mg_of X G a9
    | 10, h => cases h; exact PySem.W.mg_of X G a10
    | 11, h => cases h; exact PySem.W.mg_of X G a11
    | 12, h => cases h; exact PySem.W.mg_of X G a12
    | 13, h => cases h; exact PySem.W.mg_of X G a13
    | 14, h => cases h; exact PySem.W.mg_of X G a14
    | 15, h => cases h; exact PySem.W.mg_of X G a15
    | 16, h => cases h; exact PySem.W.mg_of X G a16
    | 17, h => cases h; exact PySem.W.mg_of X G a17
    | 18, h => cases h; exact PySem.W.mg_of X G a18
    | 19, h => cases h; exact PySem.W.mg_of X G a19
    | 20, h => cases h; exact PySem.W.mg_of X G a20
    | 21, h => cases h; exact PySem.W.mg_of X G a21
    | 22, h => cases h; exact PySem.W.mg_of X G a22
    | 23, h => cases h; exact PySem.W.mg_of X G a23
    | 24, h => cases h; exact PySem.W.mg_of X G a24
    | 25, h => cases h; exact PySem.W.mg_of X G a25
    | 26, h => cases h; exact PySem.W.mg_of X G a26
    | 27, h => cases h; exact PySem.W.mg_of X G a27
    | 28, h => cases h; exact PySem.W.mg_of X G a28
    | 29, h => cases h; exact PySem.W.mg_of X G a29
    | 30, h => cases h; exact PySem.W.mg_of X G a30
    | 31, h => cases h; exact PySem.W.mg_of X G a31
    | 32, h => cases h; exact PySem.W.mg_of X G a32
    | 33, h => cases h; exact PySem.W.mg_of X G a33
    | _ + 34, h => cases h
  · intro p hp
    simp only [List.mem_cons, List.not_mem_nil, or_false] at hp
    rcases hp with rfl | rfl | rfl
    · exact ⟨tn31, _, _, _, tb31, tr31⟩
    · exact ⟨tn32, _, _, _, tb32, tr32⟩
    · exact ⟨tn33, _, _, _, tb33, tr33⟩
  · refine ⟨rfl, rfl, ?_, T_ok, ?_, ?_, ?_, ?_, ?_, ?_, ?_⟩
    · intro i x h
      match i, h with
      | 0, h => cases h; exact ⟨PySem.W.mg_of X G a0, S0, N0, ["thing"], _, _, F0, sc0, rfl, rfl, .inl ⟨rfl, ⟨fun _ => ⟨rfl, F0.binds (ps := ["thing"]) (fun _ _ _ _ _ _ us hl => match us, hl with | [_], _ => rfl)⟩, fun z => (by cases z), fun q hq => (by cases hq)⟩, .inl chk0⟩⟩
      | 1, h => cases h; exact ⟨PySem.W.mg_of X G a1, S1, N1, ["thing"], _, _, F1, sc1, rfl, rfl, .inl ⟨rfl, ⟨fun _ => ⟨rfl, F1.binds (ps := ["thing"]) (fun _ _ _ _ _ _ us hl => match us, hl with | [_], _ => rfl)⟩, fun z => (by cases z), fun q hq => (by cases hq)⟩, .inl chk1⟩⟩
      | 2, h => cases h; exact ⟨PySem.W.mg_of X G a2, S2, N2, ["truth", "step", "word"], _, _, F2, sc2, rfl, rfl, .inl ⟨rfl, ⟨fun _ => ⟨rfl, F2.binds (ps := ["truth", "step", "word"]) (fun _ _ _ _ _ _ us hl => match us, hl with | [_, _, _], _ => rfl)⟩, fun z => (by cases z), fun q hq => (by cases hq)⟩, .inl chk2⟩⟩
      | 3, h => cases h; exact ⟨PySem.W.mg_of X G a3, S3, N3, ["plain", "number"], _, _, F3, sc3, rfl, rfl, .inl ⟨rfl, ⟨fun _ => ⟨rfl, F3.binds (ps := ["plain", "number"]) (fun _ _ _ _ _ _ us hl => match us, hl with | [_, _], _ => rfl)⟩, fun z => (by cases z), fun q hq => (by cases hq)⟩, .inl chk3⟩⟩
      | 4, h => cases h; exact ⟨PySem.W.mg_of X G a4, S4, N4, ["plain", "kind", "thing"], _, _, F4, sc4, rfl, rfl, .inl ⟨rfl, ⟨fun _ => ⟨rfl, F4.binds (ps := ["plain", "kind", "thing"]) (fun _ _ _ _ _ _ us hl => match us, hl with | [_, _, _], _ => rfl)⟩, fun z => (by cases z), fun q hq => (by cases hq)⟩, .inl chk4⟩⟩
      | 5, h => cases h; exact ⟨PySem.W.mg_of X G a5, S5, N5, ["plain", "cls", "values"], _, _, F5, sc5, rfl, rfl, .inl ⟨rfl, ⟨fun z => (by cases z), fun _ => ⟨["plain", "cls"], "values", rfl, rfl, StX.bind_star2 (B := fun us => bindArgs _ ⟨us, []⟩) (fun _ _ => rfl) (fun _ _ _ _ => rfl)⟩, fun q hq => (by cases hq)⟩, .inl chk5⟩⟩
      | 6, h => cases h; exact ⟨PySem.W.mg_of X G a6, S6, N6, ["plain", "number", "field", "value"], _, _, F6, sc6, rfl, rfl, .inl ⟨rfl, ⟨fun _ => ⟨rfl, F6.binds (ps := ["plain", "number", "field", "value"]) (fun _ _ _ _ _ _ us hl => match us, hl with | [_, _, _, _], _ => rfl)⟩, fun z => (by cases z), fun q hq => (by cases List.mem_singleton.mp hq; exact ⟨rfl, fun us hl => match us, hl with | [_, _, _, _], _ => ⟨rfl, fun s _ => .of_eq rfl⟩⟩)⟩, .inl chk6⟩⟩
      | 7, h => cases h; exact ⟨PySem.W.mg_of X G a7, S7, N7, ["form", "values", "number"], _, _, F7, sc7, rfl, rfl, .inl ⟨rfl, ⟨fun _ => ⟨rfl, F7.binds (ps := ["form", "values", "number"]) (fun _ _ _ _ _ _ us hl => match us, hl with | [_, _, _], _ => rfl)⟩, fun z => (by cases z), fun q hq => (by cases hq)⟩, .inl chk7⟩⟩
      | 8, h => cases h; exact ⟨PySem.W.mg_of X G a8, S8, N8, ["plain", "number"], _, _, F8, sc8, rfl, rfl, .inl ⟨rfl, ⟨fun _ => ⟨rfl, F8.binds (ps := ["plain", "number"]) (fun _ _ _ _ _ _ us hl => match us, hl with | [_, _], _ => rfl)⟩, fun z => (by cases z), fun q hq => (by cases List.mem_singleton.mp hq; exact ⟨rfl, fun us hl => match us, hl with | [_, _], _ => ⟨rfl, fun s _ => .of_eq rfl⟩⟩)⟩, .inl chk8⟩⟩
      | 9, h => cases h; exact ⟨PySem.W.mg_of X G a9, S9, N9, ["_law_script"], _, _, F9, sc9, rfl, rfl, .inl ⟨rfl, ⟨fun _ => ⟨rfl, F9.binds (ps := ["_law_script"]) (fun _ _ _ _ _ _ us hl => match us, hl with | [_], _ => rfl)⟩, fun z => (by cases z), fun q hq => (by cases hq)⟩, .inl chk9⟩⟩
      | 10, h => cases h; exact ⟨PySem.W.mg_of X G a10, S10, N10, ["_law_feed_here", "_law_many"], _, _, F10, sc10, rfl, rfl, .inl ⟨rfl, ⟨fun _ => ⟨rfl, F10.binds (ps := ["_law_feed_here", "_law_many"]) (fun _ _ _ _ _ _ us hl => match us, hl with | [_, _], _ => rfl)⟩, fun z => (by cases z), fun q hq => (by cases hq)⟩, .inl chk10⟩⟩
      | 11, h => cases h; exact ⟨PySem.W.mg_of X G a11, S11, N11, ["_law_script", "_law_count"], _, _, F11, sc11, rfl, rfl, .inl ⟨rfl, ⟨fun _ => ⟨rfl, F11.binds (ps := ["_law_script", "_law_count"]) (fun _ _ _ _ _ _ us hl => match us, hl with | [_, _], _ => rfl)⟩, fun z => (by cases z), fun q hq => (by cases hq)⟩, .inl chk11⟩⟩
      | 12, h => cases h; exact ⟨PySem.W.mg_of X G a12, S12, N12, ["_law_feed_here", "_law_some"], _, _, F12, sc12, rfl, rfl, .inl ⟨rfl, ⟨fun _ => ⟨rfl, F12.binds (ps := ["_law_feed_here", "_law_some"]) (fun _ _ _ _ _ _ us hl => match us, hl with | [_, _], _ => rfl)⟩, fun z => (by cases z), fun q hq => (by cases hq)⟩, .inl chk12⟩⟩
      | 13, h => cases h; exact ⟨PySem.W.mg_of X G a13, S13, N13, ["_law_feed_here", "_law_names"], _, _, F13, sc13, rfl, rfl, .inl ⟨rfl, ⟨fun _ => ⟨rfl, F13.binds (ps := ["_law_feed_here", "_law_names"]) (fun _ _ _ _ _ _ us hl => match us, hl with | [_, _], _ => rfl)⟩, fun z => (by cases z), fun q hq => (by cases hq)⟩, .inl chk13⟩⟩
      | 14, h => cases h; exact ⟨PySem.W.mg_of X G a14, S14, N14, ["_law_feed_here"], _, _, F14, sc14, rfl, rfl, .inl ⟨rfl, ⟨fun _ => ⟨rfl, F14.binds (ps := ["_law_feed_here"]) (fun _ _ _ _ _ _ us hl => match us, hl with | [_], _ => rfl)⟩, fun z => (by cases z), fun q hq => (by cases hq)⟩, .inl chk14⟩⟩
      | 15, h => cases h; exact ⟨PySem.W.mg_of X G a15, S15, N15, ["_law_feed_here", "_law_sort", "_law_members"], _, _, F15, sc15, rfl, rfl, .inl ⟨rfl, ⟨fun _ => ⟨rfl, F15.binds (ps := ["_law_feed_here", "_law_sort", "_law_members"]) (fun _ _ _ _ _ _ us hl => match us, hl with | [_, _, _], _ => rfl)⟩, fun z => (by cases z), fun q hq => (by cases hq)⟩, .inl chk15⟩⟩
      | 16, h => cases h; exact ⟨PySem.W.mg_of X G a16, S16, N16, ["_law_feed_here", "_law_lot_here", "_law_members"], _, _, F16, sc16, rfl, rfl, .inl ⟨rfl, ⟨fun _ => ⟨rfl, F16.binds (ps := ["_law_feed_here", "_law_lot_here", "_law_members"]) (fun _ _ _ _ _ _ us hl => match us, hl with | [_, _, _], _ => rfl)⟩, fun z => (by cases z), fun q hq => (by cases hq)⟩, .inl chk16⟩⟩
      | 17, h => cases h; exact ⟨PySem.W.mg_of X G a17, S17, N17, ["_law_feed_here", "_law_classes_here", "_law_most"], _, _, F17, sc17, rfl, rfl, .inl ⟨rfl, ⟨fun _ => ⟨rfl, F17.binds (ps := ["_law_feed_here", "_law_classes_here", "_law_most"]) (fun _ _ _ _ _ _ us hl => match us, hl with | [_, _, _], _ => rfl)⟩, fun z => (by cases z), fun q hq => (by cases hq)⟩, .inl chk17⟩⟩
      | 18, h => cases h; exact ⟨PySem.W.mg_of X G a18, S18, N18, ["_law_item"], _, _, F18, sc18, rfl, rfl, .inl ⟨rfl, ⟨fun _ => ⟨rfl, F18.binds (ps := ["_law_item"]) (fun _ _ _ _ _ _ us hl => match us, hl with | [_], _ => rfl)⟩, fun z => (by cases z), fun q hq => (by cases hq)⟩, .inl chk18⟩⟩
      | 19, h => cases h; exact ⟨PySem.W.mg_of X G a19, S19, N19, ["_law_ask"], _, _, F19, sc19, rfl, rfl, .inr ⟨rfl, _, rfl, rfl, by decide +kernel, F19.binds (ps := ["_law_ask"]) (fun _ _ _ _ _ _ us hl => match us, hl with | [_], _ => rfl), rfl, by decide +kernel, chk19⟩⟩
      | 20, h => cases h; exact ⟨PySem.W.mg_of X G a20, S20, N20, [], _, _, F20, sc20, rfl, rfl, .inl ⟨rfl, ⟨fun _ => ⟨rfl, F20.binds (ps := []) (fun _ _ _ _ _ _ us hl => match us, hl with | [], _ => rfl)⟩, fun z => (by cases z), fun q hq => (by cases hq)⟩, .inl chk20⟩⟩
      | 21, h => cases h; exact ⟨PySem.W.mg_of X G a21, S21, N21, ["_law_house_here", "_law_sort", "_law_item"], _, _, F21, sc21, rfl, rfl, .inl ⟨rfl, ⟨fun _ => ⟨rfl, F21.binds (ps := ["_law_house_here", "_law_sort", "_law_item"]) (fun _ _ _ _ _ _ us hl => match us, hl with | [_, _, _], _ => rfl)⟩, fun z => (by cases z), fun q hq => (by cases hq)⟩, .inl chk21⟩⟩
      | 22, h => cases h; exact ⟨PySem.W.mg_of X G a22, S22, N22, ["_law_house_here", "_law_own", "_law_lots"], _, _, F22, sc22, rfl, rfl, .inl ⟨rfl, ⟨fun _ => ⟨rfl, F22.binds (ps := ["_law_house_here", "_law_own", "_law_lots"]) (fun _ _ _ _ _ _ us hl => match us, hl with | [_, _, _], _ => rfl)⟩, fun z => (by cases z), fun q hq => (by cases hq)⟩, .inl chk22⟩⟩
      | 23, h => cases h; exact ⟨PySem.W.mg_of X G a23, S23, N23, ["_law_house_here", "_law_item"], _, _, F23, sc23, rfl, rfl, .inl ⟨rfl, ⟨fun _ => ⟨rfl, F23.binds (ps := ["_law_house_here", "_law_item"]) (fun _ _ _ _ _ _ us hl => match us, hl with | [_, _], _ => rfl)⟩, fun z => (by cases z), fun q hq => (by cases hq)⟩, .inl chk23⟩⟩
      | 24, h => cases h; exact ⟨PySem.W.mg_of X G a24, S24, N24, ["_law_house_here", "_law_n", "_law_label", "_law_item"], _, _, F24, sc24, rfl, rfl, .inl ⟨rfl, ⟨fun _ => ⟨rfl, F24.binds (ps := ["_law_house_here", "_law_n", "_law_label", "_law_item"]) (fun _ _ _ _ _ _ us hl => match us, hl with | [_, _, _, _], _ => rfl)⟩, fun z => (by cases z), fun q hq => (by cases hq)⟩, .inl chk24⟩⟩
      | 25, h => cases h; exact ⟨PySem.W.mg_of X G a25, S25, N25, ["_law_house_here", "_law_n"], _, _, F25, sc25, rfl, rfl, .inl ⟨rfl, ⟨fun _ => ⟨rfl, F25.binds (ps := ["_law_house_here", "_law_n"]) (fun _ _ _ _ _ _ us hl => match us, hl with | [_, _], _ => rfl)⟩, fun z => (by cases z), fun q hq => (by cases hq)⟩, .inl chk25⟩⟩
      | 26, h => cases h; exact ⟨PySem.W.mg_of X G a26, S26, N26, ["_law_feed_here", "_law_house_here"], _, _, F26, sc26, rfl, rfl, .inl ⟨rfl, ⟨fun _ => ⟨rfl, F26.binds (ps := ["_law_feed_here", "_law_house_here"]) (fun _ _ _ _ _ _ us hl => match us, hl with | [_, _], _ => rfl)⟩, fun z => (by cases z), fun q hq => (by cases hq)⟩, .inl chk26⟩⟩
      | 27, h => cases h; exact ⟨PySem.W.mg_of X G a27, S27, N27, ["_law_feed_here", "_law_house_here", "_law_n"], _, _, F27, sc27, rfl, rfl, .inl ⟨rfl, ⟨fun _ => ⟨rfl, F27.binds (ps := ["_law_feed_here", "_law_house_here", "_law_n"]) (fun _ _ _ _ _ _ us hl => match us, hl with | [_, _, _], _ => rfl)⟩, fun z => (by cases z), fun q hq => (by cases hq)⟩, .inl chk27⟩⟩
      | 28, h => cases h; exact ⟨PySem.W.mg_of X G a28, S28, N28, ["_law_feed_here", "_law_house_here"], _, _, F28, sc28, rfl, rfl, .inl ⟨rfl, ⟨fun _ => ⟨rfl, F28.binds (ps := ["_law_feed_here", "_law_house_here"]) (fun _ _ _ _ _ _ us hl => match us, hl with | [_, _], _ => rfl)⟩, fun z => (by cases z), fun q hq => (by cases hq)⟩, .inl chk28⟩⟩
      | 29, h => cases h; exact ⟨PySem.W.mg_of X G a29, S29, N29, ["_law_feed_here", "_law_house_here", "_law_own"], _, _, F29, sc29, rfl, rfl, .inl ⟨rfl, ⟨fun _ => ⟨rfl, F29.binds (ps := ["_law_feed_here", "_law_house_here", "_law_own"]) (fun _ _ _ _ _ _ us hl => match us, hl with | [_, _, _], _ => rfl)⟩, fun z => (by cases z), fun q hq => (by cases hq)⟩, .inl chk29⟩⟩
      | 30, h => cases h; exact ⟨PySem.W.mg_of X G a30, S30, N30, ["_law_house_here", "_law_own", "_law_lots"], _, _, F30, sc30, rfl, rfl, .inl ⟨rfl, ⟨fun _ => ⟨rfl, F30.binds (ps := ["_law_house_here", "_law_own", "_law_lots"]) (fun _ _ _ _ _ _ us hl => match us, hl with | [_, _, _], _ => rfl)⟩, fun z => (by cases z), fun q hq => (by cases hq)⟩, .inl chk30⟩⟩
      | 31, h =>
        cases h
        refine ⟨PySem.W.mg_of X G a31, S31, N31, ["_law_feed_here", "_law_house_here"], _, _, F31, sc31, rfl, rfl, .inl ⟨rfl, ⟨fun _ => ⟨rfl, F31.binds (ps := ["_law_feed_here", "_law_house_here"]) (fun _ _ _ _ _ _ us hl => match us, hl with | [_, _], _ => rfl)⟩, fun z => (by cases z), fun q hq => (by cases hq)⟩, .inr ⟨chk31, tc31, tP31, ?_, TB (tP31, (("_law_making_right" : Str) ++ ".<locals>.") ++ "<lambda>") (by simp only [List.mem_cons, true_or, or_true]) "_law_making_right" tc31 tb31 ⟨_, tr31⟩, ?_, ?_⟩⟩⟩
        · exact code_of_tab a31 l31 tb31
        · simp only [List.mem_cons, true_or, or_true]
        · intro p hp e
          simp only [List.mem_cons, List.not_mem_nil, or_false] at hp
          rcases hp with rfl | rfl | rfl
          · rfl
          · exact absurd e (ne_of_nd tnd 1 0 (by simp) (by simp) (by decide))
          · exact absurd e (ne_of_nd tnd 2 0 (by simp) (by simp) (by decide))
      | 32, h =>
        cases h
        refine ⟨PySem.W.mg_of X G a32, S32, N32, ["_law_feed_here", "_law_house_here"], _, _, F32, sc32, rfl, rfl, .inl ⟨rfl, ⟨fun _ => ⟨rfl, F32.binds (ps := ["_law_feed_here", "_law_house_here"]) (fun _ _ _ _ _ _ us hl => match us, hl with | [_, _], _ => rfl)⟩, fun z => (by cases z), fun q hq => (by cases hq)⟩, .inr ⟨chk32, tc32, tP32, ?_, TB (tP32, (("_law_others_right" : Str) ++ ".<locals>.") ++ "<lambda>") (by simp only [List.mem_cons, true_or, or_true]) "_law_others_right" tc32 tb32 ⟨_, tr32⟩, ?_, ?_⟩⟩⟩
        · exact code_of_tab a32 l32 tb32
        · simp only [List.mem_cons, true_or, or_true]
        · intro p hp e
          simp only [List.mem_cons, List.not_mem_nil, or_false] at hp
          rcases hp with rfl | rfl | rfl
          · exact absurd e (ne_of_nd tnd 0 1 (by simp) (by simp) (by decide))
          · rfl
          · exact absurd e (ne_of_nd tnd 2 1 (by simp) (by simp) (by decide))
      | 33, h =>
        cases h
        refine ⟨PySem.W.mg_of X G a33, S33, N33, ["_law_script"], _, _, F33, sc33, rfl, rfl, .inl ⟨rfl, ⟨fun _ => ⟨rfl, F33.binds (ps := ["_law_script"]) (fun _ _ _ _ _ _ us hl => match us, hl with | [_], _ => rfl)⟩, fun z => (by cases z), fun q hq => (by cases hq)⟩, .inr ⟨chk33, tc33, tP33, ?_, TB (tP33, (("law" : Str) ++ ".<locals>.") ++ "<lambda>") (by simp only [List.mem_cons, true_or, or_true]) "law" tc33 tb33 ⟨_, tr33⟩, ?_, ?_⟩⟩⟩
        · exact code_of_tab a33 l33 tb33
        · simp only [List.mem_cons, true_or, or_true]
        · intro p hp e
          simp only [List.mem_cons, List.not_mem_nil, or_false] at hp
          rcases hp with rfl | rfl | rfl
          · exact absurd e (ne_of_nd tnd 0 2 (by simp) (by simp) (by decide))
          · exact absurd e (ne_of_nd tnd 1 2 (by simp) (by simp) (by decide))
          · rfl
      | _ + 34, h => cases h
    · exact kp_all (by intro f hf; simp only [List.mem_cons, List.not_mem_nil, or_false] at hf; rcases hf with rfl | rfl | rfl | rfl | rfl | rfl | rfl | rfl | rfl | rfl | rfl | rfl | rfl | rfl | rfl | rfl | rfl | rfl | rfl | rfl | rfl | rfl | rfl | rfl | rfl | rfl | rfl | rfl | rfl | rfl | rfl | rfl | rfl | rfl <;> assumption) (Nat.zero_lt_succ _)
    · intro p hp
      simp only [cfg, List.mem_cons, List.not_mem_nil, or_false] at hp
      rcases hp with rfl | rfl | rfl | rfl | rfl | rfl
      · exact ⟨PySem.W.mg_none_of X G zq4, by decide +kernel, by decide⟩
      · exact ⟨PySem.W.mg_none_of X G zq2, by decide +kernel, by decide⟩
      · exact ⟨PySem.W.mg_none_of X G zq11, by decide +kernel, by decide⟩
      · exact ⟨_, PySem.W.mg_of X G gq0⟩
      · exact ⟨_, PySem.W.mg_of X G gq1⟩
      · exact ⟨PySem.W.mg_none_of X G zq13, by decide +kernel, by decide⟩
    · intro x hx
      simp only [cfg, List.mem_cons, List.not_mem_nil, or_false] at hx
      rcases hx with rfl | rfl | rfl | rfl | rfl | rfl | rfl | rfl | rfl | rfl | rfl
      · exact PySem.W.mg_none_of X G zq1
      · exact PySem.W.mg_none_of X G zq3
      · exact PySem.W.mg_none_of X G zq4
      · exact PySem.W.mg_none_of X G zq5
      · exact PySem.W.mg_none_of X G zq6
      · exact PySem.W.mg_none_of X G zq7
      · exact PySem.W.mg_none_of X G zq8
      · exact PySem.W.mg_none_of X G zq9
      · exact PySem.W.mg_none_of X G zq10
      · exact PySem.W.mg_none_of X G zq13
      · exact PySem.W.mg_none_of X G zq14
    · intro c x h
      match c, h with
      | 0, h => cases h; exact .inl ⟨_, rfl, PySem.W.mg_of X G ca0⟩
      | 1, h => cases h; exact .inl ⟨_, rfl, PySem.W.mg_of X G ca1⟩
      | 2, h => cases h; exact .inl ⟨_, rfl, PySem.W.mg_of X G ca2⟩
      | 3, h => cases h; exact .inl ⟨_, rfl, PySem.W.mg_of X G ca3⟩
      | 4, h => cases h; exact .inl ⟨_, rfl, PySem.W.mg_of X G ca4⟩
      | 5, h => cases h; exact .inl ⟨_, rfl, PySem.W.mg_of X G ca5⟩
      | 6, h => cases h; exact .inl ⟨_, rfl, PySem.W.mg_of X G ca6⟩
      | 7, h => cases h; exact .inl ⟨_, rfl, PySem.W.mg_of X G ca7⟩
      | 8, h => cases h; exact .inl ⟨_, rfl, PySem.W.mg_of X G ca8⟩
      | 9, h => cases h; exact .inl ⟨_, rfl, PySem.W.mg_of X G ca9⟩
      | 10, h => cases h; exact .inl ⟨_, rfl, PySem.W.mg_of X G ca10⟩
      | 11, h => cases h; exact .inl ⟨_, rfl, PySem.W.mg_of X G ca11⟩
      | 12, h => cases h; exact .inl ⟨_, rfl, PySem.W.mg_of X G ca12⟩
      | 13, h => cases h; exact .inr ⟨_, rfl, PySem.W.mg_none_of X G zq0, by decide +kernel, by decide⟩
      | _ + 14, h => cases h
    · exact subs_ok sb (Nat.zero_lt_succ _)
    · intro k x ps h1 h2
      match k, h1, h2 with
      | 0, h1, h2 => cases h2
      | 1, h1, h2 => cases h2
      | 2, h1, h2 => cases h2
      | 3, h1, h2 => cases h2
      | 4, h1, h2 => cases h2
      | 5, h1, h2 => cases h1; cases h2; exact excR_mk X G ca5 xl5 xr5 xi5 xf5 xc5 xd5 xv5 xw5 xe5 xg5 xm5 xo5 xs5 xt5 xa5 xb5 xy5 xk5 xz5 zq12 tp rfl (by decide +kernel) rfl (fun f hf => (clsB_ok cb5).2 f (by revert f; decide)) (by decide +kernel) (by decide +kernel) (by decide) (fun us hl => match us, hl with | [_, _], _ => rfl)
      | 6, h1, h2 => cases h1; cases h2; exact excR_mk X G ca6 xl6 xr6 xi6 xf6 xc6 xd6 xv6 xw6 xe6 xg6 xm6 xo6 xs6 xt6 xa6 xb6 xy6 xk6 xz6 zq12 tp rfl (by decide +kernel) rfl (fun f hf => (clsB_ok cb6).2 f (by revert f; decide)) (by decide +kernel) (by decide +kernel) (by decide) (fun us hl => match us, hl with | [_, _, _], _ => rfl)
      | 7, h1, h2 => cases h2
      | 8, h1, h2 => cases h2
      | 9, h1, h2 => cases h2
      | 10, h1, h2 => cases h2
      | 11, h1, h2 => cases h2
      | 12, h1, h2 => cases h2
      | 13, h1, h2 => cases h2
      | _ + 14, h1, h2 => cases h1
    · intro k c h1 h2
      have hk : clip 14 k < 14 := by unfold clip; split <;> omega
      have key : ∀ kk, kk < 14 → ∀ c, c < 13 → sub0 kk c = true → ∃ D, ([.ref C0, .ref C1, .ref C2, .ref C3, .ref C4, .ref C5, .ref C6, .ref C7, .ref C8, .ref C9, .ref C10, .ref C11, .ref C12, .type "ValueError"] : List Value).getD kk (.ref C0) = .ref D ∧ ExcK K D ∧ ∀ f ∈ cfg.fld, PySem.W.findIn K (.ref D) f = some none := by
        intro kk hkk c hc hs
        match kk, hkk with
        | 0, _ => exact ⟨C0, rfl, clsB_ok cb0⟩
        | 1, _ => exact ⟨C1, rfl, clsB_ok cb1⟩
        | 2, _ => exact ⟨C2, rfl, clsB_ok cb2⟩
        | 3, _ => exact ⟨C3, rfl, clsB_ok cb3⟩
        | 4, _ => exact ⟨C4, rfl, clsB_ok cb4⟩
        | 5, _ => exact ⟨C5, rfl, clsB_ok cb5⟩
        | 6, _ => exact ⟨C6, rfl, clsB_ok cb6⟩
        | 7, _ => exact ⟨C7, rfl, clsB_ok cb7⟩
        | 8, _ => exact ⟨C8, rfl, clsB_ok cb8⟩
        | 9, _ => exact ⟨C9, rfl, clsB_ok cb9⟩
        | 10, _ => exact ⟨C10, rfl, clsB_ok cb10⟩
        | 11, _ => exact ⟨C11, rfl, clsB_ok cb11⟩
        | 12, _ => exact ⟨C12, rfl, clsB_ok cb12⟩
        | 13, _ => exact absurd hs (by revert c; decide)
        | _ + 14, h => omega
      refine key _ hk c h2 ?_
      have : clip 14 c = c := by unfold clip; rw [if_pos (by have : c < 13 := h2; omega)]
      rw [← this]; exact h1
end
end Law
/-! Mj23: the evaluator's equations. -/
namespace Mw
open PySem PySem.Spec PyProof.Rows L2 Mj
section
variable (M : MH) (b : Bool) (i j : Int) (x y : Str) (xs ys : List D) (d : D) (m : Bool) (as : List D) (n : Nat)
@[simp] theorem tru_non : truD M .non = some false := rfl
@[simp] theorem tru_bl : truD M (.bl b) = some b := rfl
@[simp] theorem tru_int : truD M (.int i) = some (i != 0) := rfl
@[simp] theorem tru_tup : truD M (.tup xs) = some (!xs.isEmpty) := rfl
@[simp] theorem tru_lst : truD M (.lst xs) = some (!xs.isEmpty) := rfl
@[simp] theorem getL_lst : getL M (.lst xs) = some xs := rfl
@[simp] theorem resO_some : resO M (some d) = .ok d M := rfl
@[simp] theorem resO_none : resO M none = .bad := rfl
@[simp] theorem newL_false : newL false xs M = .ok (.lst xs) M := rfl
@[simp] theorem newL_true : newL true xs M = .ok (.ref M.length) (M ++ [.lst xs]) := rfl
@[simp] theorem cmp_eq_int : cmpD .Eq (.int i) (.int j) M = some (i == j) := rfl
@[simp] theorem cmp_ne_int : cmpD .NotEq (.int i) (.int j) M = some (!(i == j)) := rfl
@[simp] theorem cmp_lt_int : cmpD .Lt (.int i) (.int j) M = some (decide (i < j)) := rfl
@[simp] theorem cmp_le_int : cmpD .LtE (.int i) (.int j) M = some (decide (i ≤ j)) := rfl
@[simp] theorem cmp_gt_int : cmpD .Gt (.int i) (.int j) M = some (decide (j < i)) := rfl
@[simp] theorem cmp_ge_int : cmpD .GtE (.int i) (.int j) M = some (decide (j ≤ i)) := rfl
@[simp] theorem cmp_eq_str : cmpD .Eq (.str x) (.str y) M = some (decide (x = y)) := rfl
@[simp] theorem cmp_ne_str : cmpD .NotEq (.str x) (.str y) M = some (!decide (x = y)) := rfl
@[simp] theorem bq_len : biD m "len" as M = biLen as M := rfl
@[simp] theorem bq_isi : biD m "isinstance" as M = biIsi as M := rfl
@[simp] theorem bq_int : biD m "int" as M = biInt as M := rfl
@[simp] theorem bq_str : biD m "str" as M = biStr as M := rfl
@[simp] theorem bq_ord : biD m "ord" as M = biOrd as M := rfl
@[simp] theorem bq_all : biD m "all" as M = biAll as M := rfl
@[simp] theorem bq_list : biD m "list" as M = biList m as M := rfl
@[simp] theorem bq_tuple : biD m "tuple" as M = biTuple as M := rfl
@[simp] theorem bq_dict : biD m "dict" as M = biDict as M := rfl
@[simp] theorem bq_sorted : biD m "sorted" as M = biSorted m as M := rfl
@[simp] theorem bq_repr : biD m "repr" as M = biRepr as M := rfl
@[simp] theorem bq_min : biD m "min" as M = biMin as M := rfl
@[simp] theorem bq_max : biD m "max" as M = biMax as M := rfl
@[simp] theorem len_tup : biLen [.tup xs] M = .ok (.int xs.length) M := rfl
@[simp] theorem len_lst : biLen [.lst xs] M = .ok (.int xs.length) M := rfl
@[simp] theorem int_int : biInt [.int i] M = .ok (.int i) M := rfl
@[simp] theorem tuple_lst : biTuple [.lst xs] M = .ok (.tup xs) M := rfl
@[simp] theorem list_tup_f : biList false [.tup xs] M = .ok (.lst xs) M := rfl
@[simp] theorem list_lst_f : biList false [.lst xs] M = .ok (.lst xs) M := rfl
@[simp] theorem idx_tup : idxD (.tup xs) (.int i) M = atI xs i := rfl
@[simp] theorem idx_lst : idxD (.lst xs) (.int i) M = atI xs i := rfl
@[simp] theorem src_tup : srcOf M (.tup xs) = some (.vals xs) := rfl
@[simp] theorem src_lst : srcOf M (.lst xs) = some (.vals xs) := rfl
@[simp] theorem srcLen_vals : srcLen (.vals xs) = xs.length := rfl
@[simp] theorem srcLen_zip : srcLen (.zipL xs ys) = min xs.length ys.length := rfl
@[simp] theorem add_int : binD m .Add (.int i) (.int j) M = .ok (.int (i + j)) M := rfl
@[simp] theorem sub_int : binD m .Sub (.int i) (.int j) M = .ok (.int (i - j)) M := rfl
end
@[simp] theorem atI_0 {α : Type} (a : α) (r : List α) : atI (a :: r) 0 = some a := by
  unfold atI ixN
  rw [if_pos (by decide), if_pos (by simp)]
  rfl
@[simp] theorem atI_1 {α : Type} (a b : α) (r : List α) : atI (a :: b :: r) 1 = some b := by
  unfold atI ixN
  rw [if_pos (by decide), if_pos (by simp; omega)]
  rfl
@[simp] theorem atI_2 {α : Type} (a b c : α) (r : List α) : atI (a :: b :: c :: r) 2 = some c := by
  unfold atI ixN
  rw [if_pos (by decide), if_pos (by simp; omega)]
  rfl
@[simp] theorem atI_3 {α : Type} (a b c d : α) (r : List α) : atI (a :: b :: c :: d :: r) 3 = some d := by
  unfold atI ixN
  rw [if_pos (by decide), if_pos (by simp; omega)]
  rfl
@[simp] theorem atI_4 {α : Type} (a b c d e : α) (r : List α) : atI (a :: b :: c :: d :: e :: r) 4 = some e := by
  unfold atI ixN
  rw [if_pos (by decide), if_pos (by simp; omega)]
  rfl
theorem atI_ok {α : Type} {xs : List α} {i : Int} (h0 : 0 ≤ i) (h1 : i < xs.length) : atI xs i = xs[i.toNat]? := by
  unfold atI ixN
  rw [if_pos h0, if_pos h1]
  rfl
theorem atI_nat {α : Type} {xs : List α} {i : Nat} {a : α} (h : xs[i]? = some a) : atI xs (i : Int) = some a := by
  have hl : i < xs.length := (List.getElem?_eq_some_iff.mp h).1
  rw [atI_ok (by omega) (by omega)]
  exact h
/-- a comprehension over values that changes nothing -/
theorem comp_vals {bind : D → Option Rho} {cond : Rho → MH → Rx Bool} {elt : Rho → MH → Rx D} {M : MH} (p : D → Bool) (e : D → D) (ρf : D → Rho) : ∀ (xs : List D) (pre acc : List D), (∀ d ∈ xs, bind d = some (ρf d) ∧ cond (ρf d) M = .ok (p d) M ∧ (p d = true → elt (ρf d) M = .ok (e d) M)) →
    compLoop (.vals (pre ++ xs)) bind cond elt xs.length pre.length acc M = .ok (acc ++ (xs.filter p).map e) M
  | [], pre, acc, _ => by simp [compLoop, srcEnd]
  | x :: xs, pre, acc, h => by
    obtain ⟨h1, h2, h3⟩ := h x (by simp)
    have ih := comp_vals (bind := bind) (cond := cond) (elt := elt) p e ρf xs (pre ++ [x]) (acc ++ (if p x = true then [e x] else [])) (fun d hd => h d (List.mem_cons_of_mem _ hd))
    have hat : srcAt M pre.length (.vals (pre ++ x :: xs)) = some x := by simp [srcAt]
    rw [List.append_assoc, List.singleton_append] at ih
    rw [List.length_append, List.length_singleton] at ih
    simp only [List.length_cons, compLoop, hat, h1, h2, Rx.bind, noX]
    cases hp : p x with
    | true =>
      simp only [if_true, h3 hp, Rx.bind, noX]
      rw [hp, if_pos rfl] at ih
      rw [ih, List.filter_cons, hp]
      simp
    | false =>
      rw [hp, if_neg Bool.false_ne_true, List.append_nil] at ih
      simp only [Bool.false_eq_true, if_false]
      rw [ih, List.filter_cons, hp]
      simp
theorem comp_all {bind : D → Option Rho} {cond : Rho → MH → Rx Bool} {elt : Rho → MH → Rx D} {M : MH} (p : D → Bool) (e : D → D) (ρf : D → Rho) (xs : List D) (h : ∀ d ∈ xs, bind d = some (ρf d) ∧ cond (ρf d) M = .ok (p d) M ∧ (p d = true → elt (ρf d) M = .ok (e d) M)) :
    compLoop (.vals xs) bind cond elt xs.length 0 [] M = .ok ((xs.filter p).map e) M := by
  have := comp_vals p e ρf xs [] [] h
  simpa using this
/-- a comprehension over any source, its values by a relation; P: what holds of the heap -/
theorem comp_rel {src : Src} {bind : D → Option Rho} {cond : Rho → MH → Rx Bool} {elt : Rho → MH → Rx D} (P : MH → Prop) (Q : Nat → List D → Prop) (n : Nat) (he : ∀ M, P M → srcEnd M src = true)
    (h : ∀ i acc M, i < n → P M → Q i acc → ∃ d ρ b M1, srcAt M i src = some d ∧ bind d = some ρ ∧ cond ρ M = .ok b M1 ∧ P M1 ∧ (b = false → Q (i + 1) acc) ∧ (b = true → ∃ e M2, elt ρ M1 = .ok e M2 ∧ P M2 ∧ Q (i + 1) (acc ++ [e]))) :
    ∀ k i acc M, i + k = n → P M → Q i acc → ∃ ds M', compLoop src bind cond elt k i acc M = .ok ds M' ∧ P M' ∧ Q n ds
  | 0, i, acc, M, hk, p, q => ⟨acc, M, by simp only [compLoop, he M p, if_true], p, by rw [show n = i by omega]; exact q⟩
  | k + 1, i, acc, M, hk, p, q => by
    obtain ⟨d, ρ, b, M1, h1, h2, h3, p1, hf, ht⟩ := h i acc M (by omega) p q
    cases b with
    | false =>
      obtain ⟨ds, M', e, r⟩ := comp_rel P Q n he h k (i + 1) acc M1 (by omega) p1 (hf rfl)
      exact ⟨ds, M', by simp only [compLoop, h1, h2, h3, noX, Rx.bind, Bool.false_eq_true, if_false, e], r⟩
    | true =>
      obtain ⟨e, M2, h4, p2, q2⟩ := ht rfl
      obtain ⟨ds, M', e, r⟩ := comp_rel P Q n he h k (i + 1) _ M2 (by omega) p2 q2
      exact ⟨ds, M', by simp only [compLoop, h1, h2, h3, noX, Rx.bind, if_true, h4, e], r⟩
/-- a loop whose body goes on -/
theorem for_rel {src : Src} {bind : D → Rho → Option Rho} {body : Rho → MH → Res Fl} (Q : Nat → Rho → MH → Prop) (n : Nat) (he : ∀ ρ M, Q n ρ M → srcEnd M src = true)
    (h : ∀ i ρ M, i < n → Q i ρ M → ∃ d ρ1 ρ2 M2, srcAt M i src = some d ∧ bind d ρ = some ρ1 ∧ body ρ1 M = .ok (.nx ρ2) M2 ∧ Q (i + 1) ρ2 M2) :
    ∀ k i ρ M, i + k = n → Q i ρ M → ∃ ρ' M', forLoop src bind body k i ρ M = .ok (.nx ρ') M' ∧ Q n ρ' M'
  | 0, i, ρ, M, hk, q => by
    have e : i = n := by omega
    subst e
    exact ⟨ρ, M, by simp only [forLoop, he ρ M q, if_true], q⟩
  | k + 1, i, ρ, M, hk, q => by
    obtain ⟨d, ρ1, ρ2, M2, h1, h2, h3, q2⟩ := h i ρ M (by omega) q
    obtain ⟨ρ', M', e, r⟩ := for_rel Q n he h k (i + 1) ρ2 M2 (by omega) q2
    exact ⟨ρ', M', by simp only [forLoop, h1, h2, h3, Res.bind, e], r⟩
/-- a loop over values: a body that may return -/
theorem for_vals {bind : D → Rho → Option Rho} {body : Rho → MH → Res Fl} {M : MH} (Q : List D → Rho → Prop) (R : Res Fl) : ∀ (xs pre : List D) (ρ : Rho), Q xs ρ →
    (∀ ρ, Q [] ρ → R = .ok (.nx ρ) M) → (∀ d r ρ, Q (d :: r) ρ → ∃ ρ1, bind d ρ = some ρ1 ∧ ((∃ ρ2, body ρ1 M = .ok (.nx ρ2) M ∧ Q r ρ2) ∨ (∃ v, body ρ1 M = .ok (.rt v) M ∧ R = .ok (.rt v) M) ∨ ∃ x ρ2, body ρ1 M = .ok (.xc x ρ2) M ∧ R = .ok (.xc x ρ2) M)) →
    forLoop (.vals (pre ++ xs)) bind body xs.length pre.length ρ M = R
  | [], pre, ρ, q, h0, _ => by
    rw [h0 ρ q]
    simp [forLoop, srcEnd]
  | x :: xs, pre, ρ, q, h0, h => by
    obtain ⟨ρ1, h1, h2⟩ := h x xs ρ q
    have hat : srcAt M pre.length (.vals (pre ++ x :: xs)) = some x := by simp [srcAt]
    simp only [List.length_cons, forLoop, hat, h1]
    rcases h2 with ⟨ρ2, h2, q2⟩ | ⟨v, h2, h3⟩ | ⟨x, ρ2, h2, h3⟩
    · have ih := for_vals (bind := bind) (body := body) Q R xs (pre ++ [x]) ρ2 q2 h0 h
      rw [List.append_assoc, List.singleton_append, List.length_append, List.length_singleton] at ih
      simp only [h2, Res.bind, ih]
    · rw [h3]
      simp only [h2, Res.bind]
    · rw [h3]
      simp only [h2, Res.bind]
theorem bools_map (p : D → Bool) : ∀ xs : List D, boolsOf (xs.map fun d => .bl (p d)) = some (xs.map p)
  | [] => rfl
  | x :: r => by
    simp only [List.map_cons, boolsOf, bools_map p r]
    rfl
section
variable {T : Nat → Option Fn} {sub : Nat → Nat → Bool} {n k : Nat} {as : List D} {M M1 : MH} {f : Fn} {ρ ρ' : Rho} {d : D} {x : XV}
theorem c_rt (hT : T k = some f) (ha : f.ask = false) (hs : startOf f as = some ρ) (h : exSs f.body ⟨callN T sub n, noAsk, none, sub⟩ ρ M = .ok (.rt d) M1) : callN T sub (n + 1) k as none M = .ok d M1 := by
  simp only [callN, hT, ha, runFn, hs, h]
theorem c_nx (hT : T k = some f) (ha : f.ask = false) (hs : startOf f as = some ρ) (h : exSs f.body ⟨callN T sub n, noAsk, none, sub⟩ ρ M = .ok (.nx ρ') M1) : callN T sub (n + 1) k as none M = .ok .non M1 := by
  simp only [callN, hT, ha, runFn, hs, h]
theorem c_xc (hT : T k = some f) (ha : f.ask = false) (hs : startOf f as = some ρ) (h : exSs f.body ⟨callN T sub n, noAsk, none, sub⟩ ρ M = .ok (.xc x ρ') M1) : callN T sub (n + 1) k as none M = .exc x M1 := by
  simp only [callN, hT, ha, runFn, hs, h]
/-- what a run's end means for the call -/
def fin : Res Fl → Rx D
  | .ok (.nx _) M => .ok .non M
  | .ok (.rt d) M => .ok d M
  | .ok (.xc x _) M => .exc x M
  | .bad => .bad
theorem c_any (hT : T k = some f) (ha : f.ask = false) (hs : startOf f as = some ρ) : callN T sub (n + 1) k as none M = fin (exSs f.body ⟨callN T sub n, noAsk, none, sub⟩ ρ M) := by
  simp only [callN, hT, ha, runFn, hs]
  cases exSs f.body ⟨callN T sub n, noAsk, none, sub⟩ ρ M with
  | bad => rfl
  | ok o M1 => cases o <;> rfl
end
end Mw
/-! Mj24: comprehensions and loops over known values. -/
namespace Mw
open PySem PySem.Spec PyProof.Rows L2 Mj
/-- the source gives these values, the heap being M -/
structure SrcIs (src : Src) (M : MH) (zs : List D) : Prop where
  len : srcLen src = zs.length
  fin : srcEnd M src = true
  at_ : ∀ i, srcAt M i src = zs[i]?
theorem SrcIs.vals {M : MH} {zs : List D} : SrcIs (.vals zs) M zs := ⟨rfl, rfl, fun _ => rfl⟩
theorem SrcIs.zip {M : MH} {xs ys : List D} : SrcIs (.zipL xs ys) M (List.zipWith (fun x y => .ptup [x, y]) xs ys) := by
  refine ⟨by simp [srcLen], rfl, fun i => ?_⟩
  simp only [srcAt, List.getElem?_zipWith]
  cases xs[i]? <;> cases ys[i]? <;> rfl
theorem SrcIs.live {M : MH} {n : Nat} {ys : List D} (h : M[n]? = some (.lst ys)) : SrcIs (.live n ys.length) M ys := by
  refine ⟨rfl, by simp [srcEnd, h], fun i => by simp [srcAt, h]⟩
section
variable {α : Type} {src : Src} {M : MH} (g : α → D) (ys : List α)
theorem comp_src {bind : D → Option Rho} {cond : Rho → MH → Rx Bool} {elt : Rho → MH → Rx D} (hs : SrcIs src M (ys.map g)) (p : α → Bool) (e : α → D) (ρf : α → Rho) (h : ∀ a ∈ ys, bind (g a) = some (ρf a) ∧ cond (ρf a) M = .ok (p a) M ∧ (p a = true → elt (ρf a) M = .ok (e a) M)) :
    compLoop src bind cond elt (srcLen src) 0 [] M = .ok ((ys.filter p).map e) M := by
  have key : ∀ k i acc, i + k = ys.length → compLoop src bind cond elt k i acc M = .ok (acc ++ ((ys.drop i).filter p).map e) M := by
    intro k
    induction k with
    | zero =>
      intro i acc hk
      rw [List.drop_eq_nil_of_le (by omega)]
      simp [compLoop, hs.fin]
    | succ k ih =>
      intro i acc hk
      have hi : i < ys.length := by omega
      obtain ⟨h1, h2, h3⟩ := h ys[i] (List.getElem_mem hi)
      have hat : srcAt M i src = some (g ys[i]) := by rw [hs.at_, List.getElem?_map, List.getElem?_eq_getElem hi]; rfl
      rw [List.drop_eq_getElem_cons hi, List.filter_cons]
      simp only [compLoop, hat, h1, h2, Rx.bind, noX]
      cases hp : p ys[i] with
      | true =>
        simp only [if_true, h3 hp, Rx.bind, noX]
        rw [ih (i + 1) _ (by omega)]
        simp
      | false =>
        simp only [Bool.false_eq_true, if_false]
        rw [ih (i + 1) _ (by omega)]
  have := key ys.length 0 [] (by omega)
  rw [hs.len, List.length_map, this]
  simp
variable {E : EvC} {ρ : Rho} {it : Mj.It} {tg : Tg} {elt : C} {ifs : Co}
theorem e_comp (h1 : evI it E ρ M = .ok src M) (hs : SrcIs src M (ys.map g)) (p : α → Bool) (e : α → D) (ρf : α → Rho) (h : ∀ a ∈ ys, bindT tg (g a) (wipeR ρ tg.own) = some (ρf a) ∧ evIf ifs E.bare (ρf a) M = .ok (p a) M ∧ (p a = true → ev elt E.bare (ρf a) M = .ok (e a) M)) :
    ev (.comp false elt tg it ifs) E ρ M = .ok (.lst ((ys.filter p).map e)) M := by
  rw [ev, h1]
  simp only [Rx.bind]
  rw [comp_src g ys hs p e ρf h]
  rfl
/-- no test -/
theorem e_compA (h1 : evI it E ρ M = .ok src M) (hs : SrcIs src M (ys.map g)) (e : α → D) (ρf : α → Rho) (h : ∀ a ∈ ys, bindT tg (g a) (wipeR ρ tg.own) = some (ρf a) ∧ ev elt E.bare (ρf a) M = .ok (e a) M) :
    ev (.comp false elt tg it .none) E ρ M = .ok (.lst (ys.map e)) M := by
  have := e_comp g ys (ifs := .none) h1 hs (fun _ => true) e ρf fun a ha => ⟨(h a ha).1, rfl, fun _ => (h a ha).2⟩
  rw [this, List.filter_eq_self.mpr (by simp)]
/-- a comprehension whose parts draw: the values by a relation, the heap by P -/
theorem e_compR {ifs : Co} {M : MH} (P : MH → Prop) (Q : Nat → List D → Prop) (h1 : evI it E ρ M = .ok src M) (h0 : P M) (hs : ∀ M, P M → SrcIs src M (ys.map g)) (q0 : Q 0 [])
    (h : ∀ i a acc M, ys[i]? = some a → P M → Q i acc → ∃ ρ1 b M1, bindT tg (g a) (wipeR ρ tg.own) = some ρ1 ∧ evIf ifs E.bare ρ1 M = .ok b M1 ∧ P M1 ∧ (b = false → Q (i + 1) acc) ∧ (b = true → ∃ e M2, ev elt E.bare ρ1 M1 = .ok e M2 ∧ P M2 ∧ Q (i + 1) (acc ++ [e]))) :
    ∃ ds M', ev (.comp false elt tg it ifs) E ρ M = .ok (.lst ds) M' ∧ P M' ∧ Q ys.length ds := by
  have := comp_rel (src := src) (bind := fun d => bindT tg d (wipeR ρ tg.own)) (cond := evIf ifs E.bare) (elt := ev elt E.bare) P Q ys.length (fun M p => (hs M p).fin) (fun i acc M hi p q => by
    obtain ⟨ρ1, b, M1, e1, e2, e3⟩ := h i ys[i] acc M (List.getElem?_eq_getElem hi) p q
    exact ⟨g ys[i], ρ1, b, M1, by rw [(hs M p).at_, List.getElem?_map, List.getElem?_eq_getElem hi]; rfl, e1, e2, e3⟩) ys.length 0 [] M (by omega) h0 q0
  obtain ⟨ds, M', e, r⟩ := this
  refine ⟨ds, M', ?_, r⟩
  rw [ev, h1]
  simp only [Rx.bind]
  rw [(hs M h0).len, List.length_map, e]
  rfl
theorem i_seq {c : C} {d : D} (h : ev c E ρ M = .ok d M) (h2 : srcOf M d = some src) : evI (.seq c) E ρ M = .ok src M := by
  simp only [evI, h, h2, Rx.bind]
/-- a loop over values that goes on, or leaves -/
theorem x_for {body : Ss} {R : Res Fl} (h1 : evI it E ρ M = .ok src M) (hs : SrcIs src M (ys.map g)) (Q : List α → Rho → Prop) (q0 : Q ys ρ) (hn : ∀ ρ, Q [] ρ → R = .ok (.nx ρ) M)
    (h : ∀ a r ρ, Q (a :: r) ρ → ∃ ρ1, bindT tg (g a) ρ = some ρ1 ∧ ((∃ ρ2, exSs body E ρ1 M = .ok (.nx ρ2) M ∧ Q r ρ2) ∨ (∃ v, exSs body E ρ1 M = .ok (.rt v) M ∧ R = .ok (.rt v) M) ∨ ∃ x ρ2, exSs body E ρ1 M = .ok (.xc x ρ2) M ∧ R = .ok (.xc x ρ2) M)) :
    exS (.for_ tg it body) E ρ M = R := by
  have key : ∀ k i ρ, i + k = ys.length → Q (ys.drop i) ρ → forLoop src (bindT tg) (exSs body E) k i ρ M = R := by
    intro k
    induction k with
    | zero =>
      intro i ρ hk q
      rw [List.drop_eq_nil_of_le (by omega)] at q
      simp [forLoop, hs.fin, hn ρ q]
    | succ k ih =>
      intro i ρ hk q
      have hi : i < ys.length := by omega
      rw [List.drop_eq_getElem_cons hi] at q
      obtain ⟨ρ1, e1, e2⟩ := h _ _ ρ q
      have hat : srcAt M i src = some (g ys[i]) := by rw [hs.at_, List.getElem?_map, List.getElem?_eq_getElem hi]; rfl
      simp only [forLoop, hat, e1]
      rcases e2 with ⟨ρ2, e2, q2⟩ | ⟨v, e2, e3⟩ | ⟨x, ρ2, e2, e3⟩
      · simp only [e2, Res.bind, ih (i + 1) ρ2 (by omega) q2]
      · rw [e3]; simp only [e2, Res.bind]
      · rw [e3]; simp only [e2, Res.bind]
  rw [exS, h1]
  simp only [liftS]
  rw [hs.len, List.length_map]
  exact key ys.length 0 ρ (by omega) (by simpa using q0)
/-- a loop that changes the heap -/
theorem x_forM {body : Ss} {M : MH} (Q : Nat → Rho → MH → Prop) (h1 : evI it E ρ M = .ok src M) (hs : ∀ i ρ M, Q i ρ M → SrcIs src M (ys.map g)) (q0 : Q 0 ρ M)
    (h : ∀ i a ρ M, ys[i]? = some a → Q i ρ M → ∃ ρ1 ρ2 M2, bindT tg (g a) ρ = some ρ1 ∧ exSs body E ρ1 M = .ok (.nx ρ2) M2 ∧ Q (i + 1) ρ2 M2) :
    ∃ ρ' M', exS (.for_ tg it body) E ρ M = .ok (.nx ρ') M' ∧ Q ys.length ρ' M' := by
  obtain ⟨ρ', M', e, r⟩ := for_rel (src := src) (bind := bindT tg) (body := exSs body E) Q ys.length (fun ρ M q => (hs _ ρ M q).fin) (fun i ρ M hi q => by
    obtain ⟨ρ1, ρ2, M2, e1, e2⟩ := h i ys[i] ρ M (List.getElem?_eq_getElem hi) q
    exact ⟨g ys[i], ρ1, ρ2, M2, by rw [(hs _ _ _ q).at_, List.getElem?_map, List.getElem?_eq_getElem hi]; rfl, e1, e2⟩) ys.length 0 ρ M (by omega) q0
  refine ⟨ρ', M', ?_, r⟩
  rw [exS, h1]
  simp only [liftS]
  rw [(hs _ _ _ q0).len, List.length_map, e]
end
/-- statements in a row -/
theorem x_seq {E : EvC} {s : S} {r : Ss} {ρ ρ1 : Rho} {M M1 : MH} (h : exS s E ρ M = .ok (.nx ρ1) M1) : exSs (.cons s r) E ρ M = exSs r E ρ1 M1 := by
  simp only [exSs, h, Res.bind]
theorem x_out {E : EvC} {s : S} {r : Ss} {ρ : Rho} {M M1 : MH} {d : D} (h : exS s E ρ M = .ok (.rt d) M1) : exSs (.cons s r) E ρ M = .ok (.rt d) M1 := by
  simp only [exSs, h, Res.bind]
theorem x_exc {E : EvC} {s : S} {r : Ss} {ρ ρ1 : Rho} {M M1 : MH} {x : XV} (h : exS s E ρ M = .ok (.xc x ρ1) M1) : exSs (.cons s r) E ρ M = .ok (.xc x ρ1) M1 := by
  simp only [exSs, h, Res.bind]
end Mw
/-! Mq1: the evaluator with named frames (written by frames.py). -/
namespace Mq
open PySem PySem.Spec PyProof.Rows L2 Mj
def vr (o : Option (Option D)) (M : MH) : Rx D := match o with
  | some (some d) => .ok d M
  | _ => .bad
theorem vr_ok (d : D) (M : MH) : vr (some (some d)) M = .ok d M := rfl
theorem up_ok {α : Type} (a : α) (M : MH) : up (.ok a M) = .ok a M := rfl
def tr (o : Option Bool) (M : MH) : Rx Bool := match o with
  | some k => .ok k M
  | none => .bad
theorem tr_ok (k : Bool) (M : MH) : tr (some k) M = .ok k M := rfl
def td (t : Rx Bool) : Rx D := t.bind toD
theorem td_ok (k : Bool) (M : MH) : td (.ok k M) = .ok (.bl k) M := rfl
theorem td_exc (x0 : XV) (M : MH) : td (.exc x0 M) = .exc x0 M := rfl
theorem td_bad : td .bad = .bad := rfl
def tru1  (t : Rx (D)) : Rx (Bool) := t.bind fun x M => tr (truD M x) M
theorem tru1_ok  (x : D) (M : MH) : tru1  (.ok x M) = tr (truD M x) M := rfl
theorem tru1_exc  (x0 : XV) (M : MH) : tru1  (.exc x0 M) = .exc x0 M := rfl
theorem tru1_bad  : tru1  .bad = .bad := rfl
def tnot (t : Rx Bool) : Rx Bool := t.bind fun b M => .ok (!b) M
theorem tnot_ok (k : Bool) (M : MH) : tnot (.ok k M) = .ok (!k) M := rfl
theorem tnot_exc (x0 : XV) (M : MH) : tnot (.exc x0 M) = .exc x0 M := rfl
theorem tnot_bad : tnot .bad = .bad := rfl
theorem ev_var (i : Nat) (E : EvC) (ρ : Rho) (M : MH) : ev (.var i) E ρ M = vr ρ[i]? M := rfl
theorem ev_const (d : D) (E : EvC) (ρ : Rho) (M : MH) : ev (.const d) E ρ M = .ok d M := rfl
theorem ev_glob (q : Str) (d : D) (E : EvC) (ρ : Rho) (M : MH) : ev (.glob q d) E ρ M = .ok d M := rfl
def kBin2 (m : Bool) (o : Operator) (x : D) (t : Rx (D)) : Rx (D) := t.bind fun y M => up (binD m o x y M)
theorem kBin2_ok (m : Bool) (o : Operator) (x : D) (y : D) (M : MH) : kBin2 m o x (.ok y M) = up (binD m o x y M) := rfl
theorem kBin2_exc (m : Bool) (o : Operator) (x : D) (x0 : XV) (M : MH) : kBin2 m o x (.exc x0 M) = .exc x0 M := rfl
theorem kBin2_bad (m : Bool) (o : Operator) (x : D) : kBin2 m o x .bad = .bad := rfl
def kBin1 (m : Bool) (o : Operator) (b : C) (E : EvC) (ρ : Rho) (t : Rx (D)) : Rx (D) := t.bind fun x M => kBin2 m o x (ev b E ρ M)
theorem kBin1_ok (m : Bool) (o : Operator) (b : C) (E : EvC) (ρ : Rho) (x : D) (M : MH) : kBin1 m o b E ρ (.ok x M) = kBin2 m o x (ev b E ρ M) := rfl
theorem kBin1_exc (m : Bool) (o : Operator) (b : C) (E : EvC) (ρ : Rho) (x0 : XV) (M : MH) : kBin1 m o b E ρ (.exc x0 M) = .exc x0 M := rfl
theorem kBin1_bad (m : Bool) (o : Operator) (b : C) (E : EvC) (ρ : Rho) : kBin1 m o b E ρ .bad = .bad := rfl
theorem ev_bin (m : Bool) (o : Operator) (a : C) (b : C) (E : EvC) (ρ : Rho) (M : MH) : ev (.bin m o a b) E ρ M = kBin1 m o b E ρ (ev a E ρ M) := rfl
def negD (x : D) (M : MH) : Rx D := match x with
  | .int i => .ok (.int (-i)) M
  | _ => .bad
theorem negD_int (i : Int) (M : MH) : negD (.int i) M = .ok (.int (-i)) M := rfl
def kNeg  (t : Rx (D)) : Rx (D) := t.bind fun x M => negD x M
theorem kNeg_ok  (x : D) (M : MH) : kNeg  (.ok x M) = negD x M := rfl
theorem kNeg_exc  (x0 : XV) (M : MH) : kNeg  (.exc x0 M) = .exc x0 M := rfl
theorem kNeg_bad  : kNeg  .bad = .bad := rfl
theorem ev_neg (a : C) (E : EvC) (ρ : Rho) (M : MH) : ev (.neg a) E ρ M = kNeg (ev a E ρ M) := rfl
def kNotE (t : Rx D) : Rx D := t.bind fun x M => td (tnot (tr (truD M x) M))
theorem kNotE_ok (x : D) (M : MH) : kNotE (.ok x M) = td (tnot (tr (truD M x) M)) := rfl
theorem kNotE_exc (x0 : XV) (M : MH) : kNotE (.exc x0 M) = .exc x0 M := rfl
theorem ev_not (a : C) (E : EvC) (ρ : Rho) (M : MH) : ev (.not a) E ρ M = kNotE (ev a E ρ M) := by
  simp only [ev, kNotE]
  cases ev a E ρ M with
  | bad => rfl
  | exc x M => rfl
  | ok x M1 =>
    simp only [Rx.bind, truR, tr]
    cases truD M1 x <;> rfl
theorem ev_and (as : Cs) (E : EvC) (ρ : Rho) (M : MH) : ev (.and as) E ρ M = evAnd as E ρ M := rfl
theorem ev_or (as : Cs) (E : EvC) (ρ : Rho) (M : MH) : ev (.or as) E ρ M = evOr as E ρ M := rfl
def brA (k : Option Bool) (x : D) (M : MH) (t : Rx D) : Rx D := match k with
  | some k => if k = true then t else .ok x M
  | none => .bad
theorem brA_ok (k : Bool) (x : D) (M : MH) (t : Rx D) : brA (some k) x M t = if k = true then t else .ok x M := rfl
def brO (k : Option Bool) (x : D) (M : MH) (t : Rx D) : Rx D := match k with
  | some k => if k = true then .ok x M else t
  | none => .bad
theorem brO_ok (k : Bool) (x : D) (M : MH) (t : Rx D) : brO (some k) x M t = if k = true then .ok x M else t := rfl
def kAnd (r : Cs) (E : EvC) (ρ : Rho) (t : Rx D) : Rx D := t.bind fun x M => brA (truD M x) x M (evAnd r E ρ M)
theorem kAnd_ok (r : Cs) (E : EvC) (ρ : Rho) (x : D) (M : MH) : kAnd r E ρ (.ok x M) = brA (truD M x) x M (evAnd r E ρ M) := rfl
theorem kAnd_exc (r : Cs) (E : EvC) (ρ : Rho) (x0 : XV) (M : MH) : kAnd r E ρ (.exc x0 M) = .exc x0 M := rfl
theorem evAnd_1 (a : C) (E : EvC) (ρ : Rho) (M : MH) : evAnd (.cons a .nil) E ρ M = ev a E ρ M := rfl
theorem evAnd_2 (a b : C) (r : Cs) (E : EvC) (ρ : Rho) (M : MH) : evAnd (.cons a (.cons b r)) E ρ M = kAnd (.cons b r) E ρ (ev a E ρ M) := by
  simp only [evAnd, kAnd]
  cases ev a E ρ M with
  | bad => rfl
  | exc x M => rfl
  | ok x M1 =>
    simp only [Rx.bind, truR, brA]
    cases truD M1 x <;> rfl
def kAndT (r : Cs) (E : EvC) (ρ : Rho) (t : Rx Bool) : Rx Bool := t.bind fun x M => if x = true then evAndT r E ρ M else .ok false M
theorem kAndT_ok (r : Cs) (E : EvC) (ρ : Rho) (x : Bool) (M : MH) : kAndT r E ρ (.ok x M) = if x = true then evAndT r E ρ M else .ok false M := rfl
theorem kAndT_exc (r : Cs) (E : EvC) (ρ : Rho) (x0 : XV) (M : MH) : kAndT r E ρ (.exc x0 M) = .exc x0 M := rfl
theorem evAndT_1 (a : C) (E : EvC) (ρ : Rho) (M : MH) : evAndT (.cons a .nil) E ρ M = evT a E ρ M := rfl
theorem evAndT_2 (a b : C) (r : Cs) (E : EvC) (ρ : Rho) (M : MH) : evAndT (.cons a (.cons b r)) E ρ M = kAndT (.cons b r) E ρ (evT a E ρ M) := rfl
def kOr (r : Cs) (E : EvC) (ρ : Rho) (t : Rx D) : Rx D := t.bind fun x M => brO (truD M x) x M (evOr r E ρ M)
theorem kOr_ok (r : Cs) (E : EvC) (ρ : Rho) (x : D) (M : MH) : kOr r E ρ (.ok x M) = brO (truD M x) x M (evOr r E ρ M) := rfl
theorem kOr_exc (r : Cs) (E : EvC) (ρ : Rho) (x0 : XV) (M : MH) : kOr r E ρ (.exc x0 M) = .exc x0 M := rfl
theorem evOr_1 (a : C) (E : EvC) (ρ : Rho) (M : MH) : evOr (.cons a .nil) E ρ M = ev a E ρ M := rfl
theorem evOr_2 (a b : C) (r : Cs) (E : EvC) (ρ : Rho) (M : MH) : evOr (.cons a (.cons b r)) E ρ M = kOr (.cons b r) E ρ (ev a E ρ M) := by
  simp only [evOr, kOr]
  cases ev a E ρ M with
  | bad => rfl
  | exc x M => rfl
  | ok x M1 =>
    simp only [Rx.bind, truR, brO]
    cases truD M1 x <;> rfl
def kOrT (r : Cs) (E : EvC) (ρ : Rho) (t : Rx Bool) : Rx Bool := t.bind fun x M => if x = true then .ok true M else evOrT r E ρ M
theorem kOrT_ok (r : Cs) (E : EvC) (ρ : Rho) (x : Bool) (M : MH) : kOrT r E ρ (.ok x M) = if x = true then .ok true M else evOrT r E ρ M := rfl
theorem kOrT_exc (r : Cs) (E : EvC) (ρ : Rho) (x0 : XV) (M : MH) : kOrT r E ρ (.exc x0 M) = .exc x0 M := rfl
theorem evOrT_1 (a : C) (E : EvC) (ρ : Rho) (M : MH) : evOrT (.cons a .nil) E ρ M = evT a E ρ M := rfl
theorem evOrT_2 (a b : C) (r : Cs) (E : EvC) (ρ : Rho) (M : MH) : evOrT (.cons a (.cons b r)) E ρ M = kOrT (.cons b r) E ρ (evT a E ρ M) := rfl
def kCmp2 (c : CmpOp) (x : D) (t : Rx (D)) : Rx (Bool) := t.bind fun y M => tr (cmpD c x y M) M
theorem kCmp2_ok (c : CmpOp) (x : D) (y : D) (M : MH) : kCmp2 c x (.ok y M) = tr (cmpD c x y M) M := rfl
theorem kCmp2_exc (c : CmpOp) (x : D) (x0 : XV) (M : MH) : kCmp2 c x (.exc x0 M) = .exc x0 M := rfl
theorem kCmp2_bad (c : CmpOp) (x : D) : kCmp2 c x .bad = .bad := rfl
def kCmp1 (c : CmpOp) (b : C) (E : EvC) (ρ : Rho) (t : Rx (D)) : Rx (Bool) := t.bind fun x M => kCmp2 c x (ev b E ρ M)
theorem kCmp1_ok (c : CmpOp) (b : C) (E : EvC) (ρ : Rho) (x : D) (M : MH) : kCmp1 c b E ρ (.ok x M) = kCmp2 c x (ev b E ρ M) := rfl
theorem kCmp1_exc (c : CmpOp) (b : C) (E : EvC) (ρ : Rho) (x0 : XV) (M : MH) : kCmp1 c b E ρ (.exc x0 M) = .exc x0 M := rfl
theorem kCmp1_bad (c : CmpOp) (b : C) (E : EvC) (ρ : Rho) : kCmp1 c b E ρ .bad = .bad := rfl
theorem ev_cmp (c : CmpOp) (a b : C) (E : EvC) (ρ : Rho) (M : MH) : ev (.cmp c a b) E ρ M = td (kCmp1 c b E ρ (ev a E ρ M)) := by
  simp only [ev, kCmp1, td]
  cases ev a E ρ M with
  | bad => rfl
  | exc x M => rfl
  | ok x M1 =>
    simp only [Rx.bind, kCmp2]
    cases ev b E ρ M1 with
    | bad => rfl
    | exc x M => rfl
    | ok y M2 =>
      simp only [Rx.bind, optB, tr]
      all_goals cases cmpD c x y M2 <;> rfl
theorem evT_cmp (c : CmpOp) (a b : C) (E : EvC) (ρ : Rho) (M : MH) : evT (.cmp c a b) E ρ M = kCmp1 c b E ρ (ev a E ρ M) := by
  simp only [evT, kCmp1]
  cases ev a E ρ M with
  | bad => rfl
  | exc x M => rfl
  | ok x M1 =>
    simp only [Rx.bind, kCmp2]
    cases ev b E ρ M1 with
    | bad => rfl
    | exc x M => rfl
    | ok y M2 =>
      simp only [Rx.bind, optB, tr]
      all_goals cases cmpD c x y M2 <;> rfl
def kCh4 (c' : CmpOp) (y : D) (t : Rx (D)) : Rx (Bool) := t.bind fun z M => tr (cmpD c' y z M) M
theorem kCh4_ok (c' : CmpOp) (y : D) (z : D) (M : MH) : kCh4 c' y (.ok z M) = tr (cmpD c' y z M) M := rfl
theorem kCh4_exc (c' : CmpOp) (y : D) (x0 : XV) (M : MH) : kCh4 c' y (.exc x0 M) = .exc x0 M := rfl
theorem kCh4_bad (c' : CmpOp) (y : D) : kCh4 c' y .bad = .bad := rfl
def kCh3 (c' : CmpOp) (e : C) (E : EvC) (ρ : Rho) (y : D) (t : Rx Bool) : Rx Bool := t.bind fun k M => if k = true then kCh4 c' y (ev e E ρ M) else .ok false M
theorem kCh3_ok (c' : CmpOp) (e : C) (E : EvC) (ρ : Rho) (y : D) (k : Bool) (M : MH) : kCh3 c' e E ρ y (.ok k M) = if k = true then kCh4 c' y (ev e E ρ M) else .ok false M := rfl
def kCh2 (c : CmpOp) (c' : CmpOp) (e : C) (E : EvC) (ρ : Rho) (x : D) (t : Rx (D)) : Rx (Bool) := t.bind fun y M => kCh3 c' e E ρ y (tr (cmpD c x y M) M)
theorem kCh2_ok (c : CmpOp) (c' : CmpOp) (e : C) (E : EvC) (ρ : Rho) (x : D) (y : D) (M : MH) : kCh2 c c' e E ρ x (.ok y M) = kCh3 c' e E ρ y (tr (cmpD c x y M) M) := rfl
theorem kCh2_exc (c : CmpOp) (c' : CmpOp) (e : C) (E : EvC) (ρ : Rho) (x : D) (x0 : XV) (M : MH) : kCh2 c c' e E ρ x (.exc x0 M) = .exc x0 M := rfl
theorem kCh2_bad (c : CmpOp) (c' : CmpOp) (e : C) (E : EvC) (ρ : Rho) (x : D) : kCh2 c c' e E ρ x .bad = .bad := rfl
def kCh1 (c : CmpOp) (c' : CmpOp) (b : C) (e : C) (E : EvC) (ρ : Rho) (t : Rx (D)) : Rx (Bool) := t.bind fun x M => kCh2 c c' e E ρ x (ev b E ρ M)
theorem kCh1_ok (c : CmpOp) (c' : CmpOp) (b : C) (e : C) (E : EvC) (ρ : Rho) (x : D) (M : MH) : kCh1 c c' b e E ρ (.ok x M) = kCh2 c c' e E ρ x (ev b E ρ M) := rfl
theorem kCh1_exc (c : CmpOp) (c' : CmpOp) (b : C) (e : C) (E : EvC) (ρ : Rho) (x0 : XV) (M : MH) : kCh1 c c' b e E ρ (.exc x0 M) = .exc x0 M := rfl
theorem kCh1_bad (c : CmpOp) (c' : CmpOp) (b : C) (e : C) (E : EvC) (ρ : Rho) : kCh1 c c' b e E ρ .bad = .bad := rfl
theorem ev_chain (c c' : CmpOp) (a b e : C) (E : EvC) (ρ : Rho) (M : MH) : ev (.chain c c' a b e) E ρ M = td (kCh1 c c' b e E ρ (ev a E ρ M)) := by
  simp only [ev, kCh1, td]
  cases ev a E ρ M with
  | bad => rfl
  | exc x M => rfl
  | ok x M1 =>
    simp only [Rx.bind, kCh2]
    cases ev b E ρ M1 with
    | bad => rfl
    | exc x M => rfl
    | ok y M2 =>
      simp only [Rx.bind, optB, tr, kCh3]
      cases cmpD c x y M2 with
      | none => rfl
      | some k =>
        cases k with
        | false => rfl
        | true =>
          simp only [Rx.bind, if_true, kCh4]
          cases ev e E ρ M2 with
          | bad => rfl
          | exc x M => rfl
          | ok z M3 =>
            simp only [Rx.bind, tr]
            all_goals cases cmpD c' y z M3 <;> rfl
theorem evT_chain (c c' : CmpOp) (a b e : C) (E : EvC) (ρ : Rho) (M : MH) : evT (.chain c c' a b e) E ρ M = kCh1 c c' b e E ρ (ev a E ρ M) := by
  simp only [evT, kCh1]
  cases ev a E ρ M with
  | bad => rfl
  | exc x M => rfl
  | ok x M1 =>
    simp only [Rx.bind, kCh2]
    cases ev b E ρ M1 with
    | bad => rfl
    | exc x M => rfl
    | ok y M2 =>
      simp only [Rx.bind, optB, tr, kCh3]
      cases cmpD c x y M2 with
      | none => rfl
      | some k =>
        cases k with
        | false => rfl
        | true =>
          simp only [Rx.bind, if_true, kCh4]
          cases ev e E ρ M2 with
          | bad => rfl
          | exc x M => rfl
          | ok z M3 =>
            simp only [Rx.bind, tr]
            all_goals cases cmpD c' y z M3 <;> rfl
def kIfe (a b : C) (E : EvC) (ρ : Rho) (t : Rx Bool) : Rx D := t.bind fun k M => if k = true then ev a E ρ M else ev b E ρ M
theorem kIfe_ok (a b : C) (E : EvC) (ρ : Rho) (k : Bool) (M : MH) : kIfe a b E ρ (.ok k M) = if k = true then ev a E ρ M else ev b E ρ M := rfl
theorem kIfe_exc (a b : C) (E : EvC) (ρ : Rho) (x0 : XV) (M : MH) : kIfe a b E ρ (.exc x0 M) = .exc x0 M := rfl
theorem ev_ife (c a b : C) (E : EvC) (ρ : Rho) (M : MH) : ev (.ife c a b) E ρ M = kIfe a b E ρ (evT c E ρ M) := rfl
def kTup (t : Rx (List D)) : Rx D := t.bind fun ds M => if ds.length ≤ sizeLine then .ok (.tup ds) M else .bad
theorem kTup_ok (ds : List D) (M : MH) : kTup (.ok ds M) = if ds.length ≤ sizeLine then .ok (.tup ds) M else .bad := rfl
theorem kTup_exc (x0 : XV) (M : MH) : kTup (.exc x0 M) = .exc x0 M := rfl
theorem ev_tup (es : Cs) (E : EvC) (ρ : Rho) (M : MH) : ev (.tup es) E ρ M = kTup (evs es E ρ M) := rfl
def kLst (m : Bool) (t : Rx (List D)) : Rx D := t.bind fun ds M => if ds.length ≤ sizeLine then up (newL m ds M) else .bad
theorem kLst_ok (m : Bool) (ds : List D) (M : MH) : kLst m (.ok ds M) = if ds.length ≤ sizeLine then up (newL m ds M) else .bad := rfl
theorem kLst_exc (m : Bool) (x0 : XV) (M : MH) : kLst m (.exc x0 M) = .exc x0 M := rfl
theorem ev_lst (m : Bool) (es : Cs) (E : EvC) (ρ : Rho) (M : MH) : ev (.lst m es) E ρ M = kLst m (evs es E ρ M) := rfl
def kDict (ks : List Str) (t : Rx (List D)) : Rx D := t.bind fun ds M => if ks.length = ds.length ∧ ks.length ≤ 15 then .ok (.ref M.length) (M ++ [.dict ((ks.zip ds).foldl (fun acc kv => putD acc (.inr kv.1) kv.2) [])]) else .bad
theorem kDict_ok (ks : List Str) (ds : List D) (M : MH) : kDict ks (.ok ds M) = if ks.length = ds.length ∧ ks.length ≤ 15 then .ok (.ref M.length) (M ++ [.dict ((ks.zip ds).foldl (fun acc kv => putD acc (.inr kv.1) kv.2) [])]) else .bad := rfl
theorem ev_dict (ks : List Str) (es : Cs) (E : EvC) (ρ : Rho) (M : MH) : ev (.dict ks es) E ρ M = kDict ks (evs es E ρ M) := rfl
def kIdx2 (x : D) (t : Rx (D)) : Rx (D) := t.bind fun y M => up (resO M (idxD x y M))
theorem kIdx2_ok (x : D) (y : D) (M : MH) : kIdx2 x (.ok y M) = up (resO M (idxD x y M)) := rfl
theorem kIdx2_exc (x : D) (x0 : XV) (M : MH) : kIdx2 x (.exc x0 M) = .exc x0 M := rfl
theorem kIdx2_bad (x : D) : kIdx2 x .bad = .bad := rfl
def kIdx1 (b : C) (E : EvC) (ρ : Rho) (t : Rx (D)) : Rx (D) := t.bind fun x M => kIdx2 x (ev b E ρ M)
theorem kIdx1_ok (b : C) (E : EvC) (ρ : Rho) (x : D) (M : MH) : kIdx1 b E ρ (.ok x M) = kIdx2 x (ev b E ρ M) := rfl
theorem kIdx1_exc (b : C) (E : EvC) (ρ : Rho) (x0 : XV) (M : MH) : kIdx1 b E ρ (.exc x0 M) = .exc x0 M := rfl
theorem kIdx1_bad (b : C) (E : EvC) (ρ : Rho) : kIdx1 b E ρ .bad = .bad := rfl
theorem ev_idx (a : C) (b : C) (E : EvC) (ρ : Rho) (M : MH) : ev (.idx a b) E ρ M = kIdx1 b E ρ (ev a E ρ M) := rfl
def kSl3 (m : Bool) (x : D) (l : Option Int) (t : Rx (Option Int)) : Rx D := t.bind fun h M => up (sliceD m x l h M)
theorem kSl3_ok (m : Bool) (x : D) (l h : Option Int) (M : MH) : kSl3 m x l (.ok h M) = up (sliceD m x l h M) := rfl
def kSl2 (m : Bool) (x : D) (hi : Co) (E : EvC) (ρ : Rho) (t : Rx (Option Int)) : Rx D := t.bind fun l M => kSl3 m x l (evo hi E ρ M)
theorem kSl2_ok (m : Bool) (x : D) (hi : Co) (E : EvC) (ρ : Rho) (l : Option Int) (M : MH) : kSl2 m x hi E ρ (.ok l M) = kSl3 m x l (evo hi E ρ M) := rfl
def kSl1 (m : Bool) (lo : Co) (hi : Co) (E : EvC) (ρ : Rho) (t : Rx (D)) : Rx (D) := t.bind fun x M => kSl2 m x hi E ρ (evo lo E ρ M)
theorem kSl1_ok (m : Bool) (lo : Co) (hi : Co) (E : EvC) (ρ : Rho) (x : D) (M : MH) : kSl1 m lo hi E ρ (.ok x M) = kSl2 m x hi E ρ (evo lo E ρ M) := rfl
theorem kSl1_exc (m : Bool) (lo : Co) (hi : Co) (E : EvC) (ρ : Rho) (x0 : XV) (M : MH) : kSl1 m lo hi E ρ (.exc x0 M) = .exc x0 M := rfl
theorem kSl1_bad (m : Bool) (lo : Co) (hi : Co) (E : EvC) (ρ : Rho) : kSl1 m lo hi E ρ .bad = .bad := rfl
theorem ev_slice (m : Bool) (a : C) (lo : Co) (hi : Co) (E : EvC) (ρ : Rho) (M : MH) : ev (.slice m a lo hi) E ρ M = kSl1 m lo hi E ρ (ev a E ρ M) := rfl
def revD (x : D) (M : MH) : Rx D := match x with
  | .tup xs => .ok (.tup xs.reverse) M
  | _ => .bad
theorem revD_tup (xs : List D) (M : MH) : revD (.tup xs) M = .ok (.tup xs.reverse) M := rfl
def kRev  (t : Rx (D)) : Rx (D) := t.bind fun x M => revD x M
theorem kRev_ok  (x : D) (M : MH) : kRev  (.ok x M) = revD x M := rfl
theorem kRev_exc  (x0 : XV) (M : MH) : kRev  (.exc x0 M) = .exc x0 M := rfl
theorem kRev_bad  : kRev  .bad = .bad := rfl
theorem ev_revT (a : C) (E : EvC) (ρ : Rho) (M : MH) : ev (.revT a) E ρ M = kRev (ev a E ρ M) := rfl
def kCall (k : Nat) (E : EvC) (t : Rx (List D)) : Rx D := t.bind fun ds M => E.cl k ds none M
theorem kCall_ok (k : Nat) (E : EvC) (ds : List D) (M : MH) : kCall k E (.ok ds M) = E.cl k ds none M := rfl
theorem kCall_exc (k : Nat) (E : EvC) (x0 : XV) (M : MH) : kCall k E (.exc x0 M) = .exc x0 M := rfl
theorem ev_call (k : Nat) (as : Cs) (E : EvC) (ρ : Rho) (M : MH) : ev (.call k as) E ρ M = kCall k E (evs as E ρ M) := rfl
def kCallV (f : Option (Option D)) (E : EvC) (t : Rx (List D)) : Rx D := match f with
  | some (some (.fn k)) => kCall k E t
  | _ => .bad
theorem kCallV_ok (k : Nat) (E : EvC) (t : Rx (List D)) : kCallV (some (some (.fn k))) E t = kCall k E t := rfl
theorem ev_callV (i : Nat) (as : Cs) (E : EvC) (ρ : Rho) (M : MH) : ev (.callV i as) E ρ M = kCallV ρ[i]? E (evs as E ρ M) := by
  simp only [ev]
  cases h : ρ[i]? with
  | none => rfl
  | some o =>
    cases o with
    | none => rfl
    | some d => cases d <;> rfl
def kCallW (k : Nat) (perm : List Nat) (E : EvC) (t : Rx (List D)) : Rx D := t.bind fun ds M => match pickAll ds perm with
  | some es => E.cl k es none M
  | none => .bad
theorem kCallW_ok (k : Nat) (perm : List Nat) (E : EvC) (ds : List D) (M : MH) : kCallW k perm E (.ok ds M) = match pickAll ds perm with
  | some es => E.cl k es none M
  | none => .bad := rfl
theorem ev_callW (k : Nat) (ks : List Str) (perm : List Nat) (as : Cs) (E : EvC) (ρ : Rho) (M : MH) : ev (.callW k ks perm as) E ρ M = kCallW k perm E (evs as E ρ M) := rfl
def kBi (m : Bool) (f : String) (t : Rx (List D)) : Rx D := t.bind fun ds M => up (biD m f ds M)
theorem kBi_ok (m : Bool) (f : String) (ds : List D) (M : MH) : kBi m f (.ok ds M) = up (biD m f ds M) := rfl
theorem kBi_exc (m : Bool) (f : String) (x0 : XV) (M : MH) : kBi m f (.exc x0 M) = .exc x0 M := rfl
theorem ev_bi (m : Bool) (f : String) (as : Cs) (E : EvC) (ρ : Rho) (M : MH) : ev (.bi m f as) E ρ M = kBi m f (evs as E ρ M) := rfl
def kMeth2 (f : String) (x : D) (t : Rx (List D)) : Rx D := t.bind fun ds M => up (mtD f x ds M)
theorem kMeth2_ok (f : String) (x : D) (ds : List D) (M : MH) : kMeth2 f x (.ok ds M) = up (mtD f x ds M) := rfl
theorem kMeth2_exc (f : String) (x : D) (x0 : XV) (M : MH) : kMeth2 f x (.exc x0 M) = .exc x0 M := rfl
def kMeth1 (f : String) (as : Cs) (E : EvC) (ρ : Rho) (t : Rx (D)) : Rx (D) := t.bind fun x M => if mtKind f x M = true then kMeth2 f x (evs as E ρ M) else .bad
theorem kMeth1_ok (f : String) (as : Cs) (E : EvC) (ρ : Rho) (x : D) (M : MH) : kMeth1 f as E ρ (.ok x M) = if mtKind f x M = true then kMeth2 f x (evs as E ρ M) else .bad := rfl
theorem kMeth1_exc (f : String) (as : Cs) (E : EvC) (ρ : Rho) (x0 : XV) (M : MH) : kMeth1 f as E ρ (.exc x0 M) = .exc x0 M := rfl
theorem kMeth1_bad (f : String) (as : Cs) (E : EvC) (ρ : Rho) : kMeth1 f as E ρ .bad = .bad := rfl
theorem ev_meth (f : String) (a : C) (as : Cs) (E : EvC) (ρ : Rho) (M : MH) : ev (.meth f a as) E ρ M = kMeth1 f as E ρ (ev a E ρ M) := rfl
def kComp (m : Bool) (elt : C) (tg : Tg) (ifs : Co) (E : EvC) (ρ : Rho) (t : Rx Src) : Rx D := t.bind fun src M1 => (compLoop src (fun d => bindT tg d (wipeR ρ tg.own)) (evIf ifs E.bare) (ev elt E.bare) (srcLen src) 0 [] M1).bind fun ds M2 => up (newL m ds M2)
def kCompS (m : Bool) (elt : C) (tg : Tg) (ifs : Co) (E : EvC) (ρ : Rho) (src : Src) (M1 : MH) : Rx D := (compLoop src (fun d => bindT tg d (wipeR ρ tg.own)) (evIf ifs E.bare) (ev elt E.bare) (srcLen src) 0 [] M1).bind fun ds M2 => up (newL m ds M2)
theorem kComp_ok (m : Bool) (elt : C) (tg : Tg) (ifs : Co) (E : EvC) (ρ : Rho) (src : Src) (M : MH) : kComp m elt tg ifs E ρ (.ok src M) = kCompS m elt tg ifs E ρ src M := rfl
theorem ev_comp (m : Bool) (elt : C) (tg : Tg) (it : Mj.It) (ifs : Co) (E : EvC) (ρ : Rho) (M : MH) : ev (.comp m elt tg it ifs) E ρ M = kComp m elt tg ifs E ρ (evI it E ρ M) := rfl
def kLam (t : Rx D) : Rx D := noX t
theorem kLam_ok (d : D) (M : MH) : kLam (.ok d M) = .ok d M := rfl
def lamA (b : C) (E : EvC) (ρ : Rho) : Ask := fun M => ev b E.bare ρ M
theorem ev_lamcall (k : Nat) (b : C) (E : EvC) (ρ : Rho) (M : MH) : ev (.lamcall k b) E ρ M = kLam (E.cl k [] (some (lamA b E ρ)) M) := rfl
def lzD (m : Bool) (x y : D) (M : MH) : Rx D := match x, y with
  | .tup xs, .tup ys => up (newL m (List.zipWith (fun a b => .tup [a, b]) xs ys) M)
  | _, _ => .bad
theorem lzD_ok (m : Bool) (xs ys : List D) (M : MH) : lzD m (.tup xs) (.tup ys) M = up (newL m (List.zipWith (fun a b => .tup [a, b]) xs ys) M) := rfl
def kLz2 (m : Bool) (x : D) (t : Rx (D)) : Rx (D) := t.bind fun y M => lzD m x y M
theorem kLz2_ok (m : Bool) (x : D) (y : D) (M : MH) : kLz2 m x (.ok y M) = lzD m x y M := rfl
theorem kLz2_exc (m : Bool) (x : D) (x0 : XV) (M : MH) : kLz2 m x (.exc x0 M) = .exc x0 M := rfl
theorem kLz2_bad (m : Bool) (x : D) : kLz2 m x .bad = .bad := rfl
def kLz1 (m : Bool) (b : C) (E : EvC) (ρ : Rho) (t : Rx (D)) : Rx (D) := t.bind fun x M => kLz2 m x (ev b E ρ M)
theorem kLz1_ok (m : Bool) (b : C) (E : EvC) (ρ : Rho) (x : D) (M : MH) : kLz1 m b E ρ (.ok x M) = kLz2 m x (ev b E ρ M) := rfl
theorem kLz1_exc (m : Bool) (b : C) (E : EvC) (ρ : Rho) (x0 : XV) (M : MH) : kLz1 m b E ρ (.exc x0 M) = .exc x0 M := rfl
theorem kLz1_bad (m : Bool) (b : C) (E : EvC) (ρ : Rho) : kLz1 m b E ρ .bad = .bad := rfl
theorem ev_listZip (m : Bool) (a : C) (b : C) (E : EvC) (ρ : Rho) (M : MH) : ev (.listZip m a b) E ρ M = kLz1 m b E ρ (ev a E ρ M) := rfl
theorem ev_ask (E : EvC) (ρ : Rho) (M : MH) : ev .ask E ρ M = E.ask M := rfl
def isX (o : Option XV) (cs : List Nat) (sub : Nat → Nat → Bool) (M : MH) : Rx Bool := match o with
  | some x => .ok (cs.any (sub x.k)) M
  | none => .bad
theorem isX_ok (x : XV) (cs : List Nat) (sub : Nat → Nat → Bool) (M : MH) : isX (some x) cs sub M = .ok (cs.any (sub x.k)) M := rfl
theorem ev_isE (t : Bool) (cs : List Nat) (E : EvC) (ρ : Rho) (M : MH) : ev (.isE t cs) E ρ M = td (isX E.cur cs E.sub M) := by
  simp only [ev, isX]
  cases E.cur <;> rfl
theorem evT_isE (t : Bool) (cs : List Nat) (E : EvC) (ρ : Rho) (M : MH) : evT (.isE t cs) E ρ M = isX E.cur cs E.sub M := by
  simp only [evT, isX]
  all_goals cases E.cur <;> rfl
def fldX (o : Option XV) (f : Str) (M : MH) : Rx D := match o with
  | some x => up (resO M (lookF x.fs f))
  | none => .bad
theorem fldX_ok (x : XV) (f : Str) (M : MH) : fldX (some x) f M = up (resO M (lookF x.fs f)) := rfl
theorem ev_fldE (f : Str) (E : EvC) (ρ : Rho) (M : MH) : ev (.fldE f) E ρ M = fldX E.cur f M := by
  simp only [ev, fldX]
  all_goals cases E.cur <;> rfl
def stD (m : Bool) (n : Nat) (x : D) (l : Option Int) (M : MH) : Rx D := match getL M x, l with
  | some xs, .some i => if n ≠ 0 then up (newL m (pickD xs (some i) none (some (n : Int))) M) else .bad
  | _, _ => .bad
theorem evT_not (a : C) (E : EvC) (ρ : Rho) (M : MH) : evT (.not a) E ρ M = tnot (evT a E ρ M) := rfl
theorem evT_and (as : Cs) (E : EvC) (ρ : Rho) (M : MH) : evT (.and as) E ρ M = evAndT as E ρ M := rfl
theorem evT_or (as : Cs) (E : EvC) (ρ : Rho) (M : MH) : evT (.or as) E ρ M = evOrT as E ρ M := rfl
theorem evT_var (i : Nat) (E : EvC) (ρ : Rho) (M : MH) : evT (.var i) E ρ M = tru1 (vr ρ[i]? M) := by
  simp only [evT]
  cases h : ρ[i]? with
  | none => rfl
  | some o => cases o <;> rfl
theorem evT_call (k : Nat) (as : Cs) (E : EvC) (ρ : Rho) (M : MH) : evT (.call k as) E ρ M = tru1 (kCall k E (evs as E ρ M)) := rfl
theorem evT_callV (i : Nat) (as : Cs) (E : EvC) (ρ : Rho) (M : MH) : evT (.callV i as) E ρ M = tru1 (kCallV ρ[i]? E (evs as E ρ M)) := by
  simp only [evT]
  cases h : ρ[i]? with
  | none => rfl
  | some o =>
    cases o with
    | none => rfl
    | some d => cases d <;> rfl
theorem evT_bi (m : Bool) (f : String) (as : Cs) (E : EvC) (ρ : Rho) (M : MH) : evT (.bi m f as) E ρ M = tru1 (kBi m f (evs as E ρ M)) := rfl
theorem evT_idx (a b : C) (E : EvC) (ρ : Rho) (M : MH) : evT (.idx a b) E ρ M = tru1 (kIdx1 b E ρ (ev a E ρ M)) := rfl
def kEs2 (d : D) (t : Rx (List D)) : Rx (List D) := t.bind fun ds M => .ok (d :: ds) M
theorem kEs2_ok (d : D) (ds : List D) (M : MH) : kEs2 d (.ok ds M) = .ok (d :: ds) M := rfl
theorem kEs2_exc (d : D) (x0 : XV) (M : MH) : kEs2 d (.exc x0 M) = .exc x0 M := rfl
def kEs1 (r : Cs) (E : EvC) (ρ : Rho) (t : Rx D) : Rx (List D) := t.bind fun d M => kEs2 d (evs r E ρ M)
theorem kEs1_ok (r : Cs) (E : EvC) (ρ : Rho) (d : D) (M : MH) : kEs1 r E ρ (.ok d M) = kEs2 d (evs r E ρ M) := rfl
theorem kEs1_exc (r : Cs) (E : EvC) (ρ : Rho) (x0 : XV) (M : MH) : kEs1 r E ρ (.exc x0 M) = .exc x0 M := rfl
theorem evs_nil (E : EvC) (ρ : Rho) (M : MH) : evs .nil E ρ M = .ok [] M := rfl
theorem evs_cons (c : C) (r : Cs) (E : EvC) (ρ : Rho) (M : MH) : evs (.cons c r) E ρ M = kEs1 r E ρ (ev c E ρ M) := rfl
def intO (d : D) (M : MH) : Rx (Option Int) := match d with
  | .int i => .ok (some i) M
  | _ => .bad
theorem intO_ok (i : Int) (M : MH) : intO (.int i) M = .ok (some i) M := rfl
def kO (t : Rx D) : Rx (Option Int) := t.bind fun d M => intO d M
theorem kO_ok (d : D) (M : MH) : kO (.ok d M) = intO d M := rfl
theorem evo_none (E : EvC) (ρ : Rho) (M : MH) : evo .none E ρ M = .ok none M := rfl
theorem evo_some (c : C) (E : EvC) (ρ : Rho) (M : MH) : evo (.some c) E ρ M = kO (ev c E ρ M) := rfl
theorem evIf_none (E : EvC) (ρ : Rho) (M : MH) : evIf .none E ρ M = .ok true M := rfl
theorem evIf_some (c : C) (E : EvC) (ρ : Rho) (M : MH) : evIf (.some c) E ρ M = evT c E ρ M := rfl
def srcX (o : Option Src) (M : MH) : Rx Src := match o with
  | some s => .ok s M
  | none => .bad
theorem srcX_ok (s : Src) (M : MH) : srcX (some s) M = .ok s M := rfl
def kSeq (t : Rx D) : Rx Src := t.bind fun d M => srcX (srcOf M d) M
theorem kSeq_ok (d : D) (M : MH) : kSeq (.ok d M) = srcX (srcOf M d) M := rfl
theorem evI_seq (c : C) (E : EvC) (ρ : Rho) (M : MH) : evI (.seq c) E ρ M = kSeq (ev c E ρ M) := rfl
def rng1D (d : D) (M : MH) : Rx Src := match d with
  | .int j => if -(2 ^ 62) ≤ j ∧ j ≤ 10000 then .ok (.vals ((List.range j.toNat).map fun (k : Nat) => D.int (0 + (k : Int)))) M else .bad
  | _ => .bad
theorem rng1D_ok (j : Int) (M : MH) (h : 0 ≤ j ∧ j ≤ 10000) : rng1D (.int j) M = .ok (.vals ((List.range j.toNat).map fun (k : Nat) => D.int (k : Int))) M := by
  simp only [rng1D, show -(2 ^ 62) ≤ j ∧ j ≤ 10000 from ⟨by omega, h.2⟩, if_true, Int.zero_add, and_self]
def kRng1 (t : Rx D) : Rx Src := t.bind fun d M => rng1D d M
theorem kRng1_ok (d : D) (M : MH) : kRng1 (.ok d M) = rng1D d M := rfl
theorem evI_rng1 (c : C) (E : EvC) (ρ : Rho) (M : MH) : evI (.rng1 c) E ρ M = kRng1 (ev c E ρ M) := rfl
def rng2D (x y : D) (M : MH) : Rx Src := match x, y with
  | .int i, .int j => if (-10000 ≤ i ∧ i ≤ 10000) ∧ (-10000 ≤ j ∧ j ≤ 10000) then .ok (.vals ((List.range (j - i).toNat).map fun (k : Nat) => D.int (i + (k : Int)))) M else .bad
  | _, _ => .bad
theorem rng2D_ok (i j : Int) (M : MH) (h : (-10000 ≤ i ∧ i ≤ 10000) ∧ (-10000 ≤ j ∧ j ≤ 10000)) : rng2D (.int i) (.int j) M = .ok (.vals ((List.range (j - i).toNat).map fun (k : Nat) => D.int (i + (k : Int)))) M := by
  simp only [rng2D, h, if_true, and_self]
def kRng22 (x : D) (t : Rx D) : Rx Src := t.bind fun d M => rng2D x d M
theorem kRng22_ok (x d : D) (M : MH) : kRng22 x (.ok d M) = rng2D x d M := rfl
def kRng21 (b : C) (E : EvC) (ρ : Rho) (t : Rx D) : Rx Src := t.bind fun x M => kRng22 x (ev b E ρ M)
theorem kRng21_ok (b : C) (E : EvC) (ρ : Rho) (x : D) (M : MH) : kRng21 b E ρ (.ok x M) = kRng22 x (ev b E ρ M) := rfl
theorem evI_rng2 (a b : C) (E : EvC) (ρ : Rho) (M : MH) : evI (.rng2 a b) E ρ M = kRng21 b E ρ (ev a E ρ M) := rfl
def zipD (x y : D) (M : MH) : Rx Src := match x, y with
  | .lst xs, .lst ys => .ok (.zipL xs ys) M
  | .tup xs, .tup ys => .ok (.zipL xs ys) M
  | _, _ => .bad
theorem zipD_tup (xs ys : List D) (M : MH) : zipD (.tup xs) (.tup ys) M = .ok (.zipL xs ys) M := rfl
theorem zipD_lst (xs ys : List D) (M : MH) : zipD (.lst xs) (.lst ys) M = .ok (.zipL xs ys) M := rfl
def kZip2 (x : D) (t : Rx D) : Rx Src := t.bind fun d M => zipD x d M
theorem kZip2_ok (x d : D) (M : MH) : kZip2 x (.ok d M) = zipD x d M := rfl
def kZip1 (b : C) (E : EvC) (ρ : Rho) (t : Rx D) : Rx Src := t.bind fun x M => kZip2 x (ev b E ρ M)
theorem kZip1_ok (b : C) (E : EvC) (ρ : Rho) (x : D) (M : MH) : kZip1 b E ρ (.ok x M) = kZip2 x (ev b E ρ M) := rfl
theorem evI_zip (a b : C) (E : EvC) (ρ : Rho) (M : MH) : evI (.zip a b) E ρ M = kZip1 b E ρ (ev a E ρ M) := rfl
def enumD (x : D) (M : MH) : Rx Src := match x with
  | .lst xs => .ok (.enuL xs) M
  | _ => .bad
theorem enumD_lst (xs : List D) (M : MH) : enumD (.lst xs) M = .ok (.enuL xs) M := rfl
def kEnum (t : Rx D) : Rx Src := t.bind fun d M => enumD d M
theorem kEnum_ok (d : D) (M : MH) : kEnum (.ok d M) = enumD d M := rfl
theorem evI_enum (a : C) (E : EvC) (ρ : Rho) (M : MH) : evI (.enum a) E ρ M = kEnum (ev a E ρ M) := rfl
def kSet (i : Nat) (ρ : Rho) (t : Rx (D)) : Res Fl := liftS ρ t fun d M => .ok (.nx (ρ.set i (some d))) M
theorem kSet_ok (i : Nat) (ρ : Rho) (d : D) (M : MH) : kSet i ρ (.ok d M) = .ok (.nx (ρ.set i (some d))) M := rfl
theorem kSet_exc (i : Nat) (ρ : Rho) (x0 : XV) (M : MH) : kSet i ρ (.exc x0 M) = .ok (.xc x0 ρ) M := rfl
theorem exS_set (i : Nat) (a : C) (E : EvC) (ρ : Rho) (M : MH) : exS (.set i a) E ρ M = kSet i ρ (ev a E ρ M) := rfl
def kPar2 (i j : Nat) (x : D) (ρ : Rho) (t : Rx (D)) : Res Fl := liftS ρ t fun y M => .ok (.nx ((ρ.set i (some x)).set j (some y))) M
theorem kPar2_ok (i j : Nat) (x : D) (ρ : Rho) (y : D) (M : MH) : kPar2 i j x ρ (.ok y M) = .ok (.nx ((ρ.set i (some x)).set j (some y))) M := rfl
theorem kPar2_exc (i j : Nat) (x : D) (ρ : Rho) (x0 : XV) (M : MH) : kPar2 i j x ρ (.exc x0 M) = .ok (.xc x0 ρ) M := rfl
def kPar1 (i j : Nat) (b : C) (E : EvC) (ρ : Rho) (t : Rx (D)) : Res Fl := liftS ρ t fun x M => kPar2 i j x ρ (ev b E ρ M)
theorem kPar1_ok (i j : Nat) (b : C) (E : EvC) (ρ : Rho) (x : D) (M : MH) : kPar1 i j b E ρ (.ok x M) = kPar2 i j x ρ (ev b E ρ M) := rfl
theorem kPar1_exc (i j : Nat) (b : C) (E : EvC) (ρ : Rho) (x0 : XV) (M : MH) : kPar1 i j b E ρ (.exc x0 M) = .ok (.xc x0 ρ) M := rfl
theorem exS_par (i j : Nat) (a b : C) (E : EvC) (ρ : Rho) (M : MH) : exS (.par i j a b) E ρ M = kPar1 i j b E ρ (ev a E ρ M) := rfl
def bdR (o : Option Rho) (M : MH) : Res Fl := match o with
  | some ρ => .ok (.nx ρ) M
  | none => .bad
theorem bdR_ok (ρ : Rho) (M : MH) : bdR (some ρ) M = .ok (.nx ρ) M := rfl
def kUnp (tg : Tg) (ρ : Rho) (t : Rx (D)) : Res Fl := liftS ρ t fun d M => bdR (bindT tg d ρ) M
theorem kUnp_ok (tg : Tg) (ρ : Rho) (d : D) (M : MH) : kUnp tg ρ (.ok d M) = bdR (bindT tg d ρ) M := rfl
theorem kUnp_exc (tg : Tg) (ρ : Rho) (x0 : XV) (M : MH) : kUnp tg ρ (.exc x0 M) = .ok (.xc x0 ρ) M := rfl
theorem exS_unp (tg : Tg) (a : C) (E : EvC) (ρ : Rho) (M : MH) : exS (.unp tg a) E ρ M = kUnp tg ρ (ev a E ρ M) := rfl
def putM (x : D) (q : Str) (v : D) (ρ : Rho) (M : MH) : Res Fl := match x with
  | .ref n => (match M[n]? with
    | some (.dict kvs) => if kvs.length < 1000 then .ok (.nx ρ) (M.set n (.dict (putD kvs (.inr q) v))) else .bad
    | _ => .bad)
  | _ => .bad
def kIx2 (q : Str) (v : D) (ρ : Rho) (t : Rx (D)) : Res Fl := liftS ρ t fun x M => putM x q v ρ M
theorem kIx2_ok (q : Str) (v : D) (ρ : Rho) (x : D) (M : MH) : kIx2 q v ρ (.ok x M) = putM x q v ρ M := rfl
theorem kIx2_exc (q : Str) (v : D) (ρ : Rho) (x0 : XV) (M : MH) : kIx2 q v ρ (.exc x0 M) = .ok (.xc x0 ρ) M := rfl
def kIx1 (a : C) (q : Str) (E : EvC) (ρ : Rho) (t : Rx (D)) : Res Fl := liftS ρ t fun v M => kIx2 q v ρ (ev a E ρ M)
theorem kIx1_ok (a : C) (q : Str) (E : EvC) (ρ : Rho) (v : D) (M : MH) : kIx1 a q E ρ (.ok v M) = kIx2 q v ρ (ev a E ρ M) := rfl
theorem kIx1_exc (a : C) (q : Str) (E : EvC) (ρ : Rho) (x0 : XV) (M : MH) : kIx1 a q E ρ (.exc x0 M) = .ok (.xc x0 ρ) M := rfl
theorem exS_setIx (a : C) (q : Str) (e : C) (E : EvC) (ρ : Rho) (M : MH) : exS (.setIx a q e) E ρ M = kIx1 a q E ρ (ev e E ρ M) := rfl
def kExp  (ρ : Rho) (t : Rx (D)) : Res Fl := liftS ρ t fun d M => .ok (.nx ρ) M
theorem kExp_ok  (ρ : Rho) (d : D) (M : MH) : kExp  ρ (.ok d M) = .ok (.nx ρ) M := rfl
theorem kExp_exc  (ρ : Rho) (x0 : XV) (M : MH) : kExp  ρ (.exc x0 M) = .ok (.xc x0 ρ) M := rfl
theorem exS_expr (a : C) (E : EvC) (ρ : Rho) (M : MH) : exS (.expr a) E ρ M = kExp ρ (ev a E ρ M) := rfl
def kRet  (ρ : Rho) (t : Rx (D)) : Res Fl := liftS ρ t fun d M => .ok (.rt d) M
theorem kRet_ok  (ρ : Rho) (d : D) (M : MH) : kRet  ρ (.ok d M) = .ok (.rt d) M := rfl
theorem kRet_exc  (ρ : Rho) (x0 : XV) (M : MH) : kRet  ρ (.exc x0 M) = .ok (.xc x0 ρ) M := rfl
theorem exS_ret (a : C) (E : EvC) (ρ : Rho) (M : MH) : exS (.ret a) E ρ M = kRet ρ (ev a E ρ M) := rfl
def kIfs (a b : Ss) (E : EvC) (ρ : Rho) (t : Rx (Bool)) : Res Fl := liftS ρ t fun k M => if k = true then exSs a E ρ M else exSs b E ρ M
theorem kIfs_ok (a b : Ss) (E : EvC) (ρ : Rho) (k : Bool) (M : MH) : kIfs a b E ρ (.ok k M) = if k = true then exSs a E ρ M else exSs b E ρ M := rfl
theorem kIfs_exc (a b : Ss) (E : EvC) (ρ : Rho) (x0 : XV) (M : MH) : kIfs a b E ρ (.exc x0 M) = .ok (.xc x0 ρ) M := rfl
theorem exS_ifs (c : C) (a b : Ss) (E : EvC) (ρ : Rho) (M : MH) : exS (.ifs c a b) E ρ M = kIfs a b E ρ (evT c E ρ M) := rfl
def kForS (tg : Tg) (b : Ss) (E : EvC) (ρ : Rho) (src : Src) (M : MH) : Res Fl := forLoop src (bindT tg) (exSs b E) (srcLen src) 0 ρ M
def kFor (tg : Tg) (b : Ss) (E : EvC) (ρ : Rho) (t : Rx (Src)) : Res Fl := liftS ρ t fun src M => kForS tg b E ρ src M
theorem kFor_ok (tg : Tg) (b : Ss) (E : EvC) (ρ : Rho) (src : Src) (M : MH) : kFor tg b E ρ (.ok src M) = kForS tg b E ρ src M := rfl
theorem kFor_exc (tg : Tg) (b : Ss) (E : EvC) (ρ : Rho) (x0 : XV) (M : MH) : kFor tg b E ρ (.exc x0 M) = .ok (.xc x0 ρ) M := rfl
theorem exS_for (tg : Tg) (it : Mj.It) (b : Ss) (E : EvC) (ρ : Rho) (M : MH) : exS (.for_ tg it b) E ρ M = kFor tg b E ρ (evI it E ρ M) := rfl
def kRaise (k : Nat) (ps : List Str) (ρ : Rho) (t : Rx (List D)) : Res Fl := liftS ρ t fun ds M => if ds.length = ps.length then .ok (.xc ⟨k, (ps.zip ds).reverse⟩ ρ) M else .bad
theorem kRaise_ok (k : Nat) (ps : List Str) (ρ : Rho) (ds : List D) (M : MH) : kRaise k ps ρ (.ok ds M) = if ds.length = ps.length then .ok (.xc ⟨k, (ps.zip ds).reverse⟩ ρ) M else .bad := rfl
theorem kRaise_exc (k : Nat) (ps : List Str) (ρ : Rho) (x0 : XV) (M : MH) : kRaise k ps ρ (.exc x0 M) = .ok (.xc x0 ρ) M := rfl
theorem exS_raise (k : Nat) (ps : List Str) (as : Cs) (E : EvC) (ρ : Rho) (M : MH) : exS (.raise k ps as) E ρ M = kRaise k ps ρ (evs as E ρ M) := rfl
def kTryE (i : Nat) (t : Res Fl) : Res Fl := t.bind fun f M => match f with
  | .nx ρ => .ok (.nx (ρ.set i none)) M
  | .rt d => .ok (.rt d) M
  | .xc _ _ => .bad
theorem kTryE_nx (i : Nat) (ρ : Rho) (M : MH) : kTryE i (.ok (.nx ρ) M) = .ok (.nx (ρ.set i none)) M := rfl
theorem kTryE_rt (i : Nat) (d : D) (M : MH) : kTryE i (.ok (.rt d) M) = .ok (.rt d) M := rfl
def kTry (c i : Nat) (s : Ss) (E : EvC) (t : Res Fl) : Res Fl := t.bind fun f M => match f with
  | .xc x ρ1 => if E.sub x.k c = true then (if i < ρ1.length then kTryE i (exSs s { E with ask := noAsk, cur := some x } (ρ1.set i none) M) else .bad) else .ok (.xc x ρ1) M
  | f => .ok f M
theorem kTry_nx (c i : Nat) (s : Ss) (E : EvC) (ρ : Rho) (M : MH) : kTry c i s E (.ok (.nx ρ) M) = .ok (.nx ρ) M := rfl
theorem kTry_rt (c i : Nat) (s : Ss) (E : EvC) (d : D) (M : MH) : kTry c i s E (.ok (.rt d) M) = .ok (.rt d) M := rfl
theorem kTry_xc (c i : Nat) (s : Ss) (cl : Calls) (a : Ask) (u : Option XV) (sb : Nat → Nat → Bool) (x : XV) (ρ1 : Rho) (M : MH) : kTry c i s ⟨cl, a, u, sb⟩ (.ok (.xc x ρ1) M) = if sb x.k c = true then (if i < ρ1.length then kTryE i (exSs s ⟨cl, noAsk, some x, sb⟩ (ρ1.set i none) M) else .bad) else .ok (.xc x ρ1) M := rfl
theorem exS_tryAs (c i : Nat) (b s : Ss) (E : EvC) (ρ : Rho) (M : MH) : exS (.tryAs c i b s) E ρ M = kTry c i s E (exSs b E ρ M) := by
  simp only [exS, kTry]
  cases exSs b E ρ M with
  | bad => rfl
  | ok f M1 =>
    cases f with
    | nx ρ1 => rfl
    | rt d => rfl
    | xc x ρ1 =>
      simp only [Res.bind, kTryE]
      all_goals
        split
        · split
          · cases exSs s { E with ask := noAsk, cur := some x } (ρ1.set i none) M1 with
            | bad => rfl
            | ok f2 M2 => cases f2 <;> rfl
          · rfl
        · rfl
def kTryO (c : Nat) (s : Ss) (E : EvC) (t : Res Fl) : Res Fl := t.bind fun f M => match f with
  | .xc x ρ1 => if E.sub x.k c = true then kTryE 100000 (exSs s { E with ask := noAsk, cur := none } ρ1 M) else .ok (.xc x ρ1) M
  | f => .ok f M
def kSt (r : Ss) (E : EvC) (t : Res Fl) : Res Fl := t.bind fun f M => match f with
  | .nx ρ1 => exSs r E ρ1 M
  | f => .ok f M
theorem kSt_nx (r : Ss) (E : EvC) (ρ : Rho) (M : MH) : kSt r E (.ok (.nx ρ) M) = exSs r E ρ M := rfl
theorem kSt_rt (r : Ss) (E : EvC) (d : D) (M : MH) : kSt r E (.ok (.rt d) M) = .ok (.rt d) M := rfl
theorem kSt_xc (r : Ss) (E : EvC) (x : XV) (ρ : Rho) (M : MH) : kSt r E (.ok (.xc x ρ) M) = .ok (.xc x ρ) M := rfl
theorem exSs_nil (E : EvC) (ρ : Rho) (M : MH) : exSs .nil E ρ M = .ok (.nx ρ) M := rfl
theorem exSs_cons (s : S) (r : Ss) (E : EvC) (ρ : Rho) (M : MH) : exSs (.cons s r) E ρ M = kSt r E (exS s E ρ M) := rfl
theorem fin_nx (ρ : Rho) (M : MH) : Mw.fin (.ok (.nx ρ) M) = .ok .non M := rfl
theorem fin_rt (d : D) (M : MH) : Mw.fin (.ok (.rt d) M) = .ok d M := rfl
theorem fin_xc (x : XV) (ρ : Rho) (M : MH) : Mw.fin (.ok (.xc x ρ) M) = .exc x M := rfl
theorem fin_ite {p : Prop} [Decidable p] (a b : Res Fl) : Mw.fin (if p then a else b) = if p then Mw.fin a else Mw.fin b := by split <;> rfl
theorem kSt_ite {p : Prop} [Decidable p] (r : Ss) (E : EvC) (a b : Res Fl) : kSt r E (if p then a else b) = if p then kSt r E a else kSt r E b := by split <;> rfl
theorem kRet_ite {p : Prop} [Decidable p] (ρ : Rho) (a b : Rx D) : kRet ρ (if p then a else b) = if p then kRet ρ a else kRet ρ b := by split <;> rfl
theorem kSet_ite {p : Prop} [Decidable p] (i : Nat) (ρ : Rho) (a b : Rx D) : kSet i ρ (if p then a else b) = if p then kSet i ρ a else kSet i ρ b := by split <;> rfl
theorem ite_and (k b : Bool) (M : MH) : (if k = true then Rx.ok b M else .ok false M) = .ok (k && b) M := by cases k <;> rfl
theorem ite_or (k b : Bool) (M : MH) : (if k = true then Rx.ok true M else .ok b M) = .ok (k || b) M := by cases k <;> rfl
theorem ite_andD (k b : Bool) (M : MH) : (if k = true then Rx.ok (D.bl b) M else .ok (.bl k) M) = .ok (.bl (k && b)) M := by cases k <;> rfl
theorem ite_orD (k b : Bool) (M : MH) : (if k = true then Rx.ok (D.bl k) M else .ok (.bl b) M) = .ok (.bl (k || b)) M := by cases k <;> rfl
theorem bare_mk (cl : Calls) (a : Ask) (c : Option XV) (s : Nat → Nat → Bool) : EvC.bare ⟨cl, a, c, s⟩ = ⟨cl, noAsk, none, s⟩ := rfl
theorem lt_size (n : Nat) (h : n ≤ 10000) : n ≤ sizeLine := Nat.le_trans h (by decide)
theorem sz_0 : (0 ≤ sizeLine) = True := eq_true (by decide)
theorem sz_1 : (1 ≤ sizeLine) = True := eq_true (by decide)
theorem sz_2 : (2 ≤ sizeLine) = True := eq_true (by decide)
theorem sz_3 : (3 ≤ sizeLine) = True := eq_true (by decide)
theorem sz_4 : (4 ≤ sizeLine) = True := eq_true (by decide)
theorem sz_5 : (5 ≤ sizeLine) = True := eq_true (by decide)
theorem sz_6 : (6 ≤ sizeLine) = True := eq_true (by decide)
theorem sz_7 : (7 ≤ sizeLine) = True := eq_true (by decide)
theorem sz_8 : (8 ≤ sizeLine) = True := eq_true (by decide)
theorem sz_9 : (9 ≤ sizeLine) = True := eq_true (by decide)
theorem sz_10 : (10 ≤ sizeLine) = True := eq_true (by decide)
theorem sz_11 : (11 ≤ sizeLine) = True := eq_true (by decide)
theorem sz_12 : (12 ≤ sizeLine) = True := eq_true (by decide)
end Mq
/-! Mq2: more equations on data; loops and comprehensions behind the frames. -/
namespace Mq
open PySem PySem.Spec PyProof.Rows L2 Mj Mw
section
variable {T : Nat → Option Fn} {sub : Nat → Nat → Bool} {n k : Nat} {as : List D} {M : MH} {f : Fn} {ρ : Rho} {a : Ask}
theorem ca_any (hT : T k = some f) (ha : f.ask = true) (hs : startOf f as = some ρ) : callN T sub (n + 1) k as (some a) M = Mw.fin (exSs f.body ⟨callN T sub n, a, none, sub⟩ ρ M) := by
  simp only [callN, hT, ha, runFn, hs]
  cases exSs f.body ⟨callN T sub n, a, none, sub⟩ ρ M with
  | bad => rfl
  | ok o M1 => cases o <;> rfl
end
theorem start_star {np ns : Nat} {b : Ss} {pre as : List D} (h : pre.length = np) (hl : as.length ≤ 900) (hp : np ≤ 50) : startOf ⟨np, ns, b, true, false⟩ (pre ++ as) = some (pre.map some ++ [some (.tup as)] ++ List.replicate (ns - (np + 1)) none) := by
  subst h
  unfold startOf
  rw [if_neg (show ¬ (false = true) by decide), if_pos rfl, if_pos (by simp only [List.length_append]; omega)]
  simp
/-! ### tests of kinds -/
section
variable (M : MH) (b : Bool) (i : Int) (x : Str) (xs : List D)
theorem ii_int : biIsi [.int i, .ty "int"] M = .ok (.bl true) M := rfl
theorem ii_bl : biIsi [.bl b, .ty "int"] M = .ok (.bl true) M := rfl
theorem ii_str : biIsi [.str x, .ty "int"] M = .ok (.bl false) M := rfl
theorem ii_non : biIsi [.non, .ty "int"] M = .ok (.bl false) M := rfl
theorem ii_tup : biIsi [.tup xs, .ty "int"] M = .ok (.bl false) M := rfl
theorem ii_lst : biIsi [.lst xs, .ty "int"] M = .ok (.bl false) M := rfl
theorem ib_int : biIsi [.int i, .ty "bool"] M = .ok (.bl false) M := rfl
theorem ib_bl : biIsi [.bl b, .ty "bool"] M = .ok (.bl true) M := rfl
theorem ib_str : biIsi [.str x, .ty "bool"] M = .ok (.bl false) M := rfl
theorem ib_non : biIsi [.non, .ty "bool"] M = .ok (.bl false) M := rfl
theorem ib_tup : biIsi [.tup xs, .ty "bool"] M = .ok (.bl false) M := rfl
theorem ib_lst : biIsi [.lst xs, .ty "bool"] M = .ok (.bl false) M := rfl
theorem is_int : biIsi [.int i, .ty "str"] M = .ok (.bl false) M := rfl
theorem is_bl : biIsi [.bl b, .ty "str"] M = .ok (.bl false) M := rfl
theorem is_str : biIsi [.str x, .ty "str"] M = .ok (.bl true) M := rfl
theorem is_non : biIsi [.non, .ty "str"] M = .ok (.bl false) M := rfl
theorem is_tup : biIsi [.tup xs, .ty "str"] M = .ok (.bl false) M := rfl
theorem is_lst : biIsi [.lst xs, .ty "str"] M = .ok (.bl false) M := rfl
theorem it_int : biIsi [.int i, .ty "tuple"] M = .ok (.bl false) M := rfl
theorem it_bl : biIsi [.bl b, .ty "tuple"] M = .ok (.bl false) M := rfl
theorem it_str : biIsi [.str x, .ty "tuple"] M = .ok (.bl false) M := rfl
theorem it_non : biIsi [.non, .ty "tuple"] M = .ok (.bl false) M := rfl
theorem it_tup : biIsi [.tup xs, .ty "tuple"] M = .ok (.bl true) M := rfl
theorem it_lst : biIsi [.lst xs, .ty "tuple"] M = .ok (.bl false) M := rfl
theorem il_int : biIsi [.int i, .ty "list"] M = .ok (.bl false) M := rfl
theorem il_bl : biIsi [.bl b, .ty "list"] M = .ok (.bl false) M := rfl
theorem il_str : biIsi [.str x, .ty "list"] M = .ok (.bl false) M := rfl
theorem il_non : biIsi [.non, .ty "list"] M = .ok (.bl false) M := rfl
theorem il_tup : biIsi [.tup xs, .ty "list"] M = .ok (.bl false) M := rfl
theorem il_lst : biIsi [.lst xs, .ty "list"] M = .ok (.bl true) M := rfl
theorem cis_non : cmpD .Is .non .non M = some true := rfl
theorem cis_bl : cmpD .Is (.bl b) .non M = some false := rfl
theorem cis_int : cmpD .Is (.int i) .non M = some false := rfl
theorem cis_str : cmpD .Is (.str x) .non M = some false := rfl
theorem cis_tup : cmpD .Is (.tup xs) .non M = some false := rfl
theorem cis_lst : cmpD .Is (.lst xs) .non M = some false := rfl
theorem cnis_non : cmpD .IsNot .non .non M = some false := rfl
theorem cnis_bl : cmpD .IsNot (.bl b) .non M = some true := rfl
theorem cnis_int : cmpD .IsNot (.int i) .non M = some true := rfl
theorem cnis_str : cmpD .IsNot (.str x) .non M = some true := rfl
theorem cnis_tup : cmpD .IsNot (.tup xs) .non M = some true := rfl
theorem cnis_lst : cmpD .IsNot (.lst xs) .non M = some true := rfl
end
theorem len_str {x : Str} {M : MH} (h : x.length ≤ sizeLine) : biLen [.str x] M = .ok (.int x.length) M := by
  simp [biLen, h]
theorem mod_ok {m : Bool} {i j : Int} {M : MH} (h : 0 < j) : binD m .Mod (.int i) (.int j) M = .ok (.int (i % j)) M := by
  simp only [binD, h, if_true]
theorem div_ok {m : Bool} {i j : Int} {M : MH} (h : 0 < j ∧ j < 1073741824) : binD m .FloorDiv (.int i) (.int j) M = .ok (.int (i / j)) M := by
  simp only [binD, h, if_true, and_self]
theorem mulOk_l {i j : Int} (h : -(2 ^ 64) < i ∧ i < 2 ^ 64) : mulOk i j = true := by
  unfold mulOk
  rw [decide_eq_true h.1, decide_eq_true h.2]
  rfl
theorem mul_ok {m : Bool} {i j : Int} {M : MH} (h : -(2 ^ 64) < i ∧ i < 2 ^ 64) : binD m .Mult (.int i) (.int j) M = .ok (.int (i * j)) M := by
  simp only [binD, mulOk_l h, if_true]
theorem pow_ok {m : Bool} {i j : Int} {M : MH} (h : (0 ≤ j ∧ j ≤ 1000000) ∧ i.natAbs < 2 ^ 64) : binD m .Pow (.int i) (.int j) M = .ok (.int (i ^ j.toNat)) M := by
  simp only [binD, h, if_true, and_self]
theorem addT_ok {m : Bool} {xs ys : List D} {M : MH} (h : xs.length + ys.length ≤ sizeLine) : binD m .Add (.tup xs) (.tup ys) M = .ok (.tup (xs ++ ys)) M := by
  simp only [binD, h, if_true]
theorem addL_ok {m : Bool} {xs ys : List D} {M : MH} (h : xs.length + ys.length ≤ sizeLine) : binD m .Add (.lst xs) (.lst ys) M = newL m (xs ++ ys) M := by
  simp only [binD, numD, getL, h, if_true]
theorem tup_ok {ds : List D} {M : MH} (h : ds.length ≤ sizeLine) : kTup (.ok ds M) = .ok (.tup ds) M := by
  simp only [kTup_ok, h, if_true]
/-! ### comprehensions -/
section
variable {α : Type} {src : Src} {M : MH} (g : α → D) (ys : List α) {E : EvC} {ρ : Rho} {tg : Tg} {elt : C} {ifs : Co}
theorem comp_ok (hs : SrcIs src M (ys.map g)) (p : α → Bool) (e : α → D) (ρf : α → Rho) (h : ∀ a ∈ ys, bindT tg (g a) (wipeR ρ tg.own) = some (ρf a) ∧ evIf ifs E.bare (ρf a) M = .ok (p a) M ∧ (p a = true → ev elt E.bare (ρf a) M = .ok (e a) M)) :
    kCompS false elt tg ifs E ρ src M = .ok (.lst ((ys.filter p).map e)) M := by
  unfold kCompS
  rw [comp_src g ys hs p e ρf h]
  rfl
theorem comp_okA (hs : SrcIs src M (ys.map g)) (e : α → D) (ρf : α → Rho) (h : ∀ a ∈ ys, bindT tg (g a) (wipeR ρ tg.own) = some (ρf a) ∧ ev elt E.bare (ρf a) M = .ok (e a) M) :
    kCompS false elt tg .none E ρ src M = .ok (.lst (ys.map e)) M := by
  have := comp_ok g ys (ifs := .none) hs (fun _ => true) e ρf fun a ha => ⟨(h a ha).1, rfl, fun _ => (h a ha).2⟩
  rw [this, List.filter_eq_self.mpr (by simp)]
end
/-- a comprehension: whatever happens in it, by an invariant of the heap and of what is found -/
theorem comp_inv {src : Src} {M : MH} {E : EvC} {ρ : Rho} {tg : Tg} {elt : C} {ifs : Co} (zs : List D) (P : Nat → List D → MH → Prop) (hs : ∀ i acc M, P i acc M → SrcIs src M zs) (h0 : P 0 [] M)
    (h : ∀ i d acc M, zs[i]? = some d → P i acc M → ∃ ρ1 b M1, bindT tg d (wipeR ρ tg.own) = some ρ1 ∧ evIf ifs E.bare ρ1 M = .ok b M1 ∧ (b = false → P (i + 1) acc M1) ∧ (b = true → ∃ e M2, ev elt E.bare ρ1 M1 = .ok e M2 ∧ P (i + 1) (acc ++ [e]) M2)) :
    ∃ ds M', kCompS false elt tg ifs E ρ src M = .ok (.lst ds) M' ∧ P zs.length ds M' := by
  have key : ∀ k i acc M, i + k = zs.length → P i acc M → ∃ ds M', compLoop src (fun d => bindT tg d (wipeR ρ tg.own)) (evIf ifs E.bare) (ev elt E.bare) k i acc M = .ok ds M' ∧ P zs.length ds M' := by
    intro k
    induction k with
    | zero =>
      intro i acc M hk p
      refine ⟨acc, M, ?_, by rw [show zs.length = i by omega]; exact p⟩
      simp only [compLoop, (hs _ _ _ p).fin, if_true]
    | succ k ih =>
      intro i acc M hk p
      have hi : i < zs.length := by omega
      obtain ⟨ρ1, b, M1, e1, e2, e3, e4⟩ := h i zs[i] acc M (List.getElem?_eq_getElem hi) p
      have hat : srcAt M i src = some zs[i] := by rw [(hs _ _ _ p).at_, List.getElem?_eq_getElem hi]
      cases b with
      | false =>
        obtain ⟨ds, M', e, q⟩ := ih (i + 1) acc M1 (by omega) (e3 rfl)
        exact ⟨ds, M', by simp only [compLoop, hat, e1, e2, noX, Rx.bind, Bool.false_eq_true, if_false, e], q⟩
      | true =>
        obtain ⟨e, M2, e5, p2⟩ := e4 rfl
        obtain ⟨ds, M', e, q⟩ := ih (i + 1) _ M2 (by omega) p2
        exact ⟨ds, M', by simp only [compLoop, hat, e1, e2, noX, Rx.bind, if_true, e5, e], q⟩
  obtain ⟨ds, M', e, q⟩ := key zs.length 0 [] M (by omega) h0
  refine ⟨ds, M', ?_, q⟩
  unfold kCompS
  rw [(hs _ _ _ h0).len, e]
  rfl
/-- a loop: whatever happens in it -/
theorem for_inv {src : Src} {M : MH} {E : EvC} {ρ : Rho} {tg : Tg} {body : Ss} (zs : List D) (P : Nat → Rho → MH → Prop) (R : Fl → MH → Prop) (hs : ∀ i ρ M, P i ρ M → SrcIs src M zs) (h0 : P 0 ρ M) (hn : ∀ ρ M, P zs.length ρ M → R (.nx ρ) M)
    (h : ∀ i d ρ M, zs[i]? = some d → P i ρ M → ∃ ρ1 f M2, bindT tg d ρ = some ρ1 ∧ exSs body E ρ1 M = .ok f M2 ∧ match f with | .nx ρ2 => P (i + 1) ρ2 M2 | f => R f M2) :
    ∃ f M', kForS tg body E ρ src M = .ok f M' ∧ R f M' := by
  have key : ∀ k i ρ M, i + k = zs.length → P i ρ M → ∃ f M', forLoop src (bindT tg) (exSs body E) k i ρ M = .ok f M' ∧ R f M' := by
    intro k
    induction k with
    | zero =>
      intro i ρ M hk p
      refine ⟨.nx ρ, M, ?_, hn ρ M (by rw [show zs.length = i by omega]; exact p)⟩
      simp only [forLoop, (hs _ _ _ p).fin, if_true]
    | succ k ih =>
      intro i ρ M hk p
      have hi : i < zs.length := by omega
      obtain ⟨ρ1, f, M2, e1, e2, e3⟩ := h i zs[i] ρ M (List.getElem?_eq_getElem hi) p
      have hat : srcAt M i src = some zs[i] := by rw [(hs _ _ _ p).at_, List.getElem?_eq_getElem hi]
      cases f with
      | nx ρ2 =>
        obtain ⟨f, M', e, q⟩ := ih (i + 1) ρ2 M2 (by omega) e3
        exact ⟨f, M', by simp only [forLoop, hat, e1, e2, Res.bind, e], q⟩
      | rt d => exact ⟨.rt d, M2, by simp only [forLoop, hat, e1, e2, Res.bind], e3⟩
      | xc x ρ2 => exact ⟨.xc x ρ2, M2, by simp only [forLoop, hat, e1, e2, Res.bind], e3⟩
  obtain ⟨f, M', e, q⟩ := key zs.length 0 ρ M (by omega) h0
  refine ⟨f, M', ?_, q⟩
  unfold kForS
  rw [(hs _ _ _ h0).len, e]
theorem drop_cons {α : Type} {ys : List α} {i : Nat} {a : α} (h : ys[i]? = some a) : ys.drop i = a :: ys.drop (i + 1) := by
  obtain ⟨hi, rfl⟩ := List.getElem?_eq_some_iff.mp h
  exact List.drop_eq_getElem_cons hi
theorem for_suf {α : Type} {src : Src} {M : MH} {E : EvC} {ρ : Rho} {tg : Tg} {body : Ss} (g : α → D) (ys : List α) (P : List α → Rho → MH → Prop) (R : Fl → MH → Prop) (hs : ∀ r ρ M, P r ρ M → SrcIs src M (ys.map g)) (h0 : P ys ρ M) (hn : ∀ ρ M, P [] ρ M → R (.nx ρ) M)
    (h : ∀ a r ρ M, a ∈ ys → P (a :: r) ρ M → ∃ ρ1, bindT tg (g a) ρ = some ρ1 ∧ ∃ f M2, exSs body E ρ1 M = .ok f M2 ∧ match f with | .nx ρ2 => P r ρ2 M2 | f => R f M2) :
    ∃ f M', kForS tg body E ρ src M = .ok f M' ∧ R f M' := by
  refine for_inv (ys.map g) (fun i => P (ys.drop i)) R (fun i ρ M p => hs _ ρ M p) h0 (fun ρ M p => hn ρ M (by rw [List.length_map, List.drop_length] at p; exact p)) fun i d ρ M hd p => ?_
  rw [List.getElem?_map] at hd
  cases ha : ys[i]? with
  | none => rw [ha] at hd; cases hd
  | some a =>
    rw [ha] at hd
    cases hd
    rw [drop_cons ha] at p
    obtain ⟨ρ1, e1, f, M2, e2, e3⟩ := h a _ ρ M (List.mem_of_getElem? ha) p
    exact ⟨ρ1, f, M2, e1, e2, e3⟩
theorem comp_suf {α : Type} {src : Src} {M : MH} {E : EvC} {ρ : Rho} {tg : Tg} {elt : C} {ifs : Co} (g : α → D) (ys : List α) (P : List α → List D → MH → Prop) (hs : ∀ r acc M, P r acc M → SrcIs src M (ys.map g)) (h0 : P ys [] M)
    (h : ∀ a r acc M, a ∈ ys → P (a :: r) acc M → ∃ ρ1, bindT tg (g a) (wipeR ρ tg.own) = some ρ1 ∧ ∃ b M1, evIf ifs E.bare ρ1 M = .ok b M1 ∧ (b = false → P r acc M1) ∧ (b = true → ∃ e M2, ev elt E.bare ρ1 M1 = .ok e M2 ∧ P r (acc ++ [e]) M2)) :
    ∃ ds M', kCompS false elt tg ifs E ρ src M = .ok (.lst ds) M' ∧ P [] ds M' := by
  obtain ⟨ds, M', e, q⟩ := comp_inv (src := src) (M := M) (E := E) (ρ := ρ) (tg := tg) (elt := elt) (ifs := ifs) (ys.map g) (fun i => P (ys.drop i)) (fun i acc M p => hs _ acc M p) h0 (fun i d acc M hd p => by
    rw [List.getElem?_map] at hd
    cases ha : ys[i]? with
    | none => rw [ha] at hd; cases hd
    | some a =>
      rw [ha] at hd
      cases hd
      rw [drop_cons ha] at p
      obtain ⟨ρ1, e1, b, M1, e2, e3⟩ := h a _ acc M (List.mem_of_getElem? ha) p
      exact ⟨ρ1, b, M1, e1, e2, e3⟩)
  exact ⟨ds, M', e, by rw [List.length_map, List.drop_length] at q; exact q⟩
/-! ### objects that change -/
theorem get_mid {A J : MH} {o : MO} : (A ++ o :: J)[A.length]? = some o := by simp
theorem set_mid {A J : MH} {o o' : MO} : (A ++ o :: J).set A.length o' = A ++ o' :: J := by simp
theorem get_end {A : MH} {o : MO} : (A ++ [o])[A.length]? = some o := by simp
theorem get_keep {M J : MH} {p : Nat} {o : MO} (h : M[p]? = some o) : (M ++ J)[p]? = some o := by
  rw [List.getElem?_append_left (List.getElem?_eq_some_iff.mp h).1]
  exact h
theorem kind_lst {f : String} {n : Nat} {xs : List D} {M : MH} (h : M[n]? = some (.lst xs)) (h1 : f ≠ "upper") (h2 : f ≠ "get") : mtKind f (.ref n) M = true := by
  simp only [mtKind, h1, h2, if_false, getL, h]
  rfl
theorem mt_append (o : D) (as : List D) (M : MH) : mtD "append" o as M = mtAppend o as M := rfl
theorem mt_extend (o : D) (as : List D) (M : MH) : mtD "extend" o as M = mtExtend o as M := rfl
theorem mt_index (o : D) (as : List D) (M : MH) : mtD "index" o as M = mtIndex o as M := rfl
theorem mt_get (o : D) (as : List D) (M : MH) : mtD "get" o as M = mtGet o as M := rfl
theorem mt_pop0 (o : D) (M : MH) : mtD "pop" o [] M = mtPop0 o [] M := rfl
theorem mt_pop (o y : D) (M : MH) : mtD "pop" o [y] M = mtPop o [y] M := rfl
theorem mk_lst (f : String) (xs : List D) (M : MH) (h1 : f ≠ "upper") (h2 : f ≠ "get") : mtKind f (.lst xs) M = true := by
  simp only [mtKind, h1, h2, if_false]
  rfl
theorem append_ok {n : Nat} {xs : List D} {y : D} {M : MH} (h : M[n]? = some (.lst xs)) (hl : xs.length < sizeLine) : mtD "append" (.ref n) [y] M = .ok .non (M.set n (.lst (xs ++ [y]))) := by
  show mtAppend (.ref n) [y] M = _
  simp only [mtAppend, h, hl, if_true]
theorem extend_ok {n : Nat} {xs ys : List D} {b : D} {M : MH} (h : M[n]? = some (.lst xs)) (hb : getL M b = some ys) (hl : xs.length + ys.length ≤ sizeLine) : mtD "extend" (.ref n) [b] M = .ok .non (M.set n (.lst (xs ++ ys))) := by
  show mtExtend (.ref n) [b] M = _
  simp only [mtExtend, h, hb, hl, if_true]
theorem idx_ref {n : Nat} {xs : List D} {i : Int} {M : MH} (h : M[n]? = some (.lst xs)) : idxD (.ref n) (.int i) M = atI xs i := by
  simp only [idxD, getL, h]
theorem tuple_ref {n : Nat} {xs : List D} {M : MH} (h : M[n]? = some (.lst xs)) : biTuple [.ref n] M = .ok (.tup xs) M := by
  simp only [biTuple, getL, h]
/-! ### dicts of pairs -/
def dictM {α : Type} (f : α → D) (s : List (Str × α)) : MO := .dict (s.map fun c => (.inr c.1, f c.2))
theorem putD_new : ∀ (kvs : List (Key × D)) (k : Key) (d : D), (∀ p ∈ kvs, p.1 ≠ k) → putD kvs k d = kvs ++ [(k, d)] := by
  intro kvs k d h
  unfold putD
  rw [if_neg]
  rw [List.any_eq_true]
  rintro ⟨p, hp, e⟩
  exact h p hp (of_decide_eq_true e)
theorem dict_fold {α : Type} (f : α → D) : ∀ (s t : List (Str × α)), ((t ++ s).map (·.1)).Nodup → (s.map fun c => ((.inr c.1 : Key), f c.2)).foldl (fun acc kv => putD acc kv.1 kv.2) (t.map fun c => (.inr c.1, f c.2)) = (t ++ s).map fun c => (.inr c.1, f c.2)
  | [], t, _ => by simp
  | c :: s, t, h => by
    have e : t ++ c :: s = (t ++ [c]) ++ s := by simp
    rw [e] at h ⊢
    rw [← dict_fold f s (t ++ [c]) h, List.map_cons, List.foldl_cons, putD_new, List.map_append]
    · rfl
    · intro p hp e
      obtain ⟨q, hq, rfl⟩ := List.mem_map.mp hp
      have hq1 : q.1 = c.1 := Sum.inr.inj e
      rw [List.map_append, List.nodup_append] at h
      have := h.1
      rw [List.map_append, List.nodup_append] at this
      exact this.2.2 q.1 (List.mem_map.mpr ⟨q, hq, rfl⟩) c.1 (by simp) hq1
theorem dict_pairs {α : Type} (f : α → D) : ∀ (s : List (Str × α)), Mj.pairsOf (s.map fun c => .tup [.str c.1, f c.2]) = some (s.map fun c => (.inr c.1, f c.2))
  | [] => rfl
  | c :: s => by simp only [List.map_cons, Mj.pairsOf, keyOf, dict_pairs f s]
theorem dictT_ok {α : Type} (f : α → D) {s : List (Str × α)} {M : MH} (h : (s.map (·.1)).Nodup) : biDict [.tup (s.map fun c => .tup [.str c.1, f c.2])] M = .ok (.ref M.length) (M ++ [dictM f s]) := by
  simp only [biDict, dict_pairs]
  have := dict_fold f s [] (by simpa using h)
  simp only [List.map_nil, List.nil_append] at this
  rw [this]
  rfl
def lookS {α : Type} (s : List (Str × α)) (c : Str) : Option α := (s.find? fun p => p.1 == c).map (·.2)
theorem lookK_map {α : Type} (f : α → D) (c : Str) : ∀ (s : List (Str × α)), lookK (s.map fun c => (.inr c.1, f c.2)) (.inr c) = (lookS s c).map f
  | [] => rfl
  | p :: s => by
    unfold lookK lookS at *
    have ih := lookK_map f c s
    unfold lookK lookS at ih
    rw [List.map_cons, List.find?_cons, List.find?_cons]
    by_cases h : p.1 = c
    · subst h
      simp
    · have h1 : (decide ((Sum.inr p.1 : Key) = .inr c)) = false := by simpa using h
      have h2 : (p.1 == c) = false := by simpa using h
      rw [h1, h2]
      exact ih
theorem idx_dict {α : Type} {f : α → D} {s : List (Str × α)} {n : Nat} {c : Str} {M : MH} (h : M[n]? = some (dictM f s)) : idxD (.ref n) (.str c) M = (lookS s c).map f := by
  rw [← lookK_map]
  simp only [idxD, getL, h, dictM, getDict, keyOf]
theorem any_keys {α : Type} (f : α → D) (c : Str) (s : List (Str × α)) : ((s.map fun c => ((.inr c.1 : Key), f c.2)).any fun kv => decide (kv.1 = .inr c)) = (lookS s c).isSome := by
  induction s with
  | nil => rfl
  | cons p s ih =>
    unfold lookS at *
    rw [List.map_cons, List.any_cons, ih, List.find?_cons]
    by_cases h : p.1 = c
    · subst h; simp
    · have h1 : (decide ((Sum.inr p.1 : Key) = .inr c)) = false := by simpa using h
      have h2 : (p.1 == c) = false := by simpa using h
      rw [h1, h2]
      rfl
theorem in_dict {α : Type} {f : α → D} {s : List (Str × α)} {n : Nat} {c : Str} {M : MH} (h : M[n]? = some (dictM f s)) : cmpD .In (.str c) (.ref n) M = some (lookS s c).isSome := by
  show inD M (.str c) (.ref n) = _
  rw [← any_keys f]
  simp only [inD, py0, pyM, h, dictM, getDict, keyOf]
/-! ### places -/
theorem cut_to {xs : List D} {k : Nat} : Mj.cutD xs none (some (k : Int)) = xs.take k := by
  unfold Mj.cutD
  rw [HT.sIx_none, HT.sIx_nat, Nat.sub_zero, List.drop_zero, List.take_eq_take_iff]
  omega
theorem cut_from {xs : List D} {k : Nat} : Mj.cutD xs (some (k : Int)) none = xs.drop k := by
  unfold Mj.cutD
  rw [HT.sIx_none, HT.sIx_nat]
  by_cases h : k ≤ xs.length
  · rw [Nat.min_eq_left h, List.take_of_length_le]
    rw [List.length_drop]
    exact Nat.le_refl _
  · rw [Nat.min_eq_right (by omega), Nat.sub_self, List.take_zero, List.drop_eq_nil_of_le (by omega)]
end Mq
namespace Law
open PySem PySem.Spec PyProof.Rows L2 Mj
theorem r_is_integer (n : Nat) (a0 : D) (M : MH) : callN T sub (n + 1) 0 [a0] none M = Mw.fin (exSs b_is_integer ⟨callN T sub n, noAsk, none, sub⟩ [some a0] M) := Mw.c_any (f := ⟨1, 1, b_is_integer, false, false⟩) rfl rfl rfl
theorem r_is_name (n : Nat) (a0 : D) (M : MH) : callN T sub (n + 1) 1 [a0] none M = Mw.fin (exSs b_is_name ⟨callN T sub n, noAsk, none, sub⟩ [some a0, none] M) := Mw.c_any (f := ⟨1, 2, b_is_name, false, false⟩) rfl rfl rfl
theorem r_require_step (n : Nat) (a0 : D) (a1 : D) (a2 : D) (M : MH) : callN T sub (n + 1) 2 [a0, a1, a2] none M = Mw.fin (exSs b_require_step ⟨callN T sub n, noAsk, none, sub⟩ [some a0, some a1, some a2] M) := Mw.c_any (f := ⟨3, 3, b_require_step, false, false⟩) rfl rfl rfl
theorem r_object_of (n : Nat) (a0 : D) (a1 : D) (M : MH) : callN T sub (n + 1) 3 [a0, a1] none M = Mw.fin (exSs b_object_of ⟨callN T sub n, noAsk, none, sub⟩ [some a0, some a1, none] M) := Mw.c_any (f := ⟨2, 3, b_object_of, false, false⟩) rfl rfl rfl
theorem r_is_value (n : Nat) (a0 : D) (a1 : D) (a2 : D) (M : MH) : callN T sub (n + 1) 4 [a0, a1, a2] none M = Mw.fin (exSs b_is_value ⟨callN T sub n, noAsk, none, sub⟩ [some a0, some a1, some a2, none] M) := Mw.c_any (f := ⟨3, 4, b_is_value, false, false⟩) rfl rfl rfl
theorem r_made (n : Nat) (a0 : D) (a1 : D) (as : List D) (h : as.length ≤ 900) (M : MH) : callN T sub (n + 1) 5 (a0 :: a1 :: as) none M = Mw.fin (exSs b_made ⟨callN T sub n, noAsk, none, sub⟩ [some a0, some a1, some (.tup as), none, none, none, none, none, none, none, none, none, none] M) := Mw.c_any (f := ⟨2, 13, b_made, true, false⟩) rfl rfl (Mq.start_star (pre := [a0, a1]) rfl h (by decide))
theorem r_written (n : Nat) (a0 : D) (a1 : D) (a2 : D) (a3 : D) (M : MH) : callN T sub (n + 1) 6 [a0, a1, a2, a3] none M = Mw.fin (exSs b_written ⟨callN T sub n, noAsk, none, sub⟩ [some a0, some a1, some a2, some a3, none, none, none, none, none, none, none, none, none, none, none, none] M) := Mw.c_any (f := ⟨4, 16, b_written, false, false⟩) rfl rfl rfl
theorem r_without_link (n : Nat) (a0 : D) (a1 : D) (a2 : D) (M : MH) : callN T sub (n + 1) 7 [a0, a1, a2] none M = Mw.fin (exSs b_without_link ⟨callN T sub n, noAsk, none, sub⟩ [some a0, some a1, some a2, none, none, none, none] M) := Mw.c_any (f := ⟨3, 7, b_without_link, false, false⟩) rfl rfl rfl
theorem r_dropped (n : Nat) (a0 : D) (a1 : D) (M : MH) : callN T sub (n + 1) 8 [a0, a1] none M = Mw.fin (exSs b_dropped ⟨callN T sub n, noAsk, none, sub⟩ [some a0, some a1, none, none, none, none, none, none, none, none] M) := Mw.c_any (f := ⟨2, 10, b_dropped, false, false⟩) rfl rfl rfl
theorem r__law_feed (n : Nat) (a0 : D) (M : MH) : callN T sub (n + 1) 9 [a0] none M = Mw.fin (exSs b__law_feed ⟨callN T sub n, noAsk, none, sub⟩ [some a0] M) := Mw.c_any (f := ⟨1, 1, b__law_feed, false, false⟩) rfl rfl rfl
theorem r__law_draw (n : Nat) (a0 : D) (a1 : D) (M : MH) : callN T sub (n + 1) 10 [a0, a1] none M = Mw.fin (exSs b__law_draw ⟨callN T sub n, noAsk, none, sub⟩ [some a0, some a1, none, none, none, none] M) := Mw.c_any (f := ⟨2, 6, b__law_draw, false, false⟩) rfl rfl rfl
theorem r__law_laps (n : Nat) (a0 : D) (a1 : D) (M : MH) : callN T sub (n + 1) 11 [a0, a1] none M = Mw.fin (exSs b__law_laps ⟨callN T sub n, noAsk, none, sub⟩ [some a0, some a1] M) := Mw.c_any (f := ⟨2, 2, b__law_laps, false, false⟩) rfl rfl rfl
theorem r__law_any (n : Nat) (a0 : D) (a1 : D) (M : MH) : callN T sub (n + 1) 12 [a0, a1] none M = Mw.fin (exSs b__law_any ⟨callN T sub n, noAsk, none, sub⟩ [some a0, some a1] M) := Mw.c_any (f := ⟨2, 2, b__law_any, false, false⟩) rfl rfl rfl
theorem r__law_lot (n : Nat) (a0 : D) (a1 : D) (M : MH) : callN T sub (n + 1) 13 [a0, a1] none M = Mw.fin (exSs b__law_lot ⟨callN T sub n, noAsk, none, sub⟩ [some a0, some a1, none, none, none] M) := Mw.c_any (f := ⟨2, 5, b__law_lot, false, false⟩) rfl rfl rfl
theorem r__law_classes (n : Nat) (a0 : D) (M : MH) : callN T sub (n + 1) 14 [a0] none M = Mw.fin (exSs b__law_classes ⟨callN T sub n, noAsk, none, sub⟩ [some a0, none, none] M) := Mw.c_any (f := ⟨1, 3, b__law_classes, false, false⟩) rfl rfl rfl
theorem r__law_fitting (n : Nat) (a0 : D) (a1 : D) (a2 : D) (M : MH) : callN T sub (n + 1) 15 [a0, a1, a2] none M = Mw.fin (exSs b__law_fitting ⟨callN T sub n, noAsk, none, sub⟩ [some a0, some a1, some a2, none, none] M) := Mw.c_any (f := ⟨3, 5, b__law_fitting, false, false⟩) rfl rfl rfl
theorem r__law_values (n : Nat) (a0 : D) (a1 : D) (a2 : D) (M : MH) : callN T sub (n + 1) 16 [a0, a1, a2] none M = Mw.fin (exSs b__law_values ⟨callN T sub n, noAsk, none, sub⟩ [some a0, some a1, some a2, none, none] M) := Mw.c_any (f := ⟨3, 5, b__law_values, false, false⟩) rfl rfl rfl
theorem r__law_house (n : Nat) (a0 : D) (a1 : D) (a2 : D) (M : MH) : callN T sub (n + 1) 17 [a0, a1, a2] none M = Mw.fin (exSs b__law_house ⟨callN T sub n, noAsk, none, sub⟩ [some a0, some a1, some a2, none, none, none, none, none, none, none] M) := Mw.c_any (f := ⟨3, 10, b__law_house, false, false⟩) rfl rfl rfl
theorem r__law_is_integer (n : Nat) (a0 : D) (M : MH) : callN T sub (n + 1) 18 [a0] none M = Mw.fin (exSs b__law_is_integer ⟨callN T sub n, noAsk, none, sub⟩ [some a0] M) := Mw.c_any (f := ⟨1, 1, b__law_is_integer, false, false⟩) rfl rfl rfl
theorem r__law_outcome (n : Nat) (a : Ask) (M : MH) : callN T sub (n + 1) 19 [] (some a) M = Mw.fin (exSs b__law_outcome ⟨callN T sub n, a, none, sub⟩ [none, none, none, none, none] M) := Mq.ca_any (f := ⟨1, 5, b__law_outcome, false, true⟩) rfl rfl rfl
theorem r__law_document (n : Nat) (M : MH) : callN T sub (n + 1) 20 [] none M = Mw.fin (exSs b__law_document ⟨callN T sub n, noAsk, none, sub⟩ [none, none, none] M) := Mw.c_any (f := ⟨0, 3, b__law_document, false, false⟩) rfl rfl rfl
theorem r__law_suits (n : Nat) (a0 : D) (a1 : D) (a2 : D) (M : MH) : callN T sub (n + 1) 21 [a0, a1, a2] none M = Mw.fin (exSs b__law_suits ⟨callN T sub n, noAsk, none, sub⟩ [some a0, some a1, some a2, none, none, none, none] M) := Mw.c_any (f := ⟨3, 7, b__law_suits, false, false⟩) rfl rfl rfl
theorem r__law_made_due (n : Nat) (a0 : D) (a1 : D) (a2 : D) (M : MH) : callN T sub (n + 1) 22 [a0, a1, a2] none M = Mw.fin (exSs b__law_made_due ⟨callN T sub n, noAsk, none, sub⟩ [some a0, some a1, some a2, none, none, none, none] M) := Mw.c_any (f := ⟨3, 7, b__law_made_due, false, false⟩) rfl rfl rfl
theorem r__law_is_member (n : Nat) (a0 : D) (a1 : D) (M : MH) : callN T sub (n + 1) 23 [a0, a1] none M = Mw.fin (exSs b__law_is_member ⟨callN T sub n, noAsk, none, sub⟩ [some a0, some a1, none, none, none] M) := Mw.c_any (f := ⟨2, 5, b__law_is_member, false, false⟩) rfl rfl rfl
theorem r__law_written_due (n : Nat) (a0 : D) (a1 : D) (a2 : D) (a3 : D) (M : MH) : callN T sub (n + 1) 24 [a0, a1, a2, a3] none M = Mw.fin (exSs b__law_written_due ⟨callN T sub n, noAsk, none, sub⟩ [some a0, some a1, some a2, some a3, none, none, none, none, none, none, none, none, none, none] M) := Mw.c_any (f := ⟨4, 14, b__law_written_due, false, false⟩) rfl rfl rfl
theorem r__law_dropped_due (n : Nat) (a0 : D) (a1 : D) (M : MH) : callN T sub (n + 1) 25 [a0, a1] none M = Mw.fin (exSs b__law_dropped_due ⟨callN T sub n, noAsk, none, sub⟩ [some a0, some a1, none, none, none, none, none, none, none, none] M) := Mw.c_any (f := ⟨2, 10, b__law_dropped_due, false, false⟩) rfl rfl rfl
theorem r__law_some_number (n : Nat) (a0 : D) (a1 : D) (M : MH) : callN T sub (n + 1) 26 [a0, a1] none M = Mw.fin (exSs b__law_some_number ⟨callN T sub n, noAsk, none, sub⟩ [some a0, some a1, none, none, none, none] M) := Mw.c_any (f := ⟨2, 6, b__law_some_number, false, false⟩) rfl rfl rfl
theorem r__law_some_label (n : Nat) (a0 : D) (a1 : D) (a2 : D) (M : MH) : callN T sub (n + 1) 27 [a0, a1, a2] none M = Mw.fin (exSs b__law_some_label ⟨callN T sub n, noAsk, none, sub⟩ [some a0, some a1, some a2, none, none, none, none, none, none] M) := Mw.c_any (f := ⟨3, 9, b__law_some_label, false, false⟩) rfl rfl rfl
theorem r__law_some_item (n : Nat) (a0 : D) (a1 : D) (M : MH) : callN T sub (n + 1) 28 [a0, a1] none M = Mw.fin (exSs b__law_some_item ⟨callN T sub n, noAsk, none, sub⟩ [some a0, some a1, none, none, none, none] M) := Mw.c_any (f := ⟨2, 6, b__law_some_item, false, false⟩) rfl rfl rfl
theorem r__law_some_lots (n : Nat) (a0 : D) (a1 : D) (a2 : D) (M : MH) : callN T sub (n + 1) 29 [a0, a1, a2] none M = Mw.fin (exSs b__law_some_lots ⟨callN T sub n, noAsk, none, sub⟩ [some a0, some a1, some a2, none, none, none, none, none, none, none] M) := Mw.c_any (f := ⟨3, 10, b__law_some_lots, false, false⟩) rfl rfl rfl
theorem r__law_make (n : Nat) (a0 : D) (a1 : D) (a2 : D) (M : MH) : callN T sub (n + 1) 30 [a0, a1, a2] none M = Mw.fin (exSs b__law_make ⟨callN T sub n, noAsk, none, sub⟩ [some a0, some a1, some a2] M) := Mw.c_any (f := ⟨3, 3, b__law_make, false, false⟩) rfl rfl rfl
theorem r__law_making_right (n : Nat) (a0 : D) (a1 : D) (M : MH) : callN T sub (n + 1) 31 [a0, a1] none M = Mw.fin (exSs b__law_making_right ⟨callN T sub n, noAsk, none, sub⟩ [some a0, some a1, none, none, none, none] M) := Mw.c_any (f := ⟨2, 6, b__law_making_right, false, false⟩) rfl rfl rfl
theorem r__law_others_right (n : Nat) (a0 : D) (a1 : D) (M : MH) : callN T sub (n + 1) 32 [a0, a1] none M = Mw.fin (exSs b__law_others_right ⟨callN T sub n, noAsk, none, sub⟩ [some a0, some a1, none, none, none, none, none] M) := Mw.c_any (f := ⟨2, 7, b__law_others_right, false, false⟩) rfl rfl rfl
theorem r_law (n : Nat) (a0 : D) (M : MH) : callN T sub (n + 1) 33 [a0] none M = Mw.fin (exSs b_law ⟨callN T sub n, noAsk, none, sub⟩ [some a0, none, none, none, none, none, none, none] M) := Mw.c_any (f := ⟨1, 8, b_law, false, false⟩) rfl rfl rfl
theorem u_6_0 : sub 6 0 = true := rfl
theorem u_6_1 : sub 6 1 = false := rfl
theorem u_6_2 : sub 6 2 = true := rfl
theorem u_6_3 : sub 6 3 = false := rfl
theorem u_6_4 : sub 6 4 = false := rfl
theorem u_6_5 : sub 6 5 = false := rfl
theorem u_6_6 : sub 6 6 = true := rfl
theorem u_6_7 : sub 6 7 = false := rfl
theorem u_6_8 : sub 6 8 = false := rfl
theorem u_6_9 : sub 6 9 = false := rfl
theorem u_6_10 : sub 6 10 = false := rfl
theorem u_6_11 : sub 6 11 = false := rfl
theorem u_6_12 : sub 6 12 = false := rfl
theorem u_6_13 : sub 6 13 = true := rfl
theorem u_5_0 : sub 5 0 = true := rfl
theorem u_5_1 : sub 5 1 = false := rfl
theorem u_5_2 : sub 5 2 = true := rfl
theorem u_5_3 : sub 5 3 = false := rfl
theorem u_5_4 : sub 5 4 = false := rfl
theorem u_5_5 : sub 5 5 = true := rfl
theorem u_5_6 : sub 5 6 = false := rfl
theorem u_5_7 : sub 5 7 = false := rfl
theorem u_5_8 : sub 5 8 = false := rfl
theorem u_5_9 : sub 5 9 = false := rfl
theorem u_5_10 : sub 5 10 = false := rfl
theorem u_5_11 : sub 5 11 = false := rfl
theorem u_5_12 : sub 5 12 = false := rfl
theorem u_5_13 : sub 5 13 = true := rfl
end Law
/-! Mq3: well made data: equal, shown, in. -/
namespace Mq
open PySem PySem.Spec PyProof.Rows L2 Mj Mw
def chD (c : Nat) : D := .str ⟨#[c]⟩

/-- data of depth at most n -/
inductive Ok : Nat → D → Prop where
  | non {n : Nat} : Ok n .non
  | bl {n : Nat} (b : Bool) : Ok n (.bl b)
  | int {n : Nat} (i : Int) : Ok n (.int i)
  | str {n : Nat} {x : Str} : x.length ≤ 100000 → PyData.strOk x = true → Ok n (.str x)
  | tup {n : Nat} {xs : List D} : (∀ d ∈ xs, Ok n d) → xs.length ≤ 1000 → Ok (n + 1) (.tup xs)
  | lst {n : Nat} {xs : List D} : (∀ d ∈ xs, Ok n d) → xs.length ≤ 1000 → Ok (n + 1) (.lst xs)

/-- plain data -/
def plain : D → Bool
  | .non => true
  | .bl _ => true
  | .int _ => true
  | .str _ => true
  | .tup _ => true
  | .lst _ => true
  | _ => false
/-- texts that the model can hold -/
def fits : D → Prop
  | .str x => x.length ≤ sizeLine
  | _ => True

theorem Ok.plain {n : Nat} {d : D} (h : Ok n d) : plain d = true := by cases h <;> rfl
theorem Ok.fits {n : Nat} {d : D} (h : Ok n d) : fits d := by
  cases h with
  | str h _ => exact Nat.le_trans h (by decide)
  | _ => trivial
theorem Ok.sub {n : Nat} {xs : List D} (h : Ok (n + 1) (.tup xs)) : ∀ d ∈ xs, Ok n d := by cases h; assumption
theorem Ok.mono {n : Nat} {d : D} (h : Ok n d) : ∀ {m : Nat}, n ≤ m → Ok m d := by
  induction h with
  | non => intro m _; exact .non
  | bl b => intro m _; exact .bl b
  | int i => intro m _; exact .int i
  | str a b => intro m _; exact .str a b
  | tup _ hl ih =>
    intro m hm
    cases m with
    | zero => omega
    | succ m => exact .tup (fun d hd => ih d hd (by omega)) hl
  | lst _ hl ih =>
    intro m hm
    cases m with
    | zero => omega
    | succ m => exact .lst (fun d hd => ih d hd (by omega)) hl
theorem py_all {n : Nat} : ∀ {xs : List D}, (∀ d ∈ xs, ∃ p, py0 d = some p ∧ p.canLay0 = true ∧ p.depth ≤ n) → ∃ ps, py0s xs = some ps ∧ PyData.canLayAll0 ps = true ∧ PyData.depthAll ps ≤ n ∧ ps.length = xs.length
  | [], _ => ⟨[], rfl, rfl, by simp [PyData.depthAll], rfl⟩
  | x :: xs, h => by
    obtain ⟨p, h1, h2, h3⟩ := h x (by simp)
    obtain ⟨ps, k1, k2, k3, k4⟩ := py_all (xs := xs) fun d hd => h d (List.mem_cons_of_mem _ hd)
    refine ⟨p :: ps, by simp only [py0s, h1, k1], by simp only [PyData.canLayAll0, h2, k2]; rfl, ?_, by simp [k4]⟩
    simp only [PyData.depthAll]
    omega
theorem Ok.py {n : Nat} {d : D} (h : Ok n d) : ∃ p, py0 d = some p ∧ p.canLay0 = true ∧ p.depth ≤ n := by
  induction h with
  | non => exact ⟨_, rfl, rfl, by simp [PyData.depth]⟩
  | bl b => exact ⟨_, rfl, rfl, by simp [PyData.depth]⟩
  | int i => exact ⟨_, rfl, rfl, by simp [PyData.depth]⟩
  | str a b => exact ⟨_, rfl, b, by simp [PyData.depth]⟩
  | tup _ _ ih =>
    obtain ⟨ps, k1, k2, k3, _⟩ := py_all ih
    exact ⟨.tuple ps, by simp only [py0, k1], k2, by simp only [PyData.depth]; omega⟩
  | lst _ _ ih =>
    obtain ⟨ps, k1, k2, k3, _⟩ := py_all ih
    exact ⟨.list ps, by simp only [py0, k1], k2, by simp only [PyData.depth]; omega⟩

theorem strOk_ch {x : Str} (h : PyData.strOk x = true) : ∀ c ∈ x.cps.toList, c < 0x110000 := by
  unfold PyData.strOk at h
  rw [Array.all_eq_true'] at h
  intro c hc
  have := h c (Array.mem_toList_iff.mp hc)
  simpa using this

def asc (x : Str) : Bool := x.cps.toList.all fun c => decide (c < 128)


theorem asc_ok {x : Str} (h : asc x = true) : PyData.strOk x = true := by
  unfold PyData.strOk
  rw [Array.all_eq_true']
  unfold asc at h
  rw [List.all_eq_true] at h
  intro c hc
  have := h c (Array.mem_toList_iff.mpr hc)
  simp at this ⊢
  omega
/-! ### small data -/

mutual
def wt : D → Nat
  | .str x => x.length
  | .tup xs => wts xs
  | .lst xs => wts xs
  | _ => 0
def wts : List D → Nat
  | [] => 0
  | d :: r => wt d + 1 + wts r
end
theorem wts_app : ∀ (xs ys : List D), wts (xs ++ ys) = wts xs + wts ys
  | [], ys => by simp [wts]
  | x :: xs, ys => by
    rw [List.cons_append, wts, wts, wts_app xs ys]
    omega

mutual
def iB : D → Bool
  | .int i => decide (i.natAbs < 10 ^ 61)
  | .tup xs => iBs xs
  | .lst xs => iBs xs
  | _ => true
def iBs : List D → Bool
  | [] => true
  | d :: r => iB d && iBs r
end
theorem iBs_all : ∀ {xs : List D}, (∀ d ∈ xs, iB d = true) → iBs xs = true
  | [], _ => rfl
  | d :: r, h => by
    rw [iBs, h d (by simp), iBs_all (xs := r) fun e he => h e (List.mem_cons_of_mem _ he)]
    rfl
theorem iBs_mem : ∀ {xs : List D}, iBs xs = true → ∀ d ∈ xs, iB d = true
  | d :: r, h, e, he => by
    rw [iBs, Bool.and_eq_true] at h
    rcases List.mem_cons.mp he with rfl | he
    · exact h.1
    · exact iBs_mem h.2 e he

mutual
def okB : Nat → D → Bool
  | _, .non => true
  | _, .bl _ => true
  | _, .int _ => true
  | _, .str x => decide (x.length ≤ 100000) && asc x
  | n, .tup xs => match n with
    | 0 => false
    | n + 1 => okBs n xs && decide (xs.length ≤ 1000)
  | n, .lst xs => match n with
    | 0 => false
    | n + 1 => okBs n xs && decide (xs.length ≤ 1000)
  | _, _ => false
def okBs : Nat → List D → Bool
  | _, [] => true
  | n, d :: r => okB n d && okBs n r
end
mutual
theorem okB_ok : ∀ (n : Nat) (d : D), okB n d = true → Ok n d
  | n, .non, _ => .non
  | n, .bl b, _ => .bl b
  | n, .int i, h => .int i
  | n, .str x, h => by
    simp [okB] at h
    exact .str h.1 (asc_ok h.2)
  | 0, .tup xs, h => by simp [okB] at h
  | n + 1, .tup xs, h => by
    simp [okB] at h
    exact .tup (okBs_ok n xs h.1) h.2
  | 0, .lst xs, h => by simp [okB] at h
  | n + 1, .lst xs, h => by
    simp [okB] at h
    exact .lst (okBs_ok n xs h.1) h.2
  | _, .ref _, h => by simp [okB] at h
  | _, .fn _, h => by simp [okB] at h
  | _, .ty _, h => by simp [okB] at h
  | _, .scr _, h => by simp [okB] at h
  | _, .ptup _, h => by simp [okB] at h
theorem okBs_ok : ∀ (n : Nat) (ds : List D), okBs n ds = true → ∀ d ∈ ds, Ok n d
  | _, [], _ => by simp
  | n, d :: r, h => by
    simp [okBs] at h
    intro e he
    rcases List.mem_cons.mp he with he | he
    · rw [he]
      exact okB_ok n d h.1
    · exact okBs_ok n r h.2 e he
end

def Shows (n : Nat) (d : D) (p : PyData) : Prop := py0 d = some p ∧ p.showable = true ∧ p.leavesShort 64 = true ∧ p.bulk = wt d ∧ p.depth ≤ n
theorem shows_all {n : Nat} : ∀ {xs : List D}, (∀ d ∈ xs, ∃ p, Shows n d p) → ∃ ps, py0s xs = some ps ∧ PyData.showableAll ps = true ∧ PyData.leavesShortAll 64 ps = true ∧ PyData.bulkAll ps = wts xs ∧ PyData.depthAll ps ≤ n
  | [], _ => ⟨[], rfl, rfl, rfl, rfl, by simp [PyData.depthAll]⟩
  | x :: xs, h => by
    obtain ⟨p, h1, h2, h3, h4, h5⟩ := h x (by simp)
    obtain ⟨ps, k1, k2, k3, k4, k5⟩ := shows_all (xs := xs) fun d hd => h d (List.mem_cons_of_mem _ hd)
    refine ⟨p :: ps, by simp only [py0s, h1, k1], by simp only [PyData.showableAll, h2, k2]; rfl, by simp only [PyData.leavesShortAll, h3, k3]; rfl, by simp only [PyData.bulkAll, wts, h4, k4], ?_⟩
    simp only [PyData.depthAll]
    omega
theorem shows_ok {n : Nat} {d : D} (h : Ok n d) : iB d = true → ∃ p, Shows n d p := by
  induction h with
  | non => intro _; exact ⟨_, rfl, rfl, rfl, rfl, by simp [PyData.depth]⟩
  | bl b => intro _; exact ⟨_, rfl, rfl, rfl, rfl, by simp [PyData.depth]⟩
  | int i =>
    intro hi
    simp only [iB, decide_eq_true_eq] at hi
    refine ⟨_, rfl, ?_, ?_, rfl, by simp [PyData.depth]⟩
    · simp only [PyData.showable, decide_eq_true_eq]
      by_cases h : i.natAbs = 0
      · rw [h]; decide
      · exact Nat.lt_trans ((Nat.log2_lt h).mpr (show i.natAbs < 2 ^ 203 from Nat.lt_trans hi (by decide))) (by decide)
    · simp only [PyData.leavesShort, decide_eq_true_eq]
      have := int_text_length_le10 (a := i) (k := 61) (by decide) hi
      have e : (PyData.shown (.int i)).length = (toString i).length := by
        show (Str.ofString (toString i)).length = _
        exact PySem.ofString_length _
      rw [e]
      omega
  | str a b =>
    intro _
    refine ⟨_, rfl, rfl, ?_, rfl, by simp [PyData.depth]⟩
    simp only [PyData.leavesShort, List.all_eq_true, decide_eq_true_eq]
    intro c hc
    have := strOk_ch b c hc
    exact Nat.lt_trans this (by decide)
  | tup _ _ ih =>
    intro hi
    obtain ⟨ps, k1, k2, k3, k4, k5⟩ := shows_all fun d hd => ih d hd (iBs_mem hi d hd)
    exact ⟨.tuple ps, by simp only [py0, k1], k2, k3, k4, by simp only [PyData.depth]; omega⟩
  | lst _ _ ih =>
    intro hi
    obtain ⟨ps, k1, k2, k3, k4, k5⟩ := shows_all fun d hd => ih d hd (iBs_mem hi d hd)
    exact ⟨.list ps, by simp only [py0, k1], k2, k3, k4, by simp only [PyData.depth]; omega⟩


/-! ### equal -/
mutual
def eqvD : D → D → Bool
  | .non, b => match b with | .non => true | _ => false
  | .bl a, b => match b with | .bl c => a == c | .int j => (if a = true then 1 else 0) == j | _ => false
  | .int i, b => match b with | .bl c => i == (if c = true then 1 else 0) | .int j => i == j | _ => false
  | .str x, b => match b with | .str y => x == y | _ => false
  | .lst xs, b => match b with | .lst ys => eqvDs xs ys | _ => false
  | .tup xs, b => match b with | .tup ys => eqvDs xs ys | _ => false
  | _, _ => false
def eqvDs : List D → List D → Bool
  | [], ys => ys.isEmpty
  | x :: xs, ys => match ys with | [] => false | y :: ys => eqvD x y && eqvDs xs ys
end
mutual
theorem eqv_py : ∀ (a b : D) (p q : PyData), py0 a = some p → py0 b = some q → PyData.eqv p q = eqvD a b
  | .non, b, p, q, ha, hb => by
    simp only [py0, Option.some.injEq] at ha
    subst ha
    cases b <;> simp only [py0] at hb <;> first | (simp only [Option.some.injEq] at hb; subst hb; rfl) | (split at hb <;> simp only [Option.some.injEq, reduceCtorEq] at hb; subst hb; rfl) | cases hb
  | .bl v, b, p, q, ha, hb => by
    simp only [py0, Option.some.injEq] at ha
    subst ha
    cases b <;> simp only [py0] at hb <;> first | (simp only [Option.some.injEq] at hb; subst hb; rfl) | (split at hb <;> simp only [Option.some.injEq, reduceCtorEq] at hb; subst hb; rfl) | cases hb
  | .int v, b, p, q, ha, hb => by
    simp only [py0, Option.some.injEq] at ha
    subst ha
    cases b <;> simp only [py0] at hb <;> first | (simp only [Option.some.injEq] at hb; subst hb; rfl) | (split at hb <;> simp only [Option.some.injEq, reduceCtorEq] at hb; subst hb; rfl) | cases hb
  | .str v, b, p, q, ha, hb => by
    simp only [py0, Option.some.injEq] at ha
    subst ha
    cases b <;> simp only [py0] at hb <;> first | (simp only [Option.some.injEq] at hb; subst hb; rfl) | (split at hb <;> simp only [Option.some.injEq, reduceCtorEq] at hb; subst hb; rfl) | cases hb
  | .lst xs, b, p, q, ha, hb => by
    simp only [py0] at ha
    split at ha
    · rename_i ps hp
      cases ha
      cases b with
      | lst ys =>
        simp only [py0] at hb
        split at hb
        · rename_i qs hq
          cases hb
          exact eqvs_py xs ys ps qs hp hq
        · cases hb
      | non => cases hb; rfl
      | bl c => cases hb; rfl
      | int c => cases hb; rfl
      | str c => cases hb; rfl
      | tup ys =>
        simp only [py0] at hb
        split at hb
        · cases hb; rfl
        · cases hb
      | _ => cases hb
    · cases ha
  | .tup xs, b, p, q, ha, hb => by
    simp only [py0] at ha
    split at ha
    · rename_i ps hp
      cases ha
      cases b with
      | tup ys =>
        simp only [py0] at hb
        split at hb
        · rename_i qs hq
          cases hb
          exact eqvs_py xs ys ps qs hp hq
        · cases hb
      | non => cases hb; rfl
      | bl c => cases hb; rfl
      | int c => cases hb; rfl
      | str c => cases hb; rfl
      | lst ys =>
        simp only [py0] at hb
        split at hb
        · cases hb; rfl
        · cases hb
      | _ => cases hb
    · cases ha
  | .ptup _, _, _, _, ha, _ => by cases ha
  | .ref _, _, _, _, ha, _ => by cases ha
  | .fn _, _, _, _, ha, _ => by cases ha
  | .ty _, _, _, _, ha, _ => by cases ha
  | .scr _, _, _, _, ha, _ => by cases ha
theorem eqvs_py : ∀ (xs ys : List D) (ps qs : List PyData), py0s xs = some ps → py0s ys = some qs → PyData.eqvAll ps qs = eqvDs xs ys
  | [], ys, ps, qs, ha, hb => by
    cases ha
    cases ys with
    | nil => cases hb; rfl
    | cons y ys =>
      simp only [py0s] at hb
      split at hb
      · cases hb; rfl
      · cases hb
  | x :: xs, ys, ps, qs, ha, hb => by
    simp only [py0s] at ha
    split at ha
    · rename_i p ps' hp hps
      cases ha
      cases ys with
      | nil => cases hb; rfl
      | cons y ys =>
        simp only [py0s] at hb
        split at hb
        · rename_i q qs' hq hqs
          cases hb
          show (PyData.eqv p q && PyData.eqvAll ps' qs') = (eqvD x y && eqvDs xs ys)
          rw [eqv_py x y p q hp hq, eqvs_py xs ys ps' qs' hps hqs]
        · cases hb
    · cases ha
end
theorem shaped_ok {n : Nat} {d : D} (hn : n ≤ 60) (h : Ok n d) : ∃ p, py0 d = some p ∧ SeqAt.shaped p = true := by
  obtain ⟨p, h1, h2, h3⟩ := h.py
  refine ⟨p, h1, ?_⟩
  unfold SeqAt.shaped
  rw [h2, decide_eq_true (show p.depth ≤ 64 by omega)]
  rfl
theorem pyM_ok {M : MH} {d : D} (h : plain d = true) : pyM M d = py0 d := by cases d <;> first | rfl | cases h
theorem pyS_ok {M : MH} {d : D} (h : plain d = true) : pyS M d = py0 d := by cases d <;> first | rfl | cases h
theorem eqD_ok {n m : Nat} {a b : D} {M : MH} (hn : n ≤ 60) (hm : m ≤ 60) (ha : Ok n a) (hb : Ok m b) : eqD M a b = some (eqvD a b) := by
  obtain ⟨p, p1, p2⟩ := shaped_ok hn ha
  obtain ⟨q, q1, q2⟩ := shaped_ok hm hb
  unfold eqD
  rw [pyS_ok ha.plain, pyS_ok hb.plain, p1, q1]
  show (if (SeqAt.shaped p && SeqAt.shaped q) = true then some (PyData.eqv p q) else none) = _
  rw [p2, q2, eqv_py a b p q p1 q1]
  rfl
theorem str_dec (x y : Str) : decide (x = y) = (x == y) := by
  by_cases h : x = y
  · subst h; simp
  · simp [h]
theorem cmpEq_ok {n m : Nat} {a b : D} {M : MH} (hn : n ≤ 60) (hm : m ≤ 60) (ha : Ok n a) (hb : Ok m b) : cmpD .Eq a b M = some (eqvD a b) := by
  have e := eqD_ok (M := M) hn hm ha hb
  show eqS M a b = _
  unfold eqS
  split
  · rename_i x y
    show some (decide (x = y)) = some (x == y)
    rw [str_dec]
  · exact e
theorem cmpNe_ok {n m : Nat} {a b : D} {M : MH} (hn : n ≤ 60) (hm : m ≤ 60) (ha : Ok n a) (hb : Ok m b) : cmpD .NotEq a b M = some (!eqvD a b) := by
  have e := cmpEq_ok (M := M) hn hm ha hb
  show (eqS M a b).map (!·) = _
  rw [show eqS M a b = _ from e]
  rfl
mutual
theorem eqvD_refl : ∀ {n : Nat} (d : D), Ok n d → eqvD d d = true
  | _, .non, _ => rfl
  | _, .bl b, _ => by cases b <;> rfl
  | _, .int i, _ => by simp [eqvD]
  | _, .str x, _ => by simp [eqvD]
  | 0, .tup xs, h => by cases h
  | n + 1, .tup xs, h => by
    rw [eqvD]
    exact eqvDs_refl xs fun d hd => h.sub d hd
  | 0, .lst xs, h => by cases h
  | n + 1, .lst xs, h => by
    rw [eqvD]
    exact eqvDs_refl xs fun d hd => (by cases h with | lst h1 h2 => exact h1 d hd)
  | _, .ptup _, h => by cases h
  | _, .ref _, h => by cases h
  | _, .fn _, h => by cases h
  | _, .ty _, h => by cases h
  | _, .scr _, h => by cases h
theorem eqvDs_refl : ∀ {n : Nat} (xs : List D), (∀ d ∈ xs, Ok n d) → eqvDs xs xs = true
  | _, [], _ => rfl
  | _, d :: r, h => by
    rw [eqvDs, eqvD_refl d (h d (by simp)), eqvDs_refl r fun e he => h e (List.mem_cons_of_mem _ he)]
    rfl
end
theorem py0s_any {p : PyData} {a : D} (ha : py0 a = some p) : ∀ (xs : List D) (qs : List PyData), py0s xs = some qs → (qs.any fun z => PyData.eqv z p) = xs.any fun x => eqvD x a
  | [], qs, h => by cases h; rfl
  | x :: xs, qs, h => by
    simp only [py0s] at h
    split at h
    · rename_i q qs' hq hqs
      cases h
      rw [List.any_cons, List.any_cons, py0s_any ha xs qs' hqs, eqv_py x a q p hq ha]
    · cases h
theorem inL_ok {n m : Nat} {a : D} {xs : List D} {M : MH} (hn : n ≤ 60) (hm : m ≤ 60) (ha : Ok n a) (hb : Ok m (.lst xs)) : cmpD .In a (.lst xs) M = some (xs.any fun x => eqvD x a) := by
  obtain ⟨p, p1, p2⟩ := shaped_ok hn ha
  obtain ⟨q, q1, q2⟩ := shaped_ok hm hb
  show inD M a (.lst xs) = _
  have e1 : pyM M (.lst xs) = some q := q1
  simp only [py0] at q1
  split at q1
  · rename_i qs hqs
    cases q1
    unfold inD
    simp only [p1, e1, p2, q2, Bool.and_self, if_true, py0s_any p1 xs qs hqs]
  · cases q1
theorem inT_ok {n m : Nat} {a : D} {xs : List D} {M : MH} (hn : n ≤ 60) (hm : m ≤ 60) (ha : Ok n a) (hb : Ok m (.tup xs)) : cmpD .In a (.tup xs) M = some (xs.any fun x => eqvD x a) := by
  obtain ⟨p, p1, p2⟩ := shaped_ok hn ha
  obtain ⟨q, q1, q2⟩ := shaped_ok hm hb
  show inD M a (.tup xs) = _
  have e1 : pyM M (.tup xs) = some q := q1
  simp only [py0] at q1
  split at q1
  · rename_i qs hqs
    cases q1
    unfold inD
    simp only [p1, e1, p2, q2, Bool.and_self, if_true, py0s_any p1 xs qs hqs]
  · cases q1
theorem notIn_of {a b : D} {M : MH} {k : Bool} (h : cmpD .In a b M = some k) : cmpD .NotIn a b M = some (!k) := by
  show (inD M a b).map (!·) = _
  rw [show inD M a b = _ from h]
  rfl
/-! ### shown -/
def rp (d : D) : Str := match py0 d with
  | some p => PyData.shown p
  | none => ""
theorem rp_ok {n : Nat} {d : D} {M : MH} (h : Ok n d) (hn : n ≤ 60) (hi : iB d = true) (hw : wt d ≤ 200000) : biRepr [d] M = .ok (.str (rp d)) M := by
  obtain ⟨p, h1, h2, h3, h4, h5⟩ := shows_ok h hi
  have hl : p.shown.length ≤ sizeLine := by
    have := PyData.shown_le_bulk 64 (by decide) p h3
    rw [h4] at this
    have q : 66 * 200000 + 64 ≤ sizeLine := by decide
    omega
  have e : reprD d M = some p.shown := by
    cases h with
    | non => cases h1; rw [PyData.shown_none]; rfl
    | bl b => cases h1; rw [PyData.shown_bool]; rfl
    | int i =>
      cases h1
      have : i.natAbs.log2 < 1920 := by
        simpa only [PyData.showable, decide_eq_true_eq] using h2
      rw [PyData.shown_int]
      simp only [reprD, this, if_true]
    | str a b =>
      rename_i x
      cases h1
      have : (PyData.showable (.str x) && decide ((PyData.shown (.str x)).length ≤ sizeLine)) = true := by
        rw [h2, decide_eq_true hl]; rfl
      simp only [reprD, this, if_true]
    | tup a b =>
      have : (p.showable && decide (p.depth ≤ 60) && decide (p.shown.length ≤ sizeLine)) = true := by
        rw [h2, decide_eq_true hl, decide_eq_true (show p.depth ≤ 60 by omega)]; rfl
      simp only [reprD, isTree, if_true, pyM, h1, this]
    | lst a b =>
      have : (p.showable && decide (p.depth ≤ 60) && decide (p.shown.length ≤ sizeLine)) = true := by
        rw [h2, decide_eq_true hl, decide_eq_true (show p.depth ≤ 60 by omega)]; rfl
      simp only [reprD, isTree, if_true, pyM, h1, this]
  show resO M ((reprD d M).map D.str) = _
  rw [e]
  show _ = Res.ok (D.str (rp d)) M
  unfold rp
  rw [h1]
  rfl
end Mq
/-! Mq4: texts of ints. -/
namespace Mq
open PySem PySem.Spec PyProof.Rows L2 Mj Mw
theorem rp_int (i : Int) : rp (.int i) = Str.ofString (toString i) := PyData.shown_int i
theorem rp_str (x : Str) : rp (.str x) = PyData.shown (.str x) := rfl
theorem ofString_inj {a b : String} (h : Str.ofString a = Str.ofString b) : a = b := by
  rw [PySem.Str.ofString_eq_toList, PySem.Str.ofString_eq_toList] at h
  have h1 : a.toList.map Char.toNat = b.toList.map Char.toNat := by
    have := congrArg (fun x : Str => x.cps.toList) h
    simpa using this
  have h2 : a.toList = b.toList := by
    refine List.map_inj_right (f := Char.toNat) (fun x y e => ?_) |>.mp h1
    exact Char.toNat_inj.mp e
  exact String.toList_inj.mp h2
theorem nat_repr_inj {a b : Nat} (h : a.repr = b.repr) : a = b := by
  have h1 := congrArg String.toList h
  rw [Nat.toList_repr, Nat.toList_repr] at h1
  rw [← Nat.ofDigitChars_ten_toDigits (n := a), ← Nat.ofDigitChars_ten_toDigits (n := b), h1]
theorem digit_of {c : Char} {n : Nat} (h : c ∈ n.repr.toList) : c.isDigit = true := by
  rw [Nat.toList_repr] at h
  exact Nat.isDigit_of_mem_toDigits (by decide) (by decide) h
theorem int_text_inj {i j : Int} (h : toString i = toString j) : i = j := by
  rw [Int.toString_eq_repr, Int.toString_eq_repr, Int.repr_eq_if, Int.repr_eq_if] at h
  have neg : ∀ (a b : Nat), a.repr ≠ "-" ++ b.repr := by
    intro a b e
    have h1 := congrArg String.toList e
    have h2 : '-' ∈ a.repr.toList := by rw [h1]; simp
    have := digit_of h2
    revert this
    decide
  split at h <;> split at h
  · have := nat_repr_inj h
    omega
  · exact absurd h (neg _ _)
  · exact absurd h.symm (neg _ _)
  · have h1 : ((-i).toNat).repr = ((-j).toNat).repr := by
      have e := congrArg String.toList h
      rw [String.toList_append, String.toList_append] at e
      have := List.append_cancel_left e
      exact String.toList_inj.mp this
    have := nat_repr_inj h1
    omega
theorem rp_int_inj {i j : Int} (h : rp (.int i) = rp (.int j)) : i = j := by
  rw [rp_int, rp_int] at h
  exact int_text_inj (ofString_inj h)
theorem rp_int_beq (i j : Int) : (rp (.int i) == rp (.int j)) = (i == j) := by
  by_cases h : i = j
  · subst h; simp
  · rw [beq_eq_false_iff_ne.mpr h, beq_eq_false_iff_ne]
    exact fun e => h (rp_int_inj e)
theorem rp_int_ne {d : D} {k : Nat} (hk : k ≠ 45 ∧ (k < 48 ∨ 57 < k)) (h : k ∈ (rp d).cps.toList) (i : Int) : (rp (.int i) == rp d) = false := by
  rw [beq_eq_false_iff_ne]
  intro e
  rw [← e] at h
  exact PyProof.Rows.shown_int_free' hk i h
theorem rp_int_strOk (i : Int) : PyData.strOk (rp (.int i)) = true := by
  refine asc_ok ?_
  unfold asc
  rw [List.all_eq_true]
  intro c hc
  rw [decide_eq_true_eq]
  by_cases h : c < 58
  · omega
  · exact absurd hc (PyProof.Rows.shown_int_free' ⟨by omega, .inr (by omega)⟩ i)
theorem rp_int_len {i : Int} (h : i.natAbs < 10 ^ 61) : (rp (.int i)).length ≤ 62 := by
  rw [rp_int, PySem.ofString_length]
  exact int_text_length_le10 (by decide) h
/-! ### texts of plain words -/
def lowC (c : Nat) : Bool := decide (97 ≤ c) && decide (c ≤ 122)
theorem reprChar_low {c : Nat} (h : lowC c = true) : Builtin.Str.reprChar 39 c = [c] := by
  unfold lowC at h
  rw [Bool.and_eq_true, decide_eq_true_eq, decide_eq_true_eq] at h
  have hp : Unicode.isPrintable c = true := by
    rw [PyProof.Rows.cls_isprintable c (by omega)]
    have : ∀ c, c < 128 → 97 ≤ c → c ≤ 122 → PyProof.Rows.inR 32 126 ⟨#[c]⟩ = true := by decide +kernel
    exact this c (by omega) h.1 h.2
  unfold Builtin.Str.reprChar
  have e1 : (c == 39 || c == 92) = false := by
    rw [Bool.or_eq_false_iff]
    exact ⟨beq_eq_false_iff_ne.mpr (by omega), beq_eq_false_iff_ne.mpr (by omega)⟩
  have e2 : (c == 10) = false := beq_eq_false_iff_ne.mpr (by omega)
  have e3 : (c == 13) = false := beq_eq_false_iff_ne.mpr (by omega)
  have e4 : (c == 9) = false := beq_eq_false_iff_ne.mpr (by omega)
  simp only [e1, e2, e3, e4, hp, Bool.false_eq_true, if_false, if_true]
theorem fold_low : ∀ (l : List Nat) (acc : Array Nat), l.all lowC = true → l.foldl (fun out c => out ++ (Builtin.Str.reprChar 39 c).toArray) acc = acc ++ l.toArray
  | [], acc, _ => by simp
  | c :: r, acc, h => by
    rw [List.all_cons, Bool.and_eq_true] at h
    rw [List.foldl_cons, reprChar_low h.1, fold_low r _ h.2]
    simp
theorem quote_low {x : Str} (h : x.cps.toList.all lowC = true) : reprQuote x = 39 := by
  unfold reprQuote
  have : x.cps.contains 39 = false := by
    rw [← Array.contains_toList, ← Bool.not_eq_true]
    intro e
    have := List.all_eq_true.mp h 39 (List.contains_iff_mem.mp e)
    revert this
    decide
  simp only [this, Bool.false_and, Bool.false_eq_true, if_false]
theorem rp_low {x : Str} (h : x.cps.toList.all lowC = true) : rp (.str x) = ⟨(39 :: x.cps.toList ++ [39]).toArray⟩ := by
  rw [rp_str, PyData.shown_str]
  unfold reprText
  rw [quote_low h]
  have e := fold_low x.cps.toList #[39] h
  rw [Array.foldl_toList] at e
  show Str.mk ((x.cps.foldl (fun out c => out ++ (Builtin.Str.reprChar 39 c).toArray) #[39]).push 39) = _
  rw [e]
  simp
theorem rp_low_beq {x y : Str} (hx : x.cps.toList.all lowC = true) (hy : y.cps.toList.all lowC = true) : (rp (.str x) == rp (.str y)) = (x == y) := by
  by_cases h : x = y
  · subst h; simp
  · rw [beq_eq_false_iff_ne.mpr h, beq_eq_false_iff_ne]
    intro e
    rw [rp_low hx, rp_low hy] at e
    have e1 := congrArg (fun z : Str => z.cps.toList) e
    simp only [List.toList_toArray, List.cons_append, List.cons.injEq, true_and] at e1
    have e2 := List.append_cancel_right e1
    refine h ?_
    cases x; cases y
    simp only at e2
    rw [Array.toList_inj.mp e2]
theorem rp_low_ne {x : Str} {d : D} (hx : x.cps.toList.all lowC = true) (h : (rp d).cps.toList.head? ≠ some 39) : (rp (.str x) == rp d) = false := by
  rw [beq_eq_false_iff_ne]
  intro e
  rw [← e, rp_low hx] at h
  exact h (by simp)
theorem low_asc {x : Str} (hx : x.cps.toList.all lowC = true) : asc x = true := by
  unfold asc
  rw [List.all_eq_true] at hx ⊢
  intro c hc
  have := hx c hc
  unfold lowC at this
  rw [Bool.and_eq_true, decide_eq_true_eq, decide_eq_true_eq] at this
  rw [decide_eq_true_eq]
  omega
theorem rp_low_asc {x : Str} (hx : x.cps.toList.all lowC = true) : asc (rp (.str x)) = true := by
  rw [rp_low hx]
  have := low_asc hx
  unfold asc at this ⊢
  simp only [List.toList_toArray, List.cons_append, List.all_cons, List.all_append, this, List.all_nil]
  decide
theorem rp_low_len {x : Str} (hx : x.cps.toList.all lowC = true) : (rp (.str x)).length = x.length + 2 := by
  rw [rp_low hx]
  simp [Str.length]
theorem asc_app {x y : Str} : asc (x ++ y) = (asc x && asc y) := by
  unfold asc
  rw [PySem.Str.cps_append, Array.toList_append, List.all_append]
theorem asc_join {sep : Str} (hs : asc sep = true) : ∀ l : List Str, (∀ x ∈ l, asc x = true) → asc (Str.join sep l) = true
  | [], _ => by
    show asc Str.empty = true
    decide +kernel
  | [x], h => h x (by simp)
  | x :: y :: r, h => by
    have ih := asc_join hs (y :: r) fun z hz => h z (List.mem_cons_of_mem _ hz)
    show asc (x ++ sep ++ Str.join sep (y :: r)) = true
    rw [asc_app, asc_app, h x (by simp), hs, ih]
    rfl
mutual
/-- all texts are plain words -/
def lowD : D → Bool
  | .str x => x.cps.toList.all lowC
  | .tup xs => lowDs xs
  | .lst xs => lowDs xs
  | _ => true
def lowDs : List D → Bool
  | [] => true
  | d :: r => lowD d && lowDs r
end
theorem asc_int (i : Int) : asc (PyData.shown (.int i)) = true := by
  unfold asc
  rw [List.all_eq_true]
  intro c hc
  rw [decide_eq_true_eq]
  by_cases h : c < 58
  · omega
  · exact absurd hc (PyProof.Rows.shown_int_free' ⟨by omega, .inr (by omega)⟩ i)
mutual
theorem asc_shown : ∀ (d : D) (p : PyData), py0 d = some p → lowD d = true → asc p.shown = true
  | .non, p, h, _ => by
    cases h
    rw [PyData.shown_none]
    decide +kernel
  | .bl b, p, h, _ => by
    cases h
    rw [PyData.shown_bool]
    cases b <;> decide +kernel
  | .int i, p, h, _ => by
    cases h
    exact asc_int i
  | .str x, p, h, hl => by
    cases h
    exact rp_low_asc hl
  | .tup xs, p, h, hl => by
    simp only [py0] at h
    split at h
    · rename_i ps hp
      cases h
      have := asc_showns xs ps hp hl
      rw [PyData.shown_tuple, asc_app, asc_app, asc_join (by decide +kernel) _ this]
      split <;> decide +kernel
    · cases h
  | .lst xs, p, h, hl => by
    simp only [py0] at h
    split at h
    · rename_i ps hp
      cases h
      have := asc_showns xs ps hp hl
      rw [PyData.shown_list, asc_app, asc_app, asc_join (by decide +kernel) _ this]
      decide +kernel
    · cases h
  | .ptup _, _, h, _ => by cases h
  | .ref _, _, h, _ => by cases h
  | .fn _, _, h, _ => by cases h
  | .ty _, _, h, _ => by cases h
  | .scr _, _, h, _ => by cases h
theorem asc_showns : ∀ (ds : List D) (ps : List PyData), py0s ds = some ps → lowDs ds = true → ∀ x ∈ PyData.shownAll ps, asc x = true
  | [], ps, h, _ => by
    cases h
    rw [PyData.shownAll_nil]
    simp
  | d :: r, ps, h, hl => by
    simp only [py0s] at h
    split at h
    · rename_i p ps' hp hps
      cases h
      rw [lowDs, Bool.and_eq_true] at hl
      rw [PyData.shownAll_cons]
      intro x hx
      rcases List.mem_cons.mp hx with rfl | hx
      · exact asc_shown d p hp hl.1
      · exact asc_showns r ps' hps hl.2 x hx
    · cases h
end
theorem asc_rp {d : D} (h : lowD d = true) : asc (rp d) = true := by
  unfold rp
  cases hp : py0 d with
  | none => decide +kernel
  | some p => exact asc_shown d p hp h
/-- a list of two like texts in the heap -/
theorem told_eq {p : Nat} {x : Str} {M : MH} (h : M[p]? = some (.lst [.str x, .str x])) (hx : asc x = true) : cmpD .Eq (.ref p) (.lst [.str x, .str x]) M = some true := by
  have hs : SeqAt.shaped (.list [.str x, .str x]) = true := by
    unfold SeqAt.shaped
    have e : PyData.canLay0 (.list [.str x, .str x]) = true := by
      show PyData.canLayAll0 [.str x, .str x] = true
      simp only [PyData.canLayAll0, PyData.canLay0, asc_ok hx, Bool.and_self]
    rw [e]
    rfl
  show eqD M (.ref p) (.lst [.str x, .str x]) = _
  have e1 : pyS M (.ref p) = some (.list [.str x, .str x]) := by simp only [pyS, pyM, h, py0s, py0]
  have e2 : pyS M (.lst [.str x, .str x]) = some (.list [.str x, .str x]) := rfl
  simp only [eqD, e1, e2, hs, Bool.and_self, if_true]
  show some ((x == x) && ((x == x) && true)) = _
  simp
theorem told_ne {p : Nat} {x : Str} {M : MH} (h : M[p]? = some (.lst [.str x, .str x])) (hx : asc x = true) : cmpD .NotEq (.ref p) (.lst [.str x, .str x]) M = some false := by
  have e := told_eq h hx
  show (eqS M (.ref p) (.lst [.str x, .str x])).map (!·) = _
  rw [show eqS M (.ref p) (.lst [.str x, .str x]) = some true from e]
  rfl
theorem rp_non : rp .non = "None" := PyData.shown_none
theorem rp_true : rp (.bl true) = "True" := PyData.shown_bool true
theorem rp_false : rp (.bl false) = "False" := PyData.shown_bool false
theorem rp_k : rp (.str "k") = "'k'" := by
  rw [rp_low (by decide +kernel)]
  decide +kernel
theorem rp_a : rp (.str "a") = "'a'" := by
  rw [rp_low (by decide +kernel)]
  decide +kernel
theorem rp_tup1 (d : D) {p : PyData} (h : py0 d = some p) : rp (.tup [d]) = ("(" : Str) ++ rp d ++ ",)" := by
  have e : py0 (.tup [d]) = some (.tuple [p]) := by simp only [py0, py0s, h]
  have e2 : rp (.tup [d]) = PyData.shown (.tuple [p]) := by unfold rp; rw [e]
  have e3 : rp d = PyData.shown p := by unfold rp; rw [h]
  rw [e2, e3, PyData.shown_tuple]
  rfl
end Mq
/-! P1: houses; what the defs of kinds and plainsteps give. -/
namespace Law
open PySem PySem.Spec PyProof.Rows L2 Mj Mq
local macro_rules
  | `(tactic| simp_arith [$ls,*] $[at $l]?) => `(tactic| simp only [Mq.vr_ok, Mq.up_ok, Mq.tr_ok, Mq.td_ok, Mq.td_exc, Mq.td_bad, Mq.tru1_ok, Mq.tru1_exc, Mq.tru1_bad, Mq.tnot_ok, Mq.tnot_exc, Mq.tnot_bad, Mq.ev_var, Mq.ev_const, Mq.ev_glob, Mq.kBin2_ok, Mq.kBin2_exc, Mq.kBin2_bad, Mq.kBin1_ok, Mq.kBin1_exc, Mq.kBin1_bad, Mq.ev_bin, Mq.negD_int, Mq.kNeg_ok, Mq.kNeg_exc, Mq.kNeg_bad, Mq.ev_neg, Mq.kNotE_ok, Mq.kNotE_exc, Mq.ev_not, Mq.ev_and, Mq.ev_or, Mq.brA_ok, Mq.brO_ok, Mq.kAnd_ok, Mq.kAnd_exc, Mq.evAnd_1, Mq.evAnd_2, Mq.kAndT_ok, Mq.kAndT_exc, Mq.evAndT_1, Mq.evAndT_2, Mq.kOr_ok, Mq.kOr_exc, Mq.evOr_1, Mq.evOr_2, Mq.kOrT_ok, Mq.kOrT_exc, Mq.evOrT_1, Mq.evOrT_2, Mq.kCmp2_ok, Mq.kCmp2_exc, Mq.kCmp2_bad, Mq.kCmp1_ok, Mq.kCmp1_exc, Mq.kCmp1_bad, Mq.ev_cmp, Mq.evT_cmp, Mq.kCh4_ok, Mq.kCh4_exc, Mq.kCh4_bad, Mq.kCh3_ok, Mq.kCh2_ok, Mq.kCh2_exc, Mq.kCh2_bad, Mq.kCh1_ok, Mq.kCh1_exc, Mq.kCh1_bad, Mq.ev_chain, Mq.evT_chain, Mq.kIfe_ok, Mq.kIfe_exc, Mq.ev_ife, Mq.kTup_ok, Mq.kTup_exc, Mq.ev_tup, Mq.kLst_ok, Mq.kLst_exc, Mq.ev_lst, Mq.kDict_ok, Mq.ev_dict, Mq.kIdx2_ok, Mq.kIdx2_exc, Mq.kIdx2_bad, Mq.kIdx1_ok, Mq.kIdx1_exc, Mq.kIdx1_bad, Mq.ev_idx, Mq.kSl3_ok, Mq.kSl2_ok, Mq.kSl1_ok, Mq.kSl1_exc, Mq.kSl1_bad, Mq.ev_slice, Mq.revD_tup, Mq.kRev_ok, Mq.kRev_exc, Mq.kRev_bad, Mq.ev_revT, Mq.kCall_ok, Mq.kCall_exc, Mq.ev_call, Mq.kCallV_ok, Mq.ev_callV, Mq.kCallW_ok, Mq.ev_callW, Mq.kBi_ok, Mq.kBi_exc, Mq.ev_bi, Mq.kMeth2_ok, Mq.kMeth2_exc, Mq.kMeth1_ok, Mq.kMeth1_exc, Mq.kMeth1_bad, Mq.ev_meth, Mq.kComp_ok, Mq.ev_comp, Mq.kLam_ok, Mq.ev_lamcall, Mq.lzD_ok, Mq.kLz2_ok, Mq.kLz2_exc, Mq.kLz2_bad, Mq.kLz1_ok, Mq.kLz1_exc, Mq.kLz1_bad, Mq.ev_listZip, Mq.ev_ask, Mq.isX_ok, Mq.ev_isE, Mq.evT_isE, Mq.fldX_ok, Mq.ev_fldE, Mq.evT_not, Mq.evT_and, Mq.evT_or, Mq.evT_var, Mq.evT_call, Mq.evT_callV, Mq.evT_bi, Mq.evT_idx, Mq.kEs2_ok, Mq.kEs2_exc, Mq.kEs1_ok, Mq.kEs1_exc, Mq.evs_nil, Mq.evs_cons, Mq.intO_ok, Mq.kO_ok, Mq.evo_none, Mq.evo_some, Mq.evIf_none, Mq.evIf_some, Mq.srcX_ok, Mq.kSeq_ok, Mq.evI_seq, Mq.kRng1_ok, Mq.evI_rng1, Mq.kRng22_ok, Mq.kRng21_ok, Mq.evI_rng2, Mq.zipD_tup, Mq.zipD_lst, Mq.kZip2_ok, Mq.kZip1_ok, Mq.evI_zip, Mq.enumD_lst, Mq.kEnum_ok, Mq.evI_enum, Mq.kSet_ok, Mq.kSet_exc, Mq.exS_set, Mq.kPar2_ok, Mq.kPar2_exc, Mq.kPar1_ok, Mq.kPar1_exc, Mq.exS_par, Mq.bdR_ok, Mq.kUnp_ok, Mq.kUnp_exc, Mq.exS_unp, Mq.kIx2_ok, Mq.kIx2_exc, Mq.kIx1_ok, Mq.kIx1_exc, Mq.exS_setIx, Mq.kExp_ok, Mq.kExp_exc, Mq.exS_expr, Mq.kRet_ok, Mq.kRet_exc, Mq.exS_ret, Mq.kIfs_ok, Mq.kIfs_exc, Mq.exS_ifs, Mq.kFor_ok, Mq.kFor_exc, Mq.exS_for, Mq.kRaise_ok, Mq.kRaise_exc, Mq.exS_raise, Mq.kTryE_nx, Mq.kTryE_rt, Mq.kTry_nx, Mq.kTry_rt, Mq.kTry_xc, Mq.exS_tryAs, Mq.kSt_nx, Mq.kSt_rt, Mq.kSt_xc, Mq.exSs_nil, Mq.exSs_cons, Mq.fin_nx, Mq.fin_rt, Mq.fin_xc, Mq.fin_ite, Mq.kSt_ite, Mq.kRet_ite, Mq.kSet_ite, Mq.ite_and, Mq.ite_or, Mq.ite_andD, Mq.ite_orD, Mq.bare_mk, Mq.sz_0, Mq.sz_1, Mq.sz_2, Mq.sz_3, Mq.sz_4, Mq.sz_5, Mq.sz_6, Mq.sz_7, Mq.sz_8, Mq.sz_9, Mq.sz_10, Mq.sz_11, Mq.sz_12, Mw.tru_non, Mw.tru_bl, Mw.tru_int, Mw.tru_tup, Mw.tru_lst, Mw.getL_lst, Mw.resO_some, Mw.resO_none, Mw.newL_false, Mw.newL_true, Mw.cmp_eq_int, Mw.cmp_ne_int, Mw.cmp_lt_int, Mw.cmp_le_int, Mw.cmp_gt_int, Mw.cmp_ge_int, Mw.cmp_eq_str, Mw.cmp_ne_str, Mw.bq_len, Mw.bq_isi, Mw.bq_int, Mw.bq_str, Mw.bq_ord, Mw.bq_all, Mw.bq_list, Mw.bq_tuple, Mw.bq_dict, Mw.bq_sorted, Mw.bq_repr, Mw.bq_min, Mw.bq_max, Mw.len_tup, Mw.len_lst, Mw.int_int, Mw.tuple_lst, Mw.list_tup_f, Mw.list_lst_f, Mw.idx_tup, Mw.idx_lst, Mw.src_tup, Mw.src_lst, Mw.add_int, Mw.sub_int, Mw.atI_0, Mw.atI_1, Mw.atI_2, Mw.atI_3, Mw.atI_4, Mq.ii_int, Mq.ii_bl, Mq.ii_str, Mq.ii_non, Mq.ii_tup, Mq.ii_lst, Mq.ib_int, Mq.ib_bl, Mq.ib_str, Mq.ib_non, Mq.ib_tup, Mq.ib_lst, Mq.is_int, Mq.is_bl, Mq.is_str, Mq.is_non, Mq.is_tup, Mq.is_lst, Mq.it_int, Mq.it_bl, Mq.it_str, Mq.it_non, Mq.it_tup, Mq.it_lst, Mq.il_int, Mq.il_bl, Mq.il_str, Mq.il_non, Mq.il_tup, Mq.il_lst, Mq.cis_int, Mq.cis_bl, Mq.cis_str, Mq.cis_non, Mq.cis_tup, Mq.cis_lst, Mq.cnis_int, Mq.cnis_bl, Mq.cnis_str, Mq.cnis_non, Mq.cnis_tup, Mq.cnis_lst, Mj.bindT, Mj.bindTs, Mj.wipeR, Mj.Tg.own, Mj.Tgs.own, List.getElem?_cons_zero, List.getElem?_cons_succ, List.set_cons_zero, List.set_cons_succ, if_true, Bool.false_eq_true, if_false, ite_false, ite_true, List.length_cons, List.length_nil, List.cons_append, List.nil_append, Bool.not_true, Bool.not_false, Bool.and_true, Bool.true_and, Bool.false_and, Bool.and_false, Bool.or_true, Bool.true_or, Bool.or_false, Bool.false_or, Bool.not_not, Nat.zero_add, and_self, Mj.pickAll, List.isEmpty_cons, List.isEmpty_nil, Nat.reduceAdd, Nat.reduceLeDiff, Nat.reduceEqDiff, eq_self, Int.reduceLT, Int.reduceLE, Int.reduceAdd, Int.reduceSub, Int.reduceToNat, decide_true, decide_false, Int.reduceNeg, Nat.reduceSub, $ls,*] $[at $l]?)
def intB : D → Bool
  | .int _ => true
  | _ => false
theorem s_is_integer (n : Nat) (d : D) (M : MH) (h : plain d = true) : callN T sub (n + 1) 0 [d] none M = .ok (.bl (intB d)) M := by
  rw [r_is_integer]
  cases d <;> first | (simp_arith [b_is_integer]; rfl) | cases h
theorem s_require_step (n : Nat) (b : Bool) (s w : D) (M : MH) : callN T sub (n + 1) 2 [.bl b, s, w] none M = if b = true then .ok .non M else .exc ⟨6, [("word", w), ("step", s)]⟩ M := by
  rw [r_require_step]
  cases b <;> simp_arith [b_require_step] <;> rfl
def nameS (x : Str) : Bool := (decide (1 ≤ x.length) && decide (x.length ≤ 8)) && x.cps.toList.all lowC
def nameB : D → Bool
  | .str x => nameS x
  | _ => false
theorem occ_letters (c : Nat) : (!(Builtin.Str.occurrences (Str.ofString "abcdefghijklmnopqrstuvwxyz") ⟨#[c]⟩ 0 (Str.ofString "abcdefghijklmnopqrstuvwxyz").length 1).isEmpty) = lowC c := by
  rw [PySem.StrLaws.found_one]
  have e : (Str.ofString "abcdefghijklmnopqrstuvwxyz").cps.toList = [97, 98, 99, 100, 101, 102, 103, 104, 105, 106, 107, 108, 109, 110, 111, 112, 113, 114, 115, 116, 117, 118, 119, 120, 121, 122] := by decide +kernel
  rw [e]
  unfold lowC
  rw [Bool.eq_iff_iff]
  simp
  omega
theorem src_str {x : Str} {M : MH} (h : x.length ≤ sizeLine) : srcOf M (.str x) = some (.vals (x.cps.toList.map chD)) := by
  simp only [srcOf, h, if_true]
  rfl
theorem all_bools {α : Type} (p : α → Bool) (xs : List α) {M : MH} : biAll [.lst (xs.map fun a => .bl (p a))] M = .ok (.bl (xs.all p)) M := by
  have h : boolsOf (xs.map fun a => D.bl (p a)) = some (xs.map p) := by
    induction xs with
    | nil => rfl
    | cons x r ih => simp only [List.map_cons, boolsOf, ih]; rfl
  simp only [biAll, Mw.getL_lst, Option.bind_some, h]
  rw [List.all_map]
  rfl
theorem in_letters (c : Nat) (M : MH) : cmpD .In (chD c) (.str "abcdefghijklmnopqrstuvwxyz") M = some (lowC c) := congrArg some (occ_letters c)
theorem s_is_name (n : Nat) (d : D) (M : MH) (h : plain d = true) (hf : fits d) : callN T sub (n + 1) 1 [d] none M = .ok (.bl (nameB d)) M := by
  rw [r_is_name]
  cases d with
  | str x =>
    have hx : x.length ≤ sizeLine := hf
    have c1 : (decide ((1 : Int) ≤ x.length) && decide ((x.length : Int) ≤ 8)) = (decide (1 ≤ x.length) && decide (x.length ≤ 8)) := by
      rw [Bool.eq_iff_iff]
      simp
      omega
    simp_arith [b_is_name, len_str hx, c1]
    cases hc : (decide (1 ≤ x.length) && decide (x.length ≤ 8)) with
    | false => simp_arith [nameB, nameS, hc]
    | true =>
      simp_arith [q_is_name_0, src_str hx]
      rw [comp_okA chD x.cps.toList (src := .vals (x.cps.toList.map chD)) Mw.SrcIs.vals (fun c => .bl (lowC c)) (fun c => [some (.str x), some (chD c)]) (fun c _ => by
        refine ⟨rfl, ?_⟩
        simp_arith [in_letters])]
      simp_arith [all_bools, nameB, nameS, hc]
  | non => simp_arith [b_is_name, nameB]
  | bl b => simp_arith [b_is_name, nameB]
  | int i => simp_arith [b_is_name, nameB]
  | tup xs => simp_arith [b_is_name, nameB]
  | lst xs => simp_arith [b_is_name, nameB]
  | _ => cases h
/-! ### houses -/
inductive Kd where
  | rng (lo hi : Int) | cls (c : Str)
def Kd.d : Kd → D
  | .rng a b => .tup [.int a, .int b]
  | .cls c => .str c
abbrev Lot := List (Str × Kd)
abbrev Sch := List (Str × Lot)
def fldD (f : Str × Kd) : D := .tup [.str f.1, f.2.d]
def lotD (l : Lot) : D := .tup (l.map fldD)
def clsD (c : Str × Lot) : D := .tup [.str c.1, lotD c.2]
def schD (s : Sch) : D := .tup (s.map clsD)
structure Ob where
  n : Int
  c : Str
  vs : List D
def Ob.d (o : Ob) : D := .tup [.int o.n, .str o.c, .tup o.vs]
def houseD (s : Sch) (nx : Int) (os : List Ob) : D := .tup [schD s, .int nx, .tup (os.map Ob.d)]
def findOb (os : List Ob) : D → Option Ob
  | .int i => os.find? fun o => o.n == i
  | _ => none
theorem s_object_of (n : Nat) (s : Sch) (nx : Int) (os : List Ob) (d : D) (hd : plain d = true) (M : MH) :
    callN T sub (n + 2) 3 [houseD s nx os, d] none M = match findOb os d with
      | some o => .ok o.d M
      | none => .exc ⟨5, [("number", d)]⟩ M := by
  rw [r_object_of]
  simp_arith [b_object_of, houseD]
  obtain ⟨f, M', e, r⟩ := for_suf (src := .vals (os.map Ob.d)) (M := M) (E := ⟨callN T sub (n + 1), noAsk, none, sub⟩) (ρ := [some (.tup [schD s, .int nx, .tup (os.map Ob.d)]), some d, none]) (tg := .name 2) (body := l_object_of_0) Ob.d os
    (fun r ρ M' => M' = M ∧ findOb os d = findOb r d ∧ ∃ x, ρ = [some (.tup [schD s, .int nx, .tup (os.map Ob.d)]), some d, x])
    (fun f M' => M' = M ∧ match f with
      | .rt v => ∃ o, findOb os d = some o ∧ v = o.d
      | .nx ρ => findOb os d = none ∧ ∃ x, ρ = [some (.tup [schD s, .int nx, .tup (os.map Ob.d)]), some d, x]
      | .xc _ _ => False) (fun r ρ M' h => by rw [h.1]; exact Mw.SrcIs.vals) ⟨rfl, rfl, _, rfl⟩ (by
      rintro ρ M' ⟨rfl, h, x, rfl⟩
      refine ⟨rfl, ?_, x, rfl⟩
      rw [h]
      cases d <;> rfl) (by
      rintro o r ρ M' _ ⟨rfl, h, x, rfl⟩
      refine ⟨_, rfl, ?_⟩
      cases d with
      | int j =>
        by_cases hj : o.n = j
        · refine ⟨.rt o.d, M', ?_, rfl, o, ?_, rfl⟩
          · simp_arith [l_object_of_0, s_is_integer n _ _ hd, intB, Ob.d, hj, beq_self_eq_true]
          · rw [h]
            simp [findOb, hj]
        · refine ⟨.nx [some (.tup [schD s, .int nx, .tup (os.map Ob.d)]), some (.int j), some o.d], M', ?_, rfl, ?_, _, rfl⟩
          · simp_arith [l_object_of_0, s_is_integer n _ _ hd, intB, Ob.d, beq_eq_false_iff_ne.mpr hj]
          · rw [h]
            simp [findOb, hj]
      | _ =>
        first
        | (refine ⟨.nx [some (.tup [schD s, .int nx, .tup (os.map Ob.d)]), some _, some o.d], M', ?_, rfl, ?_, _, rfl⟩
           · simp_arith [l_object_of_0, s_is_integer n _ _ hd, intB]
           · rw [h]; rfl)
        | (cases hd; done))
  rw [e]
  obtain ⟨rfl, r⟩ := r
  cases f with
  | rt v =>
    obtain ⟨o, h1, rfl⟩ := r
    simp_arith [h1]
  | nx ρ =>
    obtain ⟨h1, x, rfl⟩ := r
    simp_arith [h1]
    rfl
  | xc _ _ => cases r
end Law
/-! P10: draws. -/
namespace Law
open PySem PySem.Spec PyProof.Rows L2 Mj Mq
local macro_rules
  | `(tactic| simp_arith [$ls,*] $[at $l]?) => `(tactic| simp only [Mq.vr_ok, Mq.up_ok, Mq.tr_ok, Mq.td_ok, Mq.td_exc, Mq.td_bad, Mq.tru1_ok, Mq.tru1_exc, Mq.tru1_bad, Mq.tnot_ok, Mq.tnot_exc, Mq.tnot_bad, Mq.ev_var, Mq.ev_const, Mq.ev_glob, Mq.kBin2_ok, Mq.kBin2_exc, Mq.kBin2_bad, Mq.kBin1_ok, Mq.kBin1_exc, Mq.kBin1_bad, Mq.ev_bin, Mq.negD_int, Mq.kNeg_ok, Mq.kNeg_exc, Mq.kNeg_bad, Mq.ev_neg, Mq.kNotE_ok, Mq.kNotE_exc, Mq.ev_not, Mq.ev_and, Mq.ev_or, Mq.brA_ok, Mq.brO_ok, Mq.kAnd_ok, Mq.kAnd_exc, Mq.evAnd_1, Mq.evAnd_2, Mq.kAndT_ok, Mq.kAndT_exc, Mq.evAndT_1, Mq.evAndT_2, Mq.kOr_ok, Mq.kOr_exc, Mq.evOr_1, Mq.evOr_2, Mq.kOrT_ok, Mq.kOrT_exc, Mq.evOrT_1, Mq.evOrT_2, Mq.kCmp2_ok, Mq.kCmp2_exc, Mq.kCmp2_bad, Mq.kCmp1_ok, Mq.kCmp1_exc, Mq.kCmp1_bad, Mq.ev_cmp, Mq.evT_cmp, Mq.kCh4_ok, Mq.kCh4_exc, Mq.kCh4_bad, Mq.kCh3_ok, Mq.kCh2_ok, Mq.kCh2_exc, Mq.kCh2_bad, Mq.kCh1_ok, Mq.kCh1_exc, Mq.kCh1_bad, Mq.ev_chain, Mq.evT_chain, Mq.kIfe_ok, Mq.kIfe_exc, Mq.ev_ife, Mq.kTup_ok, Mq.kTup_exc, Mq.ev_tup, Mq.kLst_ok, Mq.kLst_exc, Mq.ev_lst, Mq.kDict_ok, Mq.ev_dict, Mq.kIdx2_ok, Mq.kIdx2_exc, Mq.kIdx2_bad, Mq.kIdx1_ok, Mq.kIdx1_exc, Mq.kIdx1_bad, Mq.ev_idx, Mq.kSl3_ok, Mq.kSl2_ok, Mq.kSl1_ok, Mq.kSl1_exc, Mq.kSl1_bad, Mq.ev_slice, Mq.revD_tup, Mq.kRev_ok, Mq.kRev_exc, Mq.kRev_bad, Mq.ev_revT, Mq.kCall_ok, Mq.kCall_exc, Mq.ev_call, Mq.kCallV_ok, Mq.ev_callV, Mq.kCallW_ok, Mq.ev_callW, Mq.kBi_ok, Mq.kBi_exc, Mq.ev_bi, Mq.kMeth2_ok, Mq.kMeth2_exc, Mq.kMeth1_ok, Mq.kMeth1_exc, Mq.kMeth1_bad, Mq.ev_meth, Mq.kComp_ok, Mq.ev_comp, Mq.kLam_ok, Mq.ev_lamcall, Mq.lzD_ok, Mq.kLz2_ok, Mq.kLz2_exc, Mq.kLz2_bad, Mq.kLz1_ok, Mq.kLz1_exc, Mq.kLz1_bad, Mq.ev_listZip, Mq.ev_ask, Mq.isX_ok, Mq.ev_isE, Mq.evT_isE, Mq.fldX_ok, Mq.ev_fldE, Mq.evT_not, Mq.evT_and, Mq.evT_or, Mq.evT_var, Mq.evT_call, Mq.evT_callV, Mq.evT_bi, Mq.evT_idx, Mq.kEs2_ok, Mq.kEs2_exc, Mq.kEs1_ok, Mq.kEs1_exc, Mq.evs_nil, Mq.evs_cons, Mq.intO_ok, Mq.kO_ok, Mq.evo_none, Mq.evo_some, Mq.evIf_none, Mq.evIf_some, Mq.srcX_ok, Mq.kSeq_ok, Mq.evI_seq, Mq.kRng1_ok, Mq.evI_rng1, Mq.kRng22_ok, Mq.kRng21_ok, Mq.evI_rng2, Mq.zipD_tup, Mq.zipD_lst, Mq.kZip2_ok, Mq.kZip1_ok, Mq.evI_zip, Mq.enumD_lst, Mq.kEnum_ok, Mq.evI_enum, Mq.kSet_ok, Mq.kSet_exc, Mq.exS_set, Mq.kPar2_ok, Mq.kPar2_exc, Mq.kPar1_ok, Mq.kPar1_exc, Mq.exS_par, Mq.bdR_ok, Mq.kUnp_ok, Mq.kUnp_exc, Mq.exS_unp, Mq.kIx2_ok, Mq.kIx2_exc, Mq.kIx1_ok, Mq.kIx1_exc, Mq.exS_setIx, Mq.kExp_ok, Mq.kExp_exc, Mq.exS_expr, Mq.kRet_ok, Mq.kRet_exc, Mq.exS_ret, Mq.kIfs_ok, Mq.kIfs_exc, Mq.exS_ifs, Mq.kFor_ok, Mq.kFor_exc, Mq.exS_for, Mq.kRaise_ok, Mq.kRaise_exc, Mq.exS_raise, Mq.kTryE_nx, Mq.kTryE_rt, Mq.kTry_nx, Mq.kTry_rt, Mq.kTry_xc, Mq.exS_tryAs, Mq.kSt_nx, Mq.kSt_rt, Mq.kSt_xc, Mq.exSs_nil, Mq.exSs_cons, Mq.fin_nx, Mq.fin_rt, Mq.fin_xc, Mq.fin_ite, Mq.kSt_ite, Mq.kRet_ite, Mq.kSet_ite, Mq.ite_and, Mq.ite_or, Mq.ite_andD, Mq.ite_orD, Mq.bare_mk, Mq.sz_0, Mq.sz_1, Mq.sz_2, Mq.sz_3, Mq.sz_4, Mq.sz_5, Mq.sz_6, Mq.sz_7, Mq.sz_8, Mq.sz_9, Mq.sz_10, Mq.sz_11, Mq.sz_12, Mw.tru_non, Mw.tru_bl, Mw.tru_int, Mw.tru_tup, Mw.tru_lst, Mw.getL_lst, Mw.resO_some, Mw.resO_none, Mw.newL_false, Mw.newL_true, Mw.cmp_eq_int, Mw.cmp_ne_int, Mw.cmp_lt_int, Mw.cmp_le_int, Mw.cmp_gt_int, Mw.cmp_ge_int, Mw.cmp_eq_str, Mw.cmp_ne_str, Mw.bq_len, Mw.bq_isi, Mw.bq_int, Mw.bq_str, Mw.bq_ord, Mw.bq_all, Mw.bq_list, Mw.bq_tuple, Mw.bq_dict, Mw.bq_sorted, Mw.bq_repr, Mw.bq_min, Mw.bq_max, Mw.len_tup, Mw.len_lst, Mw.int_int, Mw.tuple_lst, Mw.list_tup_f, Mw.list_lst_f, Mw.idx_tup, Mw.idx_lst, Mw.src_tup, Mw.src_lst, Mw.add_int, Mw.sub_int, Mw.atI_0, Mw.atI_1, Mw.atI_2, Mw.atI_3, Mw.atI_4, Mq.ii_int, Mq.ii_bl, Mq.ii_str, Mq.ii_non, Mq.ii_tup, Mq.ii_lst, Mq.ib_int, Mq.ib_bl, Mq.ib_str, Mq.ib_non, Mq.ib_tup, Mq.ib_lst, Mq.is_int, Mq.is_bl, Mq.is_str, Mq.is_non, Mq.is_tup, Mq.is_lst, Mq.it_int, Mq.it_bl, Mq.it_str, Mq.it_non, Mq.it_tup, Mq.it_lst, Mq.il_int, Mq.il_bl, Mq.il_str, Mq.il_non, Mq.il_tup, Mq.il_lst, Mq.cis_int, Mq.cis_bl, Mq.cis_str, Mq.cis_non, Mq.cis_tup, Mq.cis_lst, Mq.cnis_int, Mq.cnis_bl, Mq.cnis_str, Mq.cnis_non, Mq.cnis_tup, Mq.cnis_lst, Mj.bindT, Mj.bindTs, Mj.wipeR, Mj.Tg.own, Mj.Tgs.own, List.getElem?_cons_zero, List.getElem?_cons_succ, List.set_cons_zero, List.set_cons_succ, if_true, Bool.false_eq_true, if_false, ite_false, ite_true, List.length_cons, List.length_nil, List.cons_append, List.nil_append, Bool.not_true, Bool.not_false, Bool.and_true, Bool.true_and, Bool.false_and, Bool.and_false, Bool.or_true, Bool.true_or, Bool.or_false, Bool.false_or, Bool.not_not, Nat.zero_add, and_self, Mj.pickAll, List.isEmpty_cons, List.isEmpty_nil, Nat.reduceAdd, Nat.reduceLeDiff, Nat.reduceEqDiff, eq_self, Int.reduceLT, Int.reduceLE, Int.reduceAdd, Int.reduceSub, Int.reduceToNat, decide_true, decide_false, Int.reduceNeg, Nat.reduceSub, $ls,*] $[at $l]?)
def feedO (ns : List Int) (a l c : Int) : MO := .dict [(.inr "cells", .lst (ns.map D.int)), (.inr "at", .int a), (.inr "left", .int l), (.inr "count", .int c)]
/-- the heap: the feed first -/
def Fed (ns : List Int) (R : MH) (M : MH) : Prop := ∃ a l c, 0 ≤ a ∧ ns.length ≤ 63 ∧ M = feedO ns a l c :: R
section
variable (ns : List Int) (a l c v : Int) (R : MH) (ρ : Rho)
theorem f_cells : idxD (.ref 0) (.str "cells") (feedO ns a l c :: R) = some (.lst (ns.map D.int)) := rfl
theorem f_at : idxD (.ref 0) (.str "at") (feedO ns a l c :: R) = some (.int a) := rfl
theorem f_left : idxD (.ref 0) (.str "left") (feedO ns a l c :: R) = some (.int l) := rfl
theorem f_count : idxD (.ref 0) (.str "count") (feedO ns a l c :: R) = some (.int c) := rfl
theorem p_at : putM (.ref 0) "at" (.int v) ρ (feedO ns a l c :: R) = .ok (.nx ρ) (feedO ns v l c :: R) := rfl
theorem p_left : putM (.ref 0) "left" (.int v) ρ (feedO ns a l c :: R) = .ok (.nx ρ) (feedO ns a v c :: R) := rfl
theorem p_count : putM (.ref 0) "count" (.int v) ρ (feedO ns a l c :: R) = .ok (.nx ρ) (feedO ns a l v :: R) := rfl
end
theorem ints_ok {ns : List Int} (h : ns.length ≤ 63) : Ok 1 (.lst (ns.map D.int)) := .lst (fun e he => by
  obtain ⟨i, _, rfl⟩ := List.mem_map.mp he
  exact .int _) (by rw [List.length_map]; omega)
theorem eq_ints {ns : List Int} {M : MH} (h : ns.length ≤ 63) : cmpD .Eq (.lst (ns.map D.int)) (.lst []) M = some ns.isEmpty := by
  rw [cmpEq_ok (by omega) (m := 1) (by omega) (ints_ok h) (okB_ok 1 _ rfl)]
  cases ns <;> rfl
theorem s_draw (n : Nat) (ns : List Int) (R : MH) (M : MH) (m : Int) (hM : Fed ns R M) (hm : 0 < m ∧ m < 1073741824) : ∃ r M', callN T sub (n + 1) 10 [.ref 0, .int m] none M = .ok (.int r) M' ∧ Fed ns R M' ∧ 0 ≤ r ∧ r < m := by
  obtain ⟨a, l, c, ha, hns, rfl⟩ := hM
  have fin : ∀ x : Int, 0 ≤ x % m ∧ x % m < m := fun x => ⟨Int.emod_nonneg _ (by omega), Int.emod_lt_of_pos _ hm.1⟩
  rw [r__law_draw]
  simp_arith [b__law_draw, f_count, p_count, f_cells, eq_ints hns]
  cases he : ns.isEmpty with
  | true =>
    simp_arith [f_count, mod_ok hm.1]
    exact ⟨_, _, rfl, ⟨a, l, c + 1, ha, hns, rfl⟩, fin _⟩
  | false =>
    have hpos : 0 < ns.length := by cases ns <;> simp_all
    simp_arith [f_left]
    by_cases hl : 0 < l
    · simp_arith [decide_eq_true hl, f_left, mod_ok hm.1, div_ok hm, p_left]
      exact ⟨_, _, rfl, ⟨a, _, c + 1, ha, hns, rfl⟩, fin _⟩
    · have h0 : 0 ≤ a % (ns.length : Int) := Int.emod_nonneg _ (by omega)
      have h1 : a % (ns.length : Int) < ns.length := Int.emod_lt_of_pos _ (by omega)
      have g : ns[(a % (ns.length : Int)).toNat]? = some (ns[(a % (ns.length : Int)).toNat]'(by omega)) := List.getElem?_eq_getElem _
      obtain ⟨z, hz⟩ : ∃ z : Int, atI (ns.map D.int) (a % (ns.length : Int)) = some (.int z) := ⟨_, by
        rw [Mw.atI_ok h0 (by rw [List.length_map]; exact h1), List.getElem?_map, g]
        rfl⟩
      have hp : ∀ M, binD false .Pow (.int 10) (.int 18) M = .ok (.int 1000000000000000000) M := fun M => rfl
      simp_arith [decide_eq_false hl, f_at, p_at, f_cells, List.length_map, mod_ok (show (0 : Int) < ns.length by omega), hz, hp]
      cases hb : (decide (1000000000000000000 ≤ z) && decide (a < (ns.length : Int))) with
      | true =>
        simp_arith [div_ok hm, p_left, mod_ok hm.1]
        exact ⟨_, _, rfl, ⟨a + 1, _, c + 1, by omega, hns, rfl⟩, fin _⟩
      | false =>
        have r1 : ∀ x : Int, 0 ≤ x % 2147483563 ∧ x % 2147483563 < 2147483563 := fun x => ⟨Int.emod_nonneg _ (by omega), Int.emod_lt_of_pos _ (by omega)⟩
        have r2 : ∀ x : Int, 0 ≤ x % 2147483497 ∧ x % 2147483497 < 2147483497 := fun x => ⟨Int.emod_nonneg _ (by omega), Int.emod_lt_of_pos _ (by omega)⟩
        have p1 : ∀ x M, binD false .Pow (.int (x % 2147483563)) (.int 3) M = .ok (.int ((x % 2147483563) ^ 3)) M := fun x M => pow_ok ⟨by omega, by have := r1 x; omega⟩
        have p2 : ∀ x M, binD false .Pow (.int (x % 2147483497)) (.int 3) M = .ok (.int ((x % 2147483497) ^ 3)) M := fun x M => pow_ok ⟨by omega, by have := r2 x; omega⟩
        have m1 : ∀ x M, binD false .Mult (.int 96401) (.int x) M = .ok (.int (96401 * x)) M := fun x M => mul_ok (by omega)
        have m2 : ∀ x M, binD false .Mult (.int 7400441) (.int x) M = .ok (.int (7400441 * x)) M := fun x M => mul_ok (by omega)
        have m3 : ∀ x M, binD false .Mult (.int 337) (.int x) M = .ok (.int (337 * x)) M := fun x M => mul_ok (by omega)
        have q1 : ∀ x M, binD false .Mod (.int x) (.int 1000001801) M = .ok (.int (x % 1000001801)) M := fun x M => mod_ok (by omega)
        have q2 : ∀ x M, binD false .Mod (.int x) (.int 2147483563) M = .ok (.int (x % 2147483563)) M := fun x M => mod_ok (by omega)
        have q3 : ∀ x M, binD false .Mod (.int x) (.int 2147483497) M = .ok (.int (x % 2147483497)) M := fun x M => mod_ok (by omega)
        have q4 : ∀ x M, binD false .Mod (.int x) (.int 2147483489) M = .ok (.int (x % 2147483489)) M := fun x M => mod_ok (by omega)
        have q5 : ∀ x M, binD false .FloorDiv (.int x) (.int 32) M = .ok (.int (x / 32)) M := fun x M => div_ok (by omega)
        simp_arith [f_count, p1, p2, m1, m2, m3, q1, q2, q3, q4, q5, mod_ok hm.1]
        exact ⟨_, _, rfl, ⟨a + 1, l, c + 1, by omega, hns, rfl⟩, fin _⟩
theorem s_any (n : Nat) (ns : List Int) (R : MH) (M : MH) (xs : List D) (hM : Fed ns R M) (h0 : xs ≠ []) (hl : xs.length ≤ 10000) : ∃ e M', e ∈ xs ∧ callN T sub (n + 2) 12 [.ref 0, .lst xs] none M = .ok e M' ∧ Fed ns R M' := by
  have hp : 0 < xs.length := by cases xs <;> simp_all
  obtain ⟨r, M', e, hF, r0, r1⟩ := s_draw n ns R M xs.length hM (by omega)
  have g : xs[r.toNat]? = some (xs[r.toNat]'(by omega)) := List.getElem?_eq_getElem _
  refine ⟨xs[r.toNat]'(by omega), M', List.getElem_mem _, ?_, hF⟩
  rw [r__law_any]
  have ha : atI xs r = some (xs[r.toNat]'(by omega)) := by
    rw [Mw.atI_ok r0 (by omega), g]
  simp_arith [b__law_any, e, ha]
theorem cut63 (ns : List Int) : Mj.cutD (ns.map D.int) none (some 63) = (ns.take 63).map D.int := by
  rw [show (63 : Int) = ((63 : Nat) : Int) from rfl, cut_to, List.map_take]
theorem s_feed (n : Nat) (ns : List Int) : callN T sub (n + 1) 9 [.scr ns] none [] = .ok (.ref 0) [feedO (ns.take 63) 0 0 0] := by
  rw [r__law_feed]
  have h : sliceD false (.scr ns) none (some 63) [] = .ok (.lst ((ns.take 63).map D.int)) [] := by
    show newL false (Mj.cutD (ns.map D.int) none (some 63)) [] = _
    rw [cut63]
    rfl
  simp_arith [b__law_feed, h, Nat.reduceLT]
  rfl
end Law
/-! P2: values, steps. -/
namespace Law
open PySem PySem.Spec PyProof.Rows L2 Mj Mq
local macro_rules
  | `(tactic| simp_arith [$ls,*] $[at $l]?) => `(tactic| simp only [Mq.vr_ok, Mq.up_ok, Mq.tr_ok, Mq.td_ok, Mq.td_exc, Mq.td_bad, Mq.tru1_ok, Mq.tru1_exc, Mq.tru1_bad, Mq.tnot_ok, Mq.tnot_exc, Mq.tnot_bad, Mq.ev_var, Mq.ev_const, Mq.ev_glob, Mq.kBin2_ok, Mq.kBin2_exc, Mq.kBin2_bad, Mq.kBin1_ok, Mq.kBin1_exc, Mq.kBin1_bad, Mq.ev_bin, Mq.negD_int, Mq.kNeg_ok, Mq.kNeg_exc, Mq.kNeg_bad, Mq.ev_neg, Mq.kNotE_ok, Mq.kNotE_exc, Mq.ev_not, Mq.ev_and, Mq.ev_or, Mq.brA_ok, Mq.brO_ok, Mq.kAnd_ok, Mq.kAnd_exc, Mq.evAnd_1, Mq.evAnd_2, Mq.kAndT_ok, Mq.kAndT_exc, Mq.evAndT_1, Mq.evAndT_2, Mq.kOr_ok, Mq.kOr_exc, Mq.evOr_1, Mq.evOr_2, Mq.kOrT_ok, Mq.kOrT_exc, Mq.evOrT_1, Mq.evOrT_2, Mq.kCmp2_ok, Mq.kCmp2_exc, Mq.kCmp2_bad, Mq.kCmp1_ok, Mq.kCmp1_exc, Mq.kCmp1_bad, Mq.ev_cmp, Mq.evT_cmp, Mq.kCh4_ok, Mq.kCh4_exc, Mq.kCh4_bad, Mq.kCh3_ok, Mq.kCh2_ok, Mq.kCh2_exc, Mq.kCh2_bad, Mq.kCh1_ok, Mq.kCh1_exc, Mq.kCh1_bad, Mq.ev_chain, Mq.evT_chain, Mq.kIfe_ok, Mq.kIfe_exc, Mq.ev_ife, Mq.kTup_ok, Mq.kTup_exc, Mq.ev_tup, Mq.kLst_ok, Mq.kLst_exc, Mq.ev_lst, Mq.kDict_ok, Mq.ev_dict, Mq.kIdx2_ok, Mq.kIdx2_exc, Mq.kIdx2_bad, Mq.kIdx1_ok, Mq.kIdx1_exc, Mq.kIdx1_bad, Mq.ev_idx, Mq.kSl3_ok, Mq.kSl2_ok, Mq.kSl1_ok, Mq.kSl1_exc, Mq.kSl1_bad, Mq.ev_slice, Mq.revD_tup, Mq.kRev_ok, Mq.kRev_exc, Mq.kRev_bad, Mq.ev_revT, Mq.kCall_ok, Mq.kCall_exc, Mq.ev_call, Mq.kCallV_ok, Mq.ev_callV, Mq.kCallW_ok, Mq.ev_callW, Mq.kBi_ok, Mq.kBi_exc, Mq.ev_bi, Mq.kMeth2_ok, Mq.kMeth2_exc, Mq.kMeth1_ok, Mq.kMeth1_exc, Mq.kMeth1_bad, Mq.ev_meth, Mq.kComp_ok, Mq.ev_comp, Mq.kLam_ok, Mq.ev_lamcall, Mq.lzD_ok, Mq.kLz2_ok, Mq.kLz2_exc, Mq.kLz2_bad, Mq.kLz1_ok, Mq.kLz1_exc, Mq.kLz1_bad, Mq.ev_listZip, Mq.ev_ask, Mq.isX_ok, Mq.ev_isE, Mq.evT_isE, Mq.fldX_ok, Mq.ev_fldE, Mq.evT_not, Mq.evT_and, Mq.evT_or, Mq.evT_var, Mq.evT_call, Mq.evT_callV, Mq.evT_bi, Mq.evT_idx, Mq.kEs2_ok, Mq.kEs2_exc, Mq.kEs1_ok, Mq.kEs1_exc, Mq.evs_nil, Mq.evs_cons, Mq.intO_ok, Mq.kO_ok, Mq.evo_none, Mq.evo_some, Mq.evIf_none, Mq.evIf_some, Mq.srcX_ok, Mq.kSeq_ok, Mq.evI_seq, Mq.kRng1_ok, Mq.evI_rng1, Mq.kRng22_ok, Mq.kRng21_ok, Mq.evI_rng2, Mq.zipD_tup, Mq.zipD_lst, Mq.kZip2_ok, Mq.kZip1_ok, Mq.evI_zip, Mq.enumD_lst, Mq.kEnum_ok, Mq.evI_enum, Mq.kSet_ok, Mq.kSet_exc, Mq.exS_set, Mq.kPar2_ok, Mq.kPar2_exc, Mq.kPar1_ok, Mq.kPar1_exc, Mq.exS_par, Mq.bdR_ok, Mq.kUnp_ok, Mq.kUnp_exc, Mq.exS_unp, Mq.kIx2_ok, Mq.kIx2_exc, Mq.kIx1_ok, Mq.kIx1_exc, Mq.exS_setIx, Mq.kExp_ok, Mq.kExp_exc, Mq.exS_expr, Mq.kRet_ok, Mq.kRet_exc, Mq.exS_ret, Mq.kIfs_ok, Mq.kIfs_exc, Mq.exS_ifs, Mq.kFor_ok, Mq.kFor_exc, Mq.exS_for, Mq.kRaise_ok, Mq.kRaise_exc, Mq.exS_raise, Mq.kTryE_nx, Mq.kTryE_rt, Mq.kTry_nx, Mq.kTry_rt, Mq.kTry_xc, Mq.exS_tryAs, Mq.kSt_nx, Mq.kSt_rt, Mq.kSt_xc, Mq.exSs_nil, Mq.exSs_cons, Mq.fin_nx, Mq.fin_rt, Mq.fin_xc, Mq.fin_ite, Mq.kSt_ite, Mq.kRet_ite, Mq.kSet_ite, Mq.ite_and, Mq.ite_or, Mq.ite_andD, Mq.ite_orD, Mq.bare_mk, Mq.sz_0, Mq.sz_1, Mq.sz_2, Mq.sz_3, Mq.sz_4, Mq.sz_5, Mq.sz_6, Mq.sz_7, Mq.sz_8, Mq.sz_9, Mq.sz_10, Mq.sz_11, Mq.sz_12, Mw.tru_non, Mw.tru_bl, Mw.tru_int, Mw.tru_tup, Mw.tru_lst, Mw.getL_lst, Mw.resO_some, Mw.resO_none, Mw.newL_false, Mw.newL_true, Mw.cmp_eq_int, Mw.cmp_ne_int, Mw.cmp_lt_int, Mw.cmp_le_int, Mw.cmp_gt_int, Mw.cmp_ge_int, Mw.cmp_eq_str, Mw.cmp_ne_str, Mw.bq_len, Mw.bq_isi, Mw.bq_int, Mw.bq_str, Mw.bq_ord, Mw.bq_all, Mw.bq_list, Mw.bq_tuple, Mw.bq_dict, Mw.bq_sorted, Mw.bq_repr, Mw.bq_min, Mw.bq_max, Mw.len_tup, Mw.len_lst, Mw.int_int, Mw.tuple_lst, Mw.list_tup_f, Mw.list_lst_f, Mw.idx_tup, Mw.idx_lst, Mw.src_tup, Mw.src_lst, Mw.add_int, Mw.sub_int, Mw.atI_0, Mw.atI_1, Mw.atI_2, Mw.atI_3, Mw.atI_4, Mq.ii_int, Mq.ii_bl, Mq.ii_str, Mq.ii_non, Mq.ii_tup, Mq.ii_lst, Mq.ib_int, Mq.ib_bl, Mq.ib_str, Mq.ib_non, Mq.ib_tup, Mq.ib_lst, Mq.is_int, Mq.is_bl, Mq.is_str, Mq.is_non, Mq.is_tup, Mq.is_lst, Mq.it_int, Mq.it_bl, Mq.it_str, Mq.it_non, Mq.it_tup, Mq.it_lst, Mq.il_int, Mq.il_bl, Mq.il_str, Mq.il_non, Mq.il_tup, Mq.il_lst, Mq.cis_int, Mq.cis_bl, Mq.cis_str, Mq.cis_non, Mq.cis_tup, Mq.cis_lst, Mq.cnis_int, Mq.cnis_bl, Mq.cnis_str, Mq.cnis_non, Mq.cnis_tup, Mq.cnis_lst, Mj.bindT, Mj.bindTs, Mj.wipeR, Mj.Tg.own, Mj.Tgs.own, List.getElem?_cons_zero, List.getElem?_cons_succ, List.set_cons_zero, List.set_cons_succ, if_true, Bool.false_eq_true, if_false, ite_false, ite_true, List.length_cons, List.length_nil, List.cons_append, List.nil_append, Bool.not_true, Bool.not_false, Bool.and_true, Bool.true_and, Bool.false_and, Bool.and_false, Bool.or_true, Bool.true_or, Bool.or_false, Bool.false_or, Bool.not_not, Nat.zero_add, and_self, Mj.pickAll, List.isEmpty_cons, List.isEmpty_nil, Nat.reduceAdd, Nat.reduceLeDiff, Nat.reduceEqDiff, eq_self, Int.reduceLT, Int.reduceLE, Int.reduceAdd, Int.reduceSub, Int.reduceToNat, decide_true, decide_false, Int.reduceNeg, Nat.reduceSub, $ls,*] $[at $l]?)
def nmOk (x : Str) : Prop := x.length ≤ 100000 ∧ PyData.strOk x = true
theorem nmOk.ok {x : Str} (h : nmOk x) (n : Nat) : Ok n (.str x) := .str h.1 h.2
/-- a value as it stands in houses -/
def vB : D → Bool
  | .int _ => true
  | .non => true
  | _ => false
theorem vB.plain {d : D} (h : vB d = true) : plain d = true := by cases d <;> first | rfl | cases h
/-- a house in order -/
structure HOk (s : Sch) (os : List Ob) : Prop where
  cls : ∀ c ∈ s, nmOk c.1 ∧ nameS c.1 = true ∧ c.2.length ≤ 20 ∧ (c.2.map (·.1)).Nodup ∧ ∀ f ∈ c.2, nmOk f.1 ∧ nameS f.1 = true ∧ ∀ k, f.2 = .cls k → nmOk k
  nd : (s.map (·.1)).Nodup
  sl : s.length ≤ 20
  ol : os.length ≤ 100
  on : (os.map (·.n)).Nodup
  obs : ∀ o ∈ os, nmOk o.c ∧ (∃ l, lookS s o.c = some l ∧ o.vs.length = l.length) ∧ ∀ v ∈ o.vs, vB v = true
theorem lookS_mem {α : Type} {s : List (Str × α)} {c : Str} {l : α} (h : lookS s c = some l) : (c, l) ∈ s := by
  unfold lookS at h
  cases hf : s.find? fun p => p.1 == c with
  | none => rw [hf] at h; cases h
  | some p =>
    rw [hf] at h
    cases h
    have h1 := List.mem_of_find?_eq_some hf
    have h2 := List.find?_some hf
    have : p.1 = c := by simpa using h2
    rw [← this]
    exact h1
/-- number and class of each -/
def duo (o : Ob) : D := .tup [.int o.n, .str o.c]
theorem duo_ok {os : List Ob} (hl : os.length ≤ 100) (h : ∀ o ∈ os, nmOk o.c) : Ok 2 (.lst (os.map duo)) := by
  refine .lst (fun d hd => ?_) (by rw [List.length_map]; omega)
  obtain ⟨o, ho, rfl⟩ := List.mem_map.mp hd
  refine .tup (fun e he => ?_) (by show 2 ≤ 1000; decide)
  simp only [List.mem_cons, List.not_mem_nil, or_false] at he
  rcases he with rfl | rfl
  · exact .int _
  · exact (h o ho).ok _
theorem in_duo {os : List Ob} {i : Int} {c : Str} {M : MH} (hl : os.length ≤ 100) (h : ∀ o ∈ os, nmOk o.c) (hc : nmOk c) : cmpD .In (.tup [.int i, .str c]) (.lst (os.map duo)) M = some (os.any fun o => (o.n == i) && (o.c == c)) := by
  have hk : Ok 1 (.tup [.int i, .str c]) := .tup (fun e he => by
    simp only [List.mem_cons, List.not_mem_nil, or_false] at he
    rcases he with rfl | rfl
    · exact .int _
    · exact hc.ok _) (by show 2 ≤ 1000; decide)
  rw [inL_ok (by omega) (by omega) hk (duo_ok hl h), List.any_map]
  congr 2
  funext o
  simp [Function.comp, duo, eqvD, eqvDs]
def valOk (os : List Ob) : Kd → D → Bool
  | .rng lo hi, .int i => decide (lo ≤ i) && decide (i ≤ hi)
  | .rng _ _, _ => false
  | .cls _, .non => true
  | .cls c, .int i => os.any fun o => (o.n == i) && (o.c == c)
  | .cls _, _ => false
theorem cut2 {o : Ob} {M : MH} : sliceD false (Ob.d o) none (some 2) M = .ok (duo o) M := by
  show Res.ok (D.tup (Mj.cutD _ none (some ((2 : Nat) : Int)))) M = _
  rw [cut_to]
  rfl
theorem s_is_value (n : Nat) (s : Sch) (nx : Int) (os : List Ob) (k : Kd) (d : D) (hd : plain d = true) (hl : os.length ≤ 100) (h : ∀ o ∈ os, nmOk o.c) (hk : ∀ c, k = .cls c → nmOk c) (M : MH) :
    callN T sub (n + 2) 4 [houseD s nx os, k.d, d] none M = .ok (.bl (valOk os k d)) M := by
  rw [r_is_value]
  cases k with
  | rng lo hi =>
    simp_arith [b_is_value, houseD, Kd.d, s_is_integer n d _ hd]
    cases d <;> simp_arith [intB, valOk]
  | cls c =>
    cases d with
    | int i =>
      simp_arith [b_is_value, houseD, Kd.d, s_is_integer n _ _ hd, intB, q_is_value_0]
      rw [comp_okA Ob.d os Mw.SrcIs.vals duo (fun o => [some (.tup [schD s, .int nx, .tup (os.map Ob.d)]), some (.str c), some (.int i), some o.d]) (fun o _ => by
        refine ⟨rfl, ?_⟩
        simp_arith [cut2])]
      simp_arith [in_duo hl h (hk c rfl), valOk]
    | _ => first | (simp_arith [b_is_value, houseD, Kd.d, s_is_integer n _ _ hd, intB, valOk]; done) | cases hd
/-- a pair of a zip -/
def fv (p : (Str × Kd) × D) : D := .ptup [fldD p.1, p.2]
theorem zip_fv {l : Lot} {vs : List D} {M : MH} : Mw.SrcIs (.zipL (l.map fldD) vs) M ((l.zip vs).map fv) := by
  have e : List.zipWith (fun x y => D.ptup [x, y]) (l.map fldD) vs = (l.zip vs).map fv := by
    rw [List.zipWith_map_left, List.zip, List.map_zipWith]
    rfl
  rw [← e]
  exact Mw.SrcIs.zip
def stepD (d : D) (vs : List D) : D := .tup [.str "make", d, .tup vs]
def badStep (st : D) (w : Str) : XV := ⟨6, [("word", .str w), ("step", st)]⟩
def goodVs (os : List Ob) (l : Lot) (vs : List D) : Bool := (l.zip vs).all fun p => valOk os p.1.2 p.2
def lotFor (s : Sch) : D → Option Lot
  | .str c => if nameS c = true then lookS s c else none
  | _ => none
def madeE (s : Sch) (nx : Int) (os : List Ob) (d : D) (vs : List D) : Except XV D :=
  match lotFor s d with
  | none => .error (badStep (stepD d vs) "class")
  | some l => if vs.length = l.length ∧ goodVs os l vs = true then .ok (.tup [schD s, .int (nx + 1), .tup (os.map Ob.d ++ [.tup [.int nx, d, .tup vs]])]) else .error (badStep (stepD d vs) "values")
def toRx (e : Except XV D) (M : MH) : Rx D := match e with
  | .ok d => .ok d M
  | .error x => .exc x M
theorem dict_sch {s : Sch} {M : MH} (h : (s.map (·.1)).Nodup) : biDict [schD s] M = .ok (.ref M.length) (M ++ [dictM lotD s]) := dictT_ok lotD h
theorem s_made (n : Nat) (s : Sch) (nx : Int) (os : List Ob) (d : D) (vs : List D) (hd : plain d = true) (hf : fits d) (hv : ∀ v ∈ vs, plain v = true) (hvl : vs.length ≤ 900) (H : HOk s os) (M : MH) :
    callN T sub (n + 3) 5 (houseD s nx os :: d :: vs) none M = toRx (madeE s nx os d vs) (M ++ [dictM lotD s]) := by
  rw [r_made _ _ _ _ hvl]
  have q := fun b w => s_require_step (n + 1) b (stepD d vs) w (M ++ [dictM lotD s])
  simp_arith [b_made, houseD, dict_sch H.nd, s_is_name (n + 1) d _ hd hf]
  have key : ∀ k, nameB d = true → cmpD .In d (.ref M.length) (M ++ [dictM lotD s]) = some k → (lotFor s d).isSome = k := by
    intro k h1 h2
    cases d with
    | str c =>
      rw [in_dict get_end] at h2
      cases h2
      have h1' : nameS c = true := h1
      simp only [lotFor, h1', if_true]
    | _ => cases h1
  cases hn : nameB d with
  | false =>
    have e : lotFor s d = none := by
      cases d with
      | str c =>
        have h1' : nameS c = false := hn
        simp only [lotFor, h1', Bool.false_eq_true, if_false]
      | _ => rfl
    have q1 := q false (.str "class")
    unfold stepD at q1
    simp_arith [q1, madeE, e, toRx]
    rfl
  | true =>
    cases d with
    | str c =>
      have e : lotFor s (.str c) = lookS s c := by
        have h1' : nameS c = true := hn
        simp only [lotFor, h1', if_true]
      simp_arith [in_dict (f := lotD) (s := s) (M := M ++ [dictM lotD s]) get_end]
      cases hl : lookS s c with
      | none =>
        have q1 := q false (.str "class")
        unfold stepD at q1
        simp_arith [Option.isSome_none, q1, madeE, e, hl, toRx]
        rfl
      | some l =>
        have q1 := q true (.str "class")
        unfold stepD at q1
        simp_arith [Option.isSome_some, q1, idx_dict (f := lotD) (s := s) (c := c) (M := M ++ [dictM lotD s]) get_end, hl, Option.map_some, lotD, List.length_map]
        have cl := (H.cls _ (lookS_mem hl)).2.2
        have q2 := fun b => q b (.str "values")
        unfold stepD at q2
        by_cases hvl2 : (vs.length : Int) = l.length
        · have hvl3 : vs.length = l.length := by omega
          simp_arith [hvl2, beq_self_eq_true, q2, q_made_0]
          rw [comp_okA fv (l.zip vs) zip_fv (fun p => .bl (valOk os p.1.2 p.2)) (fun p => [some (.tup [schD s, .int nx, .tup (os.map Ob.d)]), some (.str c), some (.tup vs), some (.tup (l.map fldD)), none, some (schD s), some (.int nx), some (.tup (os.map Ob.d)), some (.tup [.str "make", .str c, .tup vs]), some (.ref M.length), some p.2, some (.str p.1.1), some p.1.2.d]) (fun p hp => by
            refine ⟨rfl, ?_⟩
            have h1 := List.of_mem_zip (a := p.1) (b := p.2) hp
            have h2 := s_is_value n s nx os p.1.2 p.2 (hv _ h1.2) H.ol (fun o ho => (H.obs o ho).1) (fun k e => (cl.2.2 _ h1.1).2.2 k e) (M ++ [dictM lotD s])
            unfold houseD at h2
            simp_arith [h2])]
          simp_arith [all_bools, q2]
          show Mw.fin (kSt _ _ (kExp _ (if goodVs os l vs = true then _ else _))) = _
          unfold madeE
          rw [e, hl]
          cases hg : goodVs os l vs with
          | false =>
            simp_arith [hvl3, hg, true_and, toRx]
            rfl
          | true =>
            simp_arith [addT_ok (m := false) (xs := os.map Ob.d) (ys := [.tup [.int nx, .str c, .tup vs]]) (M := M ++ [dictM lotD s]) (by rw [List.length_map]; exact lt_size _ (by show os.length + 1 ≤ _; have := H.ol; omega)), hvl3, hg, true_and, toRx]
        · have hvl3 : ¬ vs.length = l.length := by omega
          simp_arith [beq_eq_false_iff_ne.mpr hvl2, q2, madeE, e, hl, hvl3, false_and, toRx]
          rfl
    | _ => cases hn
end Law
/-! P3: written, dropped. -/
namespace Law
open PySem PySem.Spec PyProof.Rows L2 Mj Mq
local macro_rules
  | `(tactic| simp_arith [$ls,*] $[at $l]?) => `(tactic| simp only [Mq.vr_ok, Mq.up_ok, Mq.tr_ok, Mq.td_ok, Mq.td_exc, Mq.td_bad, Mq.tru1_ok, Mq.tru1_exc, Mq.tru1_bad, Mq.tnot_ok, Mq.tnot_exc, Mq.tnot_bad, Mq.ev_var, Mq.ev_const, Mq.ev_glob, Mq.kBin2_ok, Mq.kBin2_exc, Mq.kBin2_bad, Mq.kBin1_ok, Mq.kBin1_exc, Mq.kBin1_bad, Mq.ev_bin, Mq.negD_int, Mq.kNeg_ok, Mq.kNeg_exc, Mq.kNeg_bad, Mq.ev_neg, Mq.kNotE_ok, Mq.kNotE_exc, Mq.ev_not, Mq.ev_and, Mq.ev_or, Mq.brA_ok, Mq.brO_ok, Mq.kAnd_ok, Mq.kAnd_exc, Mq.evAnd_1, Mq.evAnd_2, Mq.kAndT_ok, Mq.kAndT_exc, Mq.evAndT_1, Mq.evAndT_2, Mq.kOr_ok, Mq.kOr_exc, Mq.evOr_1, Mq.evOr_2, Mq.kOrT_ok, Mq.kOrT_exc, Mq.evOrT_1, Mq.evOrT_2, Mq.kCmp2_ok, Mq.kCmp2_exc, Mq.kCmp2_bad, Mq.kCmp1_ok, Mq.kCmp1_exc, Mq.kCmp1_bad, Mq.ev_cmp, Mq.evT_cmp, Mq.kCh4_ok, Mq.kCh4_exc, Mq.kCh4_bad, Mq.kCh3_ok, Mq.kCh2_ok, Mq.kCh2_exc, Mq.kCh2_bad, Mq.kCh1_ok, Mq.kCh1_exc, Mq.kCh1_bad, Mq.ev_chain, Mq.evT_chain, Mq.kIfe_ok, Mq.kIfe_exc, Mq.ev_ife, Mq.kTup_ok, Mq.kTup_exc, Mq.ev_tup, Mq.kLst_ok, Mq.kLst_exc, Mq.ev_lst, Mq.kDict_ok, Mq.ev_dict, Mq.kIdx2_ok, Mq.kIdx2_exc, Mq.kIdx2_bad, Mq.kIdx1_ok, Mq.kIdx1_exc, Mq.kIdx1_bad, Mq.ev_idx, Mq.kSl3_ok, Mq.kSl2_ok, Mq.kSl1_ok, Mq.kSl1_exc, Mq.kSl1_bad, Mq.ev_slice, Mq.revD_tup, Mq.kRev_ok, Mq.kRev_exc, Mq.kRev_bad, Mq.ev_revT, Mq.kCall_ok, Mq.kCall_exc, Mq.ev_call, Mq.kCallV_ok, Mq.ev_callV, Mq.kCallW_ok, Mq.ev_callW, Mq.kBi_ok, Mq.kBi_exc, Mq.ev_bi, Mq.kMeth2_ok, Mq.kMeth2_exc, Mq.kMeth1_ok, Mq.kMeth1_exc, Mq.kMeth1_bad, Mq.ev_meth, Mq.kComp_ok, Mq.ev_comp, Mq.kLam_ok, Mq.ev_lamcall, Mq.lzD_ok, Mq.kLz2_ok, Mq.kLz2_exc, Mq.kLz2_bad, Mq.kLz1_ok, Mq.kLz1_exc, Mq.kLz1_bad, Mq.ev_listZip, Mq.ev_ask, Mq.isX_ok, Mq.ev_isE, Mq.evT_isE, Mq.fldX_ok, Mq.ev_fldE, Mq.evT_not, Mq.evT_and, Mq.evT_or, Mq.evT_var, Mq.evT_call, Mq.evT_callV, Mq.evT_bi, Mq.evT_idx, Mq.kEs2_ok, Mq.kEs2_exc, Mq.kEs1_ok, Mq.kEs1_exc, Mq.evs_nil, Mq.evs_cons, Mq.intO_ok, Mq.kO_ok, Mq.evo_none, Mq.evo_some, Mq.evIf_none, Mq.evIf_some, Mq.srcX_ok, Mq.kSeq_ok, Mq.evI_seq, Mq.kRng1_ok, Mq.evI_rng1, Mq.kRng22_ok, Mq.kRng21_ok, Mq.evI_rng2, Mq.zipD_tup, Mq.zipD_lst, Mq.kZip2_ok, Mq.kZip1_ok, Mq.evI_zip, Mq.enumD_lst, Mq.kEnum_ok, Mq.evI_enum, Mq.kSet_ok, Mq.kSet_exc, Mq.exS_set, Mq.kPar2_ok, Mq.kPar2_exc, Mq.kPar1_ok, Mq.kPar1_exc, Mq.exS_par, Mq.bdR_ok, Mq.kUnp_ok, Mq.kUnp_exc, Mq.exS_unp, Mq.kIx2_ok, Mq.kIx2_exc, Mq.kIx1_ok, Mq.kIx1_exc, Mq.exS_setIx, Mq.kExp_ok, Mq.kExp_exc, Mq.exS_expr, Mq.kRet_ok, Mq.kRet_exc, Mq.exS_ret, Mq.kIfs_ok, Mq.kIfs_exc, Mq.exS_ifs, Mq.kFor_ok, Mq.kFor_exc, Mq.exS_for, Mq.kRaise_ok, Mq.kRaise_exc, Mq.exS_raise, Mq.kTryE_nx, Mq.kTryE_rt, Mq.kTry_nx, Mq.kTry_rt, Mq.kTry_xc, Mq.exS_tryAs, Mq.kSt_nx, Mq.kSt_rt, Mq.kSt_xc, Mq.exSs_nil, Mq.exSs_cons, Mq.fin_nx, Mq.fin_rt, Mq.fin_xc, Mq.fin_ite, Mq.kSt_ite, Mq.kRet_ite, Mq.kSet_ite, Mq.ite_and, Mq.ite_or, Mq.ite_andD, Mq.ite_orD, Mq.bare_mk, Mq.sz_0, Mq.sz_1, Mq.sz_2, Mq.sz_3, Mq.sz_4, Mq.sz_5, Mq.sz_6, Mq.sz_7, Mq.sz_8, Mq.sz_9, Mq.sz_10, Mq.sz_11, Mq.sz_12, Mw.tru_non, Mw.tru_bl, Mw.tru_int, Mw.tru_tup, Mw.tru_lst, Mw.getL_lst, Mw.resO_some, Mw.resO_none, Mw.newL_false, Mw.newL_true, Mw.cmp_eq_int, Mw.cmp_ne_int, Mw.cmp_lt_int, Mw.cmp_le_int, Mw.cmp_gt_int, Mw.cmp_ge_int, Mw.cmp_eq_str, Mw.cmp_ne_str, Mw.bq_len, Mw.bq_isi, Mw.bq_int, Mw.bq_str, Mw.bq_ord, Mw.bq_all, Mw.bq_list, Mw.bq_tuple, Mw.bq_dict, Mw.bq_sorted, Mw.bq_repr, Mw.bq_min, Mw.bq_max, Mw.len_tup, Mw.len_lst, Mw.int_int, Mw.tuple_lst, Mw.list_tup_f, Mw.list_lst_f, Mw.idx_tup, Mw.idx_lst, Mw.src_tup, Mw.src_lst, Mw.add_int, Mw.sub_int, Mw.atI_0, Mw.atI_1, Mw.atI_2, Mw.atI_3, Mw.atI_4, Mq.ii_int, Mq.ii_bl, Mq.ii_str, Mq.ii_non, Mq.ii_tup, Mq.ii_lst, Mq.ib_int, Mq.ib_bl, Mq.ib_str, Mq.ib_non, Mq.ib_tup, Mq.ib_lst, Mq.is_int, Mq.is_bl, Mq.is_str, Mq.is_non, Mq.is_tup, Mq.is_lst, Mq.it_int, Mq.it_bl, Mq.it_str, Mq.it_non, Mq.it_tup, Mq.it_lst, Mq.il_int, Mq.il_bl, Mq.il_str, Mq.il_non, Mq.il_tup, Mq.il_lst, Mq.cis_int, Mq.cis_bl, Mq.cis_str, Mq.cis_non, Mq.cis_tup, Mq.cis_lst, Mq.cnis_int, Mq.cnis_bl, Mq.cnis_str, Mq.cnis_non, Mq.cnis_tup, Mq.cnis_lst, Mj.bindT, Mj.bindTs, Mj.wipeR, Mj.Tg.own, Mj.Tgs.own, List.getElem?_cons_zero, List.getElem?_cons_succ, List.set_cons_zero, List.set_cons_succ, if_true, Bool.false_eq_true, if_false, ite_false, ite_true, List.length_cons, List.length_nil, List.cons_append, List.nil_append, Bool.not_true, Bool.not_false, Bool.and_true, Bool.true_and, Bool.false_and, Bool.and_false, Bool.or_true, Bool.true_or, Bool.or_false, Bool.false_or, Bool.not_not, Nat.zero_add, and_self, Mj.pickAll, List.isEmpty_cons, List.isEmpty_nil, Nat.reduceAdd, Nat.reduceLeDiff, Nat.reduceEqDiff, eq_self, Int.reduceLT, Int.reduceLE, Int.reduceAdd, Int.reduceSub, Int.reduceToNat, decide_true, decide_false, Int.reduceNeg, Nat.reduceSub, $ls,*] $[at $l]?)
/-- what is left of a value when object i goes -/
def cutLink (i : Int) (p : (Str × Kd) × D) : D := match p.1.2 with
  | .cls _ => if eqvD p.2 (.int i) = true then .non else p.2
  | .rng _ _ => p.2
def pairD (p : (Str × Kd) × D) : D := .tup [fldD p.1, p.2]
theorem vB_ok {d : D} (h : vB d = true) (n : Nat) : Ok n d := by
  cases d <;> first | exact .non | exact .int _ | cases h
theorem s_without_link (n : Nat) (l : Lot) (vs : List D) (i : Int) (hv : ∀ v ∈ vs, vB v = true) (M : MH) :
    callN T sub (n + 1) 7 [lotD l, .tup vs, .int i] none M = .ok (.tup ((l.zip vs).map (cutLink i))) M := by
  rw [r_without_link]
  have ez : List.zipWith (fun a b => D.tup [a, b]) (l.map fldD) vs = (l.zip vs).map pairD := by
    rw [List.zipWith_map_left, List.zip, List.map_zipWith]
    rfl
  simp_arith [b_without_link, lotD, ez, q_without_link_0]
  rw [comp_okA pairD (l.zip vs) Mw.SrcIs.vals (cutLink i) (fun p => [some (.tup (l.map fldD)), some (.tup vs), some (.int i), some (.lst ((l.zip vs).map pairD)), some p.2, some (.str p.1.1), some p.1.2.d]) (fun p hp => by
    refine ⟨rfl, ?_⟩
    have h1 := List.of_mem_zip (a := p.1) (b := p.2) hp
    have e1 := cmpEq_ok (M := M) (n := 0) (m := 0) (by omega) (by omega) (vB_ok (hv _ h1.2) 0) (.int i)
    unfold cutLink
    cases p.1.2 with
    | rng lo hi => simp_arith [Kd.d]
    | cls c =>
      simp_arith [Kd.d, e1]
      cases eqvD p.2 (.int i) <;> simp_arith [])]
  simp_arith []
/-- the object behind a step: place a of its values is v -/
def setOb (o : Ob) (a : Nat) (v : D) : Ob := ⟨o.n, o.c, o.vs.take a ++ [v] ++ o.vs.drop (a + 1)⟩
def fidx (l : Lot) : D → Option Nat
  | .str f => if nameS f = true then l.findIdx? (fun p => p.1 == f) else none
  | _ => none
def noOb (d : D) : XV := ⟨5, [("number", d)]⟩
def wstepD (d f v : D) : D := .tup [.str "write", d, f, v]
def writtenE (s : Sch) (nx : Int) (os : List Ob) (d f v : D) : Except XV D :=
  match findOb os d with
  | none => .error (noOb d)
  | some o => match lookS s o.c with
    | none => .error (noOb d)
    | some l => match fidx l f with
      | none => .error (badStep (wstepD d f v) "field")
      | some a => if valOk os (l.getD a ("", .rng 0 0)).2 v = true then .ok (.tup [schD s, .int nx, .tup (os.map fun p => if p.n = o.n then .tup [d, .str o.c, .tup (o.vs.take a ++ [v] ++ o.vs.drop (a + 1))] else p.d)]) else .error (badStep (wstepD d f v) "value")
/-- what stays of the heap behind `written` -/
def wJ (s : Sch) (os : List Ob) (d : D) : MH := match findOb os d with
  | none => []
  | some _ => [dictM lotD s]
theorem findOb_mem {os : List Ob} {d : D} {o : Ob} (h : findOb os d = some o) : o ∈ os ∧ d = .int o.n := by
  cases d with
  | int i =>
    have h1 := List.mem_of_find?_eq_some h
    have h2 := List.find?_some h
    exact ⟨h1, by rw [show o.n = i by simpa using h2]⟩
  | _ => cases h
theorem in_strs {l : Lot} {f : Str} {M : MH} (hl : l.length ≤ 20) (h : ∀ p ∈ l, nmOk p.1) (hf : nmOk f) : cmpD .In (.str f) (.lst (l.map fun p => .str p.1)) M = some (l.any fun p => p.1 == f) := by
  have hb : Ok 1 (.lst (l.map fun p => D.str p.1)) := .lst (fun d hd => by
    obtain ⟨p, hp, rfl⟩ := List.mem_map.mp hd
    exact (h p hp).ok _) (by rw [List.length_map]; omega)
  rw [inL_ok (by omega) (by omega) (hf.ok 0) hb, List.any_map]
  rfl
theorem idx_strs {l : Lot} {f : Str} (M : MH) (hl : l.length ≤ 20) (h : ∀ p ∈ l, nmOk p.1) (hf : nmOk f) {a : Nat} (ha : l.findIdx? (fun p => p.1 == f) = some a) : mtD "index" (.lst (l.map fun p => .str p.1)) [.str f] M = .ok (.int a) M := by
  have hb : Ok 1 (.lst (l.map fun p => D.str p.1)) := .lst (fun d hd => by
    obtain ⟨p, hp, rfl⟩ := List.mem_map.mp hd
    exact (h p hp).ok _) (by rw [List.length_map]; omega)
  obtain ⟨q, q1, q2⟩ := shaped_ok (by omega) hb
  obtain ⟨r, r1, r2⟩ := shaped_ok (by omega) (hf.ok 0)
  have key : ∀ (l : Lot) (qs : List PyData), py0s (l.map fun p => D.str p.1) = some qs → idxOf (.str f) qs = l.findIdx? fun p => p.1 == f := by
    intro l
    induction l with
    | nil => intro qs hq; cases hq; rfl
    | cons p l ih =>
      intro qs hq
      simp only [List.map_cons, py0s, py0] at hq
      split at hq
      · rename_i q0 qs' e0 hqs
        cases hq
        cases e0
        simp only [idxOf, List.findIdx?_cons, ih _ hqs]
        have e : PyData.eqv (.str p.1) (.str f) = (p.1 == f) := rfl
        rw [e]
      · cases hq
  have e1 : pyM M (.lst (l.map fun p => D.str p.1)) = some q := q1
  simp only [py0] at q1
  split at q1
  · rename_i qs hqs
    cases q1
    cases r1
    rw [Mq.mt_index]
    have e2 : py0 (.str f) = some (.str f) := rfl
    simp only [mtIndex, e1, e2, r2, q2, Bool.and_self, if_true, key l qs hqs, ha]
  · cases q1
theorem any_findIdx {α : Type} (p : α → Bool) (l : List α) : l.any p = (l.findIdx? p).isSome := by
  rw [List.findIdx?_isSome]
theorem s_written (n : Nat) (s : Sch) (nx : Int) (os : List Ob) (d f v : D) (hd : plain d = true) (hf : Ok 9 f) (hv : plain v = true) (H : HOk s os) (M : MH) :
    callN T sub (n + 3) 6 [houseD s nx os, d, f, v] none M = toRx (writtenE s nx os d f v) (M ++ wJ s os d) := by
  rw [r_written]
  have ho := s_object_of n s nx os d hd M
  unfold houseD at ho
  simp_arith [b_written, houseD, ho]
  cases hfo : findOb os d with
  | none =>
    simp_arith [writtenE, hfo, toRx, wJ, List.append_nil]
    rfl
  | some o =>
    obtain ⟨hm, rfl⟩ := findOb_mem hfo
    obtain ⟨hc, ⟨l, hl, hvl⟩, hvs⟩ := H.obs o hm
    have cl := (H.cls _ (lookS_mem hl)).2.2
    have q := fun b w => s_require_step (n + 1) b (wstepD (.int o.n) f v) w (M ++ [dictM lotD s])
    unfold wstepD at q
    simp_arith [dict_sch H.nd, idx_dict (f := lotD) (s := s) (c := o.c) (M := M ++ [dictM lotD s]) get_end, Ob.d, hl, Option.map_some, lotD, q_written_0, s_is_name (n + 1) f _ hf.plain hf.fits]
    rw [comp_okA fldD l Mw.SrcIs.vals (fun p => .str p.1) (fun p => [some (.tup [schD s, .int nx, .tup (os.map Ob.d)]), some (.int o.n), some f, some v, some (.tup (l.map fldD)), none, none, none, some (schD s), some (.int nx), some (.tup (os.map Ob.d)), some (.tup [.str "write", .int o.n, f, v]), some o.d, some (.str p.1), some p.2.d, none]) (fun p _ => ⟨rfl, by simp_arith []⟩)]
    simp_arith [s_is_name (n + 1) f _ hf.plain hf.fits]
    cases hn : nameB f with
    | false =>
      have e : fidx l f = none := by
        cases f with
        | str c =>
          have h1' : nameS c = false := hn
          simp only [fidx, h1', Bool.false_eq_true, if_false]
        | _ => rfl
      simp_arith [q, writtenE, hfo, hl, e, toRx, wJ]
      rfl
    | true =>
      cases f with
      | str f =>
        have hfk : nmOk f := by cases hf with | str h1 h2 => exact ⟨h1, h2⟩
        have e : fidx l (.str f) = l.findIdx? fun p => p.1 == f := by
          have h1' : nameS f = true := hn
          simp only [fidx, h1', if_true]
        simp_arith [in_strs cl.1 (fun p hp => (cl.2.2 p hp).1) hfk, any_findIdx]
        cases ha : l.findIdx? fun p => p.1 == f with
        | none =>
          simp_arith [Option.isSome_none, q, writtenE, hfo, hl, e, ha, toRx, wJ]
          rfl
        | some a =>
          have hal : a < l.length := by
            have := List.findIdx?_eq_some_iff_getElem.mp ha
            exact this.1
          have hat : atI (l.map fldD) (a : Int) = some (fldD (l.getD a ("", .rng 0 0))) := by
            refine Mw.atI_nat ?_
            rw [List.getElem?_map, List.getD_eq_getElem?_getD, List.getElem?_eq_getElem hal]
            rfl
          have hk := s_is_value n s nx os (l.getD a ("", .rng 0 0)).2 v hv H.ol (fun o ho => (H.obs o ho).1) (fun k e => (cl.2.2 (l.getD a ("", .rng 0 0)) (by
            rw [List.getD_eq_getElem?_getD, List.getElem?_eq_getElem hal]
            exact List.getElem_mem hal)).2.2 k e) (M ++ [dictM lotD s])
          unfold houseD at hk
          simp_arith [Option.isSome_some, q, idx_strs (M ++ [dictM lotD s]) cl.1 (fun p hp => (cl.2.2 p hp).1) hfk ha, hat, fldD, hk, mk_lst "index" (l.map fun p => D.str p.1) (M ++ [dictM lotD s]) (by decide) (by decide)]
          cases hvo : valOk os (l.getD a ("", .rng 0 0)).2 v with
          | false =>
            simp_arith [q, writtenE, hfo, hl, e, ha, hvo, toRx, wJ]
            rfl
          | true =>
            have hsl : ∀ k : Nat, sliceD false (.tup o.vs) none (some (k : Int)) (M ++ [dictM lotD s]) = .ok (.tup (o.vs.take k)) (M ++ [dictM lotD s]) := fun k => by
              show Res.ok (D.tup (Mj.cutD _ none _)) _ = _
              rw [cut_to]
            have hsr : sliceD false (.tup o.vs) (some ((a : Int) + 1)) none (M ++ [dictM lotD s]) = .ok (.tup (o.vs.drop (a + 1))) (M ++ [dictM lotD s]) := by
              show Res.ok (D.tup (Mj.cutD _ (some ((a + 1 : Nat) : Int)) none)) _ = _
              rw [cut_from]
            have h20 : o.vs.length ≤ 20 := by rw [hvl]; exact cl.1
            have a1 : ∀ M, binD false .Add (.tup (o.vs.take a)) (.tup [v]) M = .ok (.tup (o.vs.take a ++ [v])) M := fun M => addT_ok (lt_size _ (by rw [List.length_take]; show _ + 1 ≤ _; omega))
            have a2 : ∀ M, binD false .Add (.tup (o.vs.take a ++ [v])) (.tup (o.vs.drop (a + 1))) M = .ok (.tup (o.vs.take a ++ [v] ++ o.vs.drop (a + 1))) M := fun M => addT_ok (lt_size _ (by rw [List.length_append, List.length_take, List.length_drop]; show _ + 1 + _ ≤ _; omega))
            simp_arith [q, hsl, hsr, a1, a2, q_written_1]
            rw [comp_okA Ob.d os Mw.SrcIs.vals (fun p => if p.n = o.n then .tup [.int o.n, .str o.c, .tup (o.vs.take a ++ [v] ++ o.vs.drop (a + 1))] else p.d) (fun p => [some (.tup [schD s, .int nx, .tup (os.map Ob.d)]), some (.int o.n), some (.str f), some v, some (.tup (l.map fldD)), some (.lst (l.map fun p => D.str p.1)), some (.int a), some (.tup [.int o.n, .str o.c, .tup (o.vs.take a ++ [v] ++ o.vs.drop (a + 1))]), some (schD s), some (.int nx), some (.tup (os.map Ob.d)), some (.tup [.str "write", .int o.n, .str f, v]), some o.d, none, none, some p.d]) (fun p _ => by
              refine ⟨rfl, ?_⟩
              by_cases hp : p.n = o.n
              · simp_arith [Ob.d, hp, beq_self_eq_true]
              · simp_arith [Ob.d, beq_eq_false_iff_ne.mpr hp, if_neg hp])]
            simp_arith [writtenE, hfo, hl, e, ha, hvo, toRx, wJ]
      | _ => cases hn
/-- an object without its links to i -/
def dropD (s : Sch) (i : Int) (o : Ob) : D := .tup [.int o.n, .str o.c, .tup ((((lookS s o.c).getD []).zip o.vs).map (cutLink i))]
def droppedE (s : Sch) (nx : Int) (os : List Ob) (d : D) : Except XV D :=
  match findOb os d with
  | none => .error (noOb d)
  | some o => .ok (.tup [schD s, .int nx, .tup ((os.filter fun p => !(p.n == o.n)).map (dropD s o.n))])
theorem s_dropped (n : Nat) (s : Sch) (nx : Int) (os : List Ob) (d : D) (hd : plain d = true) (H : HOk s os) (M : MH) :
    ∃ J, callN T sub (n + 3) 8 [houseD s nx os, d] none M = toRx (droppedE s nx os d) (M ++ J) := by
  rw [r_dropped]
  have ho := s_object_of n s nx os d hd M
  unfold houseD at ho
  simp_arith [b_dropped, houseD, ho]
  cases hfo : findOb os d with
  | none =>
    refine ⟨[], ?_⟩
    simp_arith [droppedE, hfo, toRx, List.append_nil]
    rfl
  | some o =>
    obtain ⟨hm, rfl⟩ := findOb_mem hfo
    simp_arith [dict_sch H.nd]
    obtain ⟨f, M', e, r⟩ := for_suf (src := .vals (os.map Ob.d)) (M := M ++ [dictM lotD s] ++ [.lst []]) (E := ⟨callN T sub (n + 2), noAsk, none, sub⟩) (ρ := [some (.tup [schD s, .int nx, .tup (os.map Ob.d)]), some (.int o.n), some (schD s), some (.int nx), some (.tup (os.map Ob.d)), some (.ref M.length), some (.ref (M ++ [dictM lotD s]).length), none, none, none]) (tg := .tup (.cons (.name 7) (.cons (.name 8) (.cons (.name 9) .nil)))) (body := l_dropped_0) Ob.d os
      (fun r ρ M' => ∃ acc x y z, M' = M ++ [dictM lotD s] ++ [.lst acc] ∧ acc ++ (r.filter fun p => !(p.n == o.n)).map (dropD s o.n) = (os.filter fun p => !(p.n == o.n)).map (dropD s o.n) ∧ acc.length + r.length ≤ 100 ∧ ρ = [some (.tup [schD s, .int nx, .tup (os.map Ob.d)]), some (.int o.n), some (schD s), some (.int nx), some (.tup (os.map Ob.d)), some (.ref M.length), some (.ref (M ++ [dictM lotD s]).length), x, y, z])
      (fun f M' => M' = M ++ [dictM lotD s] ++ [.lst ((os.filter fun p => !(p.n == o.n)).map (dropD s o.n))] ∧ ∃ x y z, f = .nx [some (.tup [schD s, .int nx, .tup (os.map Ob.d)]), some (.int o.n), some (schD s), some (.int nx), some (.tup (os.map Ob.d)), some (.ref M.length), some (.ref (M ++ [dictM lotD s]).length), x, y, z])
      (fun r ρ M' h => Mw.SrcIs.vals) ⟨[], none, none, none, rfl, rfl, by have := H.ol; simpa using this, rfl⟩ (by
        rintro ρ M' ⟨acc, x, y, z, rfl, h, _, rfl⟩
        refine ⟨?_, x, y, z, rfl⟩
        rw [← h]
        simp) (by
        rintro p r ρ M' hp ⟨acc, x, y, z, rfl, h, hle, rfl⟩
        refine ⟨_, rfl, ?_⟩
        rw [List.length_cons] at hle
        obtain ⟨hc, ⟨l, hl, hvl⟩, hvs⟩ := H.obs p hp
        by_cases he : p.n = o.n
        · refine ⟨.nx _, _, ?_, acc, some (.int p.n), some (.str p.c), some (.tup p.vs), rfl, ?_, by omega, rfl⟩
          · simp_arith [l_dropped_0, he, beq_self_eq_true]
          · rw [← h, List.filter_cons, he, beq_self_eq_true]
            rfl
        · refine ⟨.nx _, M ++ [dictM lotD s] ++ [.lst (acc ++ [dropD s o.n p])], ?_, acc ++ [dropD s o.n p], some (.int p.n), some (.str p.c), some (.tup p.vs), rfl, ?_, by rw [List.length_append]; show _ + 1 + _ ≤ _; omega, rfl⟩
          · have i1 := idx_dict (f := lotD) (s := s) (c := p.c) (M := M ++ [dictM lotD s] ++ [.lst acc]) (n := M.length) (get_keep get_end)
            have k1 := kind_lst (f := "append") (n := (M ++ [dictM lotD s]).length) (xs := acc) (M := M ++ [dictM lotD s] ++ [.lst acc]) get_end (by decide) (by decide)
            have a1 := append_ok (n := (M ++ [dictM lotD s]).length) (xs := acc) (M := M ++ [dictM lotD s] ++ [.lst acc]) (y := dropD s o.n p) get_end (by have := lt_size 1000 (by decide); omega)
            have st : (M ++ [dictM lotD s] ++ [MO.lst acc]).set (M ++ [dictM lotD s]).length (.lst (acc ++ [dropD s o.n p])) = M ++ [dictM lotD s] ++ [MO.lst (acc ++ [dropD s o.n p])] := set_mid
            have wl := s_without_link (n + 1) l p.vs o.n hvs (M ++ [dictM lotD s] ++ [.lst acc])
            have ed : dropD s o.n p = .tup [.int p.n, .str p.c, .tup ((l.zip p.vs).map (cutLink o.n))] := by
              unfold dropD
              rw [hl]
              rfl
            rw [ed] at a1 st ⊢
            simp_arith [l_dropped_0, beq_eq_false_iff_ne.mpr he, i1, k1, hl, Option.map_some, wl, a1, st]
          · rw [← h, List.filter_cons, beq_eq_false_iff_ne.mpr he]
            simp)
    obtain ⟨rfl, x, y, z, rfl⟩ := r
    refine ⟨[dictM lotD s] ++ [.lst ((os.filter fun p => !(p.n == o.n)).map (dropD s o.n))], ?_⟩
    rw [← List.append_assoc]
    have tr := tuple_ref (n := (M ++ [dictM lotD s]).length) (xs := (os.filter fun p => !(p.n == o.n)).map (dropD s o.n)) (M := M ++ [dictM lotD s] ++ [.lst ((os.filter fun p => !(p.n == o.n)).map (dropD s o.n))]) get_end
    simp_arith [Ob.d, e, tr, droppedE, hfo, toRx]
end Law
/-! P4: what the law itself says. -/
namespace Law
open PySem PySem.Spec PyProof.Rows L2 Mj Mq
local macro_rules
  | `(tactic| simp_arith [$ls,*] $[at $l]?) => `(tactic| simp only [Mq.vr_ok, Mq.up_ok, Mq.tr_ok, Mq.td_ok, Mq.td_exc, Mq.td_bad, Mq.tru1_ok, Mq.tru1_exc, Mq.tru1_bad, Mq.tnot_ok, Mq.tnot_exc, Mq.tnot_bad, Mq.ev_var, Mq.ev_const, Mq.ev_glob, Mq.kBin2_ok, Mq.kBin2_exc, Mq.kBin2_bad, Mq.kBin1_ok, Mq.kBin1_exc, Mq.kBin1_bad, Mq.ev_bin, Mq.negD_int, Mq.kNeg_ok, Mq.kNeg_exc, Mq.kNeg_bad, Mq.ev_neg, Mq.kNotE_ok, Mq.kNotE_exc, Mq.ev_not, Mq.ev_and, Mq.ev_or, Mq.brA_ok, Mq.brO_ok, Mq.kAnd_ok, Mq.kAnd_exc, Mq.evAnd_1, Mq.evAnd_2, Mq.kAndT_ok, Mq.kAndT_exc, Mq.evAndT_1, Mq.evAndT_2, Mq.kOr_ok, Mq.kOr_exc, Mq.evOr_1, Mq.evOr_2, Mq.kOrT_ok, Mq.kOrT_exc, Mq.evOrT_1, Mq.evOrT_2, Mq.kCmp2_ok, Mq.kCmp2_exc, Mq.kCmp2_bad, Mq.kCmp1_ok, Mq.kCmp1_exc, Mq.kCmp1_bad, Mq.ev_cmp, Mq.evT_cmp, Mq.kCh4_ok, Mq.kCh4_exc, Mq.kCh4_bad, Mq.kCh3_ok, Mq.kCh2_ok, Mq.kCh2_exc, Mq.kCh2_bad, Mq.kCh1_ok, Mq.kCh1_exc, Mq.kCh1_bad, Mq.ev_chain, Mq.evT_chain, Mq.kIfe_ok, Mq.kIfe_exc, Mq.ev_ife, Mq.kTup_ok, Mq.kTup_exc, Mq.ev_tup, Mq.kLst_ok, Mq.kLst_exc, Mq.ev_lst, Mq.kDict_ok, Mq.ev_dict, Mq.kIdx2_ok, Mq.kIdx2_exc, Mq.kIdx2_bad, Mq.kIdx1_ok, Mq.kIdx1_exc, Mq.kIdx1_bad, Mq.ev_idx, Mq.kSl3_ok, Mq.kSl2_ok, Mq.kSl1_ok, Mq.kSl1_exc, Mq.kSl1_bad, Mq.ev_slice, Mq.revD_tup, Mq.kRev_ok, Mq.kRev_exc, Mq.kRev_bad, Mq.ev_revT, Mq.kCall_ok, Mq.kCall_exc, Mq.ev_call, Mq.kCallV_ok, Mq.ev_callV, Mq.kCallW_ok, Mq.ev_callW, Mq.kBi_ok, Mq.kBi_exc, Mq.ev_bi, Mq.kMeth2_ok, Mq.kMeth2_exc, Mq.kMeth1_ok, Mq.kMeth1_exc, Mq.kMeth1_bad, Mq.ev_meth, Mq.kComp_ok, Mq.ev_comp, Mq.kLam_ok, Mq.ev_lamcall, Mq.lzD_ok, Mq.kLz2_ok, Mq.kLz2_exc, Mq.kLz2_bad, Mq.kLz1_ok, Mq.kLz1_exc, Mq.kLz1_bad, Mq.ev_listZip, Mq.ev_ask, Mq.isX_ok, Mq.ev_isE, Mq.evT_isE, Mq.fldX_ok, Mq.ev_fldE, Mq.evT_not, Mq.evT_and, Mq.evT_or, Mq.evT_var, Mq.evT_call, Mq.evT_callV, Mq.evT_bi, Mq.evT_idx, Mq.kEs2_ok, Mq.kEs2_exc, Mq.kEs1_ok, Mq.kEs1_exc, Mq.evs_nil, Mq.evs_cons, Mq.intO_ok, Mq.kO_ok, Mq.evo_none, Mq.evo_some, Mq.evIf_none, Mq.evIf_some, Mq.srcX_ok, Mq.kSeq_ok, Mq.evI_seq, Mq.kRng1_ok, Mq.evI_rng1, Mq.kRng22_ok, Mq.kRng21_ok, Mq.evI_rng2, Mq.zipD_tup, Mq.zipD_lst, Mq.kZip2_ok, Mq.kZip1_ok, Mq.evI_zip, Mq.enumD_lst, Mq.kEnum_ok, Mq.evI_enum, Mq.kSet_ok, Mq.kSet_exc, Mq.exS_set, Mq.kPar2_ok, Mq.kPar2_exc, Mq.kPar1_ok, Mq.kPar1_exc, Mq.exS_par, Mq.bdR_ok, Mq.kUnp_ok, Mq.kUnp_exc, Mq.exS_unp, Mq.kIx2_ok, Mq.kIx2_exc, Mq.kIx1_ok, Mq.kIx1_exc, Mq.exS_setIx, Mq.kExp_ok, Mq.kExp_exc, Mq.exS_expr, Mq.kRet_ok, Mq.kRet_exc, Mq.exS_ret, Mq.kIfs_ok, Mq.kIfs_exc, Mq.exS_ifs, Mq.kFor_ok, Mq.kFor_exc, Mq.exS_for, Mq.kRaise_ok, Mq.kRaise_exc, Mq.exS_raise, Mq.kTryE_nx, Mq.kTryE_rt, Mq.kTry_nx, Mq.kTry_rt, Mq.kTry_xc, Mq.exS_tryAs, Mq.kSt_nx, Mq.kSt_rt, Mq.kSt_xc, Mq.exSs_nil, Mq.exSs_cons, Mq.fin_nx, Mq.fin_rt, Mq.fin_xc, Mq.fin_ite, Mq.kSt_ite, Mq.kRet_ite, Mq.kSet_ite, Mq.ite_and, Mq.ite_or, Mq.ite_andD, Mq.ite_orD, Mq.bare_mk, Mq.sz_0, Mq.sz_1, Mq.sz_2, Mq.sz_3, Mq.sz_4, Mq.sz_5, Mq.sz_6, Mq.sz_7, Mq.sz_8, Mq.sz_9, Mq.sz_10, Mq.sz_11, Mq.sz_12, Mw.tru_non, Mw.tru_bl, Mw.tru_int, Mw.tru_tup, Mw.tru_lst, Mw.getL_lst, Mw.resO_some, Mw.resO_none, Mw.newL_false, Mw.newL_true, Mw.cmp_eq_int, Mw.cmp_ne_int, Mw.cmp_lt_int, Mw.cmp_le_int, Mw.cmp_gt_int, Mw.cmp_ge_int, Mw.cmp_eq_str, Mw.cmp_ne_str, Mw.bq_len, Mw.bq_isi, Mw.bq_int, Mw.bq_str, Mw.bq_ord, Mw.bq_all, Mw.bq_list, Mw.bq_tuple, Mw.bq_dict, Mw.bq_sorted, Mw.bq_repr, Mw.bq_min, Mw.bq_max, Mw.len_tup, Mw.len_lst, Mw.int_int, Mw.tuple_lst, Mw.list_tup_f, Mw.list_lst_f, Mw.idx_tup, Mw.idx_lst, Mw.src_tup, Mw.src_lst, Mw.add_int, Mw.sub_int, Mw.atI_0, Mw.atI_1, Mw.atI_2, Mw.atI_3, Mw.atI_4, Mq.ii_int, Mq.ii_bl, Mq.ii_str, Mq.ii_non, Mq.ii_tup, Mq.ii_lst, Mq.ib_int, Mq.ib_bl, Mq.ib_str, Mq.ib_non, Mq.ib_tup, Mq.ib_lst, Mq.is_int, Mq.is_bl, Mq.is_str, Mq.is_non, Mq.is_tup, Mq.is_lst, Mq.it_int, Mq.it_bl, Mq.it_str, Mq.it_non, Mq.it_tup, Mq.it_lst, Mq.il_int, Mq.il_bl, Mq.il_str, Mq.il_non, Mq.il_tup, Mq.il_lst, Mq.cis_int, Mq.cis_bl, Mq.cis_str, Mq.cis_non, Mq.cis_tup, Mq.cis_lst, Mq.cnis_int, Mq.cnis_bl, Mq.cnis_str, Mq.cnis_non, Mq.cnis_tup, Mq.cnis_lst, Mj.bindT, Mj.bindTs, Mj.wipeR, Mj.Tg.own, Mj.Tgs.own, List.getElem?_cons_zero, List.getElem?_cons_succ, List.set_cons_zero, List.set_cons_succ, if_true, Bool.false_eq_true, if_false, ite_false, ite_true, List.length_cons, List.length_nil, List.cons_append, List.nil_append, Bool.not_true, Bool.not_false, Bool.and_true, Bool.true_and, Bool.false_and, Bool.and_false, Bool.or_true, Bool.true_or, Bool.or_false, Bool.false_or, Bool.not_not, Nat.zero_add, and_self, Mj.pickAll, List.isEmpty_cons, List.isEmpty_nil, Nat.reduceAdd, Nat.reduceLeDiff, Nat.reduceEqDiff, eq_self, Int.reduceLT, Int.reduceLE, Int.reduceAdd, Int.reduceSub, Int.reduceToNat, decide_true, decide_false, Int.reduceNeg, Nat.reduceSub, $ls,*] $[at $l]?)
theorem s_law_is_integer (n : Nat) (d : D) (M : MH) (h : plain d = true) : callN T sub (n + 1) 18 [d] none M = .ok (.bl (intB d)) M := by
  rw [r__law_is_integer]
  cases d <;> first | (simp_arith [b__law_is_integer]; rfl) | cases h
/-- more of a house -/
structure LOk (s : Sch) (os : List Ob) : Prop extends HOk s os where
  num : ∀ o ∈ os, o.n.natAbs < 1000
  ib : ∀ o ∈ os, ∀ v ∈ o.vs, iB v = true
  kb : ∀ c ∈ s, ∀ f ∈ c.2, iB f.2.d = true
  kn : ∀ c ∈ s, ∀ f ∈ c.2, ∀ k, f.2 = .cls k → nameS k = true
theorem nameS_low {x : Str} (h : nameS x = true) : x.cps.toList.all lowC = true := by
  unfold nameS at h
  rw [Bool.and_eq_true] at h
  exact h.2
theorem nameS_len {x : Str} (h : nameS x = true) : x.length ≤ 8 := by
  unfold nameS at h
  simp only [Bool.and_eq_true, decide_eq_true_eq] at h
  exact h.1.2
theorem low_nmOk {x : Str} (h : x.cps.toList.all lowC = true) (hl : x.length ≤ 100) : nmOk x := ⟨by omega, asc_ok (low_asc h)⟩
def sameI (i : Int) : D → Bool
  | .int j => i == j
  | _ => false
def sameS (x : Str) : D → Bool
  | .str y => x == y
  | _ => false
/-- what a number may be asked as -/
structure NumOk (d : D) : Prop where
  ok : Ok 9 d
  ib : iB d = true
  w : wt d ≤ 1000
  so : nmOk (rp d)
  ne : ∀ i, (rp (.int i) == rp d) = sameI i d
theorem NumOk.int {i : Int} (h : i.natAbs < 10 ^ 61) : NumOk (.int i) := by
  refine ⟨.int _, by simp only [iB, decide_eq_true h], by simp [wt], ⟨?_, rp_int_strOk i⟩, fun j => rp_int_beq j i⟩
  have := rp_int_len h
  omega
theorem num_of {d : D} (k : Nat) (h1 : okB 9 d = true) (h2 : iB d = true) (h3 : wt d ≤ 1000) {x : Str} (e : rp d = x) (h4 : (decide (x.length ≤ 100) && asc x) = true) (h5 : k ≠ 45 ∧ (k < 48 ∨ 57 < k)) (h6 : x.cps.toList.contains k = true) (h7 : intB d = false) : NumOk d := by
  subst e
  rw [Bool.and_eq_true, decide_eq_true_eq] at h4
  refine ⟨okB_ok 9 d h1, h2, h3, ⟨by omega, asc_ok h4.2⟩, fun i => ?_⟩
  rw [rp_int_ne h5 (List.contains_iff_mem.mp h6)]
  cases d <;> first | rfl | cases h7
theorem num_non : NumOk .non := num_of 78 (by decide +kernel) (by decide +kernel) (by decide +kernel) rp_non (by decide +kernel) (by decide) (by decide +kernel) rfl
theorem num_true : NumOk (.bl true) := num_of 84 (by decide +kernel) (by decide +kernel) (by decide +kernel) rp_true (by decide +kernel) (by decide) (by decide +kernel) rfl
theorem num_a : NumOk (.str "a") := num_of 39 (by decide +kernel) (by decide +kernel) (by decide +kernel) rp_a (by decide +kernel) (by decide) (by decide +kernel) rfl
theorem num_t0 : NumOk (.tup [.int 0]) := num_of 40 (by decide +kernel) (by decide +kernel) (by decide +kernel) (rp_tup1 (.int 0) rfl) (by rw [rp_int]; decide +kernel) (by decide) (by rw [rp_int]; decide +kernel) rfl
/-- what a name may be asked as -/
structure NamOk (d : D) : Prop where
  ok : Ok 9 d
  ib : iB d = true
  w : wt d ≤ 1000
  so : nmOk (rp d)
  ne : ∀ x, nameS x = true → (rp (.str x) == rp d) = sameS x d
def strB : D → Bool
  | .str _ => true
  | _ => false
theorem nam_of {d : D} {y : Str} (h1 : okB 9 d = true) (h2 : iB d = true) (h3 : wt d ≤ 1000) (e : rp d = y) (h4 : (decide (y.length ≤ 100) && asc y) = true) (h5 : y.cps.toList.head? ≠ some 39) (h6 : strB d = false) : NamOk d := by
  subst e
  rw [Bool.and_eq_true, decide_eq_true_eq] at h4
  refine ⟨okB_ok 9 d h1, h2, h3, ⟨by omega, asc_ok h4.2⟩, fun x hx => ?_⟩
  rw [rp_low_ne (nameS_low hx) h5]
  cases d <;> first | rfl | cases h6
theorem nam_low {x : Str} (h : x.cps.toList.all lowC = true) (hl : x.length ≤ 50) : NamOk (.str x) := by
  have hn := low_nmOk h (by omega)
  refine ⟨hn.ok 9, rfl, by simp only [wt]; omega, ⟨?_, asc_ok (rp_low_asc h)⟩, fun y hy => rp_low_beq (nameS_low hy) h⟩
  rw [rp_low_len h]
  omega
theorem nam_name {x : Str} (h : nameS x = true) : NamOk (.str x) := nam_low (nameS_low h) (by have := nameS_len h; omega)
theorem nam_non : NamOk .non := nam_of (by decide +kernel) (by decide +kernel) (by decide +kernel) rp_non (by decide +kernel) (by decide +kernel) rfl
theorem nam_0 : NamOk (.int 0) := nam_of (by decide +kernel) (by decide +kernel) (by decide +kernel) (rp_int 0) (by decide +kernel) (by decide +kernel) rfl
theorem nam_tk : NamOk (.tup [.str "k"]) := nam_of (by decide +kernel) (by decide +kernel) (by decide +kernel) ((rp_tup1 (.str "k") rfl).trans (by rw [rp_k])) (by decide +kernel) (by decide +kernel) rfl
end Law
/-! P11: drawn schemas and houses. -/
namespace Law
open PySem PySem.Spec PyProof.Rows L2 Mj Mq
local macro_rules
  | `(tactic| simp_arith [$ls,*] $[at $l]?) => `(tactic| simp only [Mq.vr_ok, Mq.up_ok, Mq.tr_ok, Mq.td_ok, Mq.td_exc, Mq.td_bad, Mq.tru1_ok, Mq.tru1_exc, Mq.tru1_bad, Mq.tnot_ok, Mq.tnot_exc, Mq.tnot_bad, Mq.ev_var, Mq.ev_const, Mq.ev_glob, Mq.kBin2_ok, Mq.kBin2_exc, Mq.kBin2_bad, Mq.kBin1_ok, Mq.kBin1_exc, Mq.kBin1_bad, Mq.ev_bin, Mq.negD_int, Mq.kNeg_ok, Mq.kNeg_exc, Mq.kNeg_bad, Mq.ev_neg, Mq.kNotE_ok, Mq.kNotE_exc, Mq.ev_not, Mq.ev_and, Mq.ev_or, Mq.brA_ok, Mq.brO_ok, Mq.kAnd_ok, Mq.kAnd_exc, Mq.evAnd_1, Mq.evAnd_2, Mq.kAndT_ok, Mq.kAndT_exc, Mq.evAndT_1, Mq.evAndT_2, Mq.kOr_ok, Mq.kOr_exc, Mq.evOr_1, Mq.evOr_2, Mq.kOrT_ok, Mq.kOrT_exc, Mq.evOrT_1, Mq.evOrT_2, Mq.kCmp2_ok, Mq.kCmp2_exc, Mq.kCmp2_bad, Mq.kCmp1_ok, Mq.kCmp1_exc, Mq.kCmp1_bad, Mq.ev_cmp, Mq.evT_cmp, Mq.kCh4_ok, Mq.kCh4_exc, Mq.kCh4_bad, Mq.kCh3_ok, Mq.kCh2_ok, Mq.kCh2_exc, Mq.kCh2_bad, Mq.kCh1_ok, Mq.kCh1_exc, Mq.kCh1_bad, Mq.ev_chain, Mq.evT_chain, Mq.kIfe_ok, Mq.kIfe_exc, Mq.ev_ife, Mq.kTup_ok, Mq.kTup_exc, Mq.ev_tup, Mq.kLst_ok, Mq.kLst_exc, Mq.ev_lst, Mq.kDict_ok, Mq.ev_dict, Mq.kIdx2_ok, Mq.kIdx2_exc, Mq.kIdx2_bad, Mq.kIdx1_ok, Mq.kIdx1_exc, Mq.kIdx1_bad, Mq.ev_idx, Mq.kSl3_ok, Mq.kSl2_ok, Mq.kSl1_ok, Mq.kSl1_exc, Mq.kSl1_bad, Mq.ev_slice, Mq.revD_tup, Mq.kRev_ok, Mq.kRev_exc, Mq.kRev_bad, Mq.ev_revT, Mq.kCall_ok, Mq.kCall_exc, Mq.ev_call, Mq.kCallV_ok, Mq.ev_callV, Mq.kCallW_ok, Mq.ev_callW, Mq.kBi_ok, Mq.kBi_exc, Mq.ev_bi, Mq.kMeth2_ok, Mq.kMeth2_exc, Mq.kMeth1_ok, Mq.kMeth1_exc, Mq.kMeth1_bad, Mq.ev_meth, Mq.kComp_ok, Mq.ev_comp, Mq.kLam_ok, Mq.ev_lamcall, Mq.lzD_ok, Mq.kLz2_ok, Mq.kLz2_exc, Mq.kLz2_bad, Mq.kLz1_ok, Mq.kLz1_exc, Mq.kLz1_bad, Mq.ev_listZip, Mq.ev_ask, Mq.isX_ok, Mq.ev_isE, Mq.evT_isE, Mq.fldX_ok, Mq.ev_fldE, Mq.evT_not, Mq.evT_and, Mq.evT_or, Mq.evT_var, Mq.evT_call, Mq.evT_callV, Mq.evT_bi, Mq.evT_idx, Mq.kEs2_ok, Mq.kEs2_exc, Mq.kEs1_ok, Mq.kEs1_exc, Mq.evs_nil, Mq.evs_cons, Mq.intO_ok, Mq.kO_ok, Mq.evo_none, Mq.evo_some, Mq.evIf_none, Mq.evIf_some, Mq.srcX_ok, Mq.kSeq_ok, Mq.evI_seq, Mq.kRng1_ok, Mq.evI_rng1, Mq.kRng22_ok, Mq.kRng21_ok, Mq.evI_rng2, Mq.zipD_tup, Mq.zipD_lst, Mq.kZip2_ok, Mq.kZip1_ok, Mq.evI_zip, Mq.enumD_lst, Mq.kEnum_ok, Mq.evI_enum, Mq.kSet_ok, Mq.kSet_exc, Mq.exS_set, Mq.kPar2_ok, Mq.kPar2_exc, Mq.kPar1_ok, Mq.kPar1_exc, Mq.exS_par, Mq.bdR_ok, Mq.kUnp_ok, Mq.kUnp_exc, Mq.exS_unp, Mq.kIx2_ok, Mq.kIx2_exc, Mq.kIx1_ok, Mq.kIx1_exc, Mq.exS_setIx, Mq.kExp_ok, Mq.kExp_exc, Mq.exS_expr, Mq.kRet_ok, Mq.kRet_exc, Mq.exS_ret, Mq.kIfs_ok, Mq.kIfs_exc, Mq.exS_ifs, Mq.kFor_ok, Mq.kFor_exc, Mq.exS_for, Mq.kRaise_ok, Mq.kRaise_exc, Mq.exS_raise, Mq.kTryE_nx, Mq.kTryE_rt, Mq.kTry_nx, Mq.kTry_rt, Mq.kTry_xc, Mq.exS_tryAs, Mq.kSt_nx, Mq.kSt_rt, Mq.kSt_xc, Mq.exSs_nil, Mq.exSs_cons, Mq.fin_nx, Mq.fin_rt, Mq.fin_xc, Mq.fin_ite, Mq.kSt_ite, Mq.kRet_ite, Mq.kSet_ite, Mq.ite_and, Mq.ite_or, Mq.ite_andD, Mq.ite_orD, Mq.bare_mk, Mq.sz_0, Mq.sz_1, Mq.sz_2, Mq.sz_3, Mq.sz_4, Mq.sz_5, Mq.sz_6, Mq.sz_7, Mq.sz_8, Mq.sz_9, Mq.sz_10, Mq.sz_11, Mq.sz_12, Mw.tru_non, Mw.tru_bl, Mw.tru_int, Mw.tru_tup, Mw.tru_lst, Mw.getL_lst, Mw.resO_some, Mw.resO_none, Mw.newL_false, Mw.newL_true, Mw.cmp_eq_int, Mw.cmp_ne_int, Mw.cmp_lt_int, Mw.cmp_le_int, Mw.cmp_gt_int, Mw.cmp_ge_int, Mw.cmp_eq_str, Mw.cmp_ne_str, Mw.bq_len, Mw.bq_isi, Mw.bq_int, Mw.bq_str, Mw.bq_ord, Mw.bq_all, Mw.bq_list, Mw.bq_tuple, Mw.bq_dict, Mw.bq_sorted, Mw.bq_repr, Mw.bq_min, Mw.bq_max, Mw.len_tup, Mw.len_lst, Mw.int_int, Mw.tuple_lst, Mw.list_tup_f, Mw.list_lst_f, Mw.idx_tup, Mw.idx_lst, Mw.src_tup, Mw.src_lst, Mw.add_int, Mw.sub_int, Mw.atI_0, Mw.atI_1, Mw.atI_2, Mw.atI_3, Mw.atI_4, Mq.ii_int, Mq.ii_bl, Mq.ii_str, Mq.ii_non, Mq.ii_tup, Mq.ii_lst, Mq.ib_int, Mq.ib_bl, Mq.ib_str, Mq.ib_non, Mq.ib_tup, Mq.ib_lst, Mq.is_int, Mq.is_bl, Mq.is_str, Mq.is_non, Mq.is_tup, Mq.is_lst, Mq.it_int, Mq.it_bl, Mq.it_str, Mq.it_non, Mq.it_tup, Mq.it_lst, Mq.il_int, Mq.il_bl, Mq.il_str, Mq.il_non, Mq.il_tup, Mq.il_lst, Mq.cis_int, Mq.cis_bl, Mq.cis_str, Mq.cis_non, Mq.cis_tup, Mq.cis_lst, Mq.cnis_int, Mq.cnis_bl, Mq.cnis_str, Mq.cnis_non, Mq.cnis_tup, Mq.cnis_lst, Mj.bindT, Mj.bindTs, Mj.wipeR, Mj.Tg.own, Mj.Tgs.own, List.getElem?_cons_zero, List.getElem?_cons_succ, List.set_cons_zero, List.set_cons_succ, if_true, Bool.false_eq_true, if_false, ite_false, ite_true, List.length_cons, List.length_nil, List.cons_append, List.nil_append, Bool.not_true, Bool.not_false, Bool.and_true, Bool.true_and, Bool.false_and, Bool.and_false, Bool.or_true, Bool.true_or, Bool.or_false, Bool.false_or, Bool.not_not, Nat.zero_add, and_self, Mj.pickAll, List.isEmpty_cons, List.isEmpty_nil, Nat.reduceAdd, Nat.reduceLeDiff, Nat.reduceEqDiff, eq_self, Int.reduceLT, Int.reduceLE, Int.reduceAdd, Int.reduceSub, Int.reduceToNat, decide_true, decide_false, Int.reduceNeg, Nat.reduceSub, $ls,*] $[at $l]?)
def LBL : List Str := ["k", "n", "to", "w"]
def CLS : List Str := ["a", "get", "lid"]
theorem lbl_ok : (LBL.all nameS && CLS.all nameS && decide LBL.Nodup && decide CLS.Nodup) = true := by decide +kernel
theorem lbl_nm : ∀ x ∈ LBL, nameS x = true := by
  have := lbl_ok
  simp only [Bool.and_eq_true] at this
  exact List.all_eq_true.mp this.1.1.1
theorem cls_nm : ∀ x ∈ CLS, nameS x = true := by
  have := lbl_ok
  simp only [Bool.and_eq_true] at this
  exact List.all_eq_true.mp this.1.1.2
theorem lbl_nd : LBL.Nodup := by
  have := lbl_ok
  simp only [Bool.and_eq_true, decide_eq_true_eq] at this
  exact this.1.2
theorem cls_nd : CLS.Nodup := by
  have := lbl_ok
  simp only [Bool.and_eq_true, decide_eq_true_eq] at this
  exact this.2
def KdP (cs : List Str) : Kd → Prop
  | .rng lo hi => lo ≤ hi ∧ -1000 ≤ lo ∧ hi ≤ 1000
  | .cls c => c ∈ cs
structure LotP (cs : List Str) (l : Lot) : Prop where
  lbl : (l.map (·.1)).Sublist LBL
  kd : ∀ f ∈ l, KdP cs f.2
structure SchP (s : Sch) : Prop where
  cls : (s.map (·.1)).Sublist CLS
  ne : s ≠ []
  lot : ∀ c ∈ s, LotP (s.map (·.1)) c.2
theorem LotP.len {cs : List Str} {l : Lot} (h : LotP cs l) : l.length ≤ 4 := by
  have := h.lbl.length_le
  rw [List.length_map] at this
  exact this
theorem SchP.len {s : Sch} (h : SchP s) : s.length ≤ 3 := by
  have := h.cls.length_le
  rw [List.length_map] at this
  exact this
theorem SchP.nm {s : Sch} (h : SchP s) : ∀ c ∈ s.map (·.1), nameS c = true := fun c hc => cls_nm c (h.cls.subset hc)
theorem nm_nmOk {x : Str} (h : nameS x = true) : nmOk x := low_nmOk (nameS_low h) (by have := nameS_len h; omega)
/-- what a schema of draws says of HOk -/
theorem SchP.cl {s : Sch} (h : SchP s) : ∀ c ∈ s, nmOk c.1 ∧ nameS c.1 = true ∧ c.2.length ≤ 20 ∧ (c.2.map (·.1)).Nodup ∧ ∀ f ∈ c.2, nmOk f.1 ∧ nameS f.1 = true ∧ ∀ k, f.2 = .cls k → nmOk k := by
  intro c hc
  have n1 := h.nm c.1 (List.mem_map.mpr ⟨c, hc, rfl⟩)
  have L := h.lot c hc
  refine ⟨nm_nmOk n1, n1, by have := L.len; omega, L.lbl.nodup lbl_nd, fun f hf => ?_⟩
  have n2 := lbl_nm f.1 (L.lbl.subset (List.mem_map.mpr ⟨f, hf, rfl⟩))
  refine ⟨nm_nmOk n2, n2, fun k e => ?_⟩
  have := L.kd f hf
  rw [e] at this
  exact nm_nmOk (h.nm k this)
/-- the ranges that are drawn -/
def RNG : List D := [.tup [.int 0, .int 3], .tup [.int 0, .int 9], .tup [.int (-2), .int 2], .tup [.int 1, .int 1], .tup [.int (-999), .int 1000]]
theorem rng_kd {e : D} (h : e ∈ RNG) (cs : List Str) : ∃ k : Kd, e = k.d ∧ KdP cs k := by
  simp only [RNG, List.mem_cons, List.not_mem_nil, or_false] at h
  rcases h with rfl | rfl | rfl | rfl | rfl
  · exact ⟨.rng 0 3, rfl, by show _ ∧ _ ∧ _; omega⟩
  · exact ⟨.rng 0 9, rfl, by show _ ∧ _ ∧ _; omega⟩
  · exact ⟨.rng (-2) 2, rfl, by show _ ∧ _ ∧ _; omega⟩
  · exact ⟨.rng 1 1, rfl, by show _ ∧ _ ∧ _; omega⟩
  · exact ⟨.rng (-999) 1000, rfl, by show _ ∧ _ ∧ _; omega⟩
/-- a list in the heap behind the feed -/
theorem fed_get {ns : List Int} {A J M : MH} {o : MO} (h : Fed ns (A ++ o :: J) M) : M[A.length + 1]? = some o := by
  obtain ⟨a, l, c, _, _, rfl⟩ := h
  simp
theorem fed_set {ns : List Int} {A J M : MH} {o o' : MO} (h : Fed ns (A ++ o :: J) M) : Fed ns (A ++ o' :: J) (M.set (A.length + 1) o') := by
  obtain ⟨a, l, c, h0, h1, rfl⟩ := h
  exact ⟨a, l, c, h0, h1, by simp⟩
theorem fed_new {ns : List Int} {R M : MH} {o : MO} (h : Fed ns R M) : Fed ns (R ++ [o]) (M ++ [o]) ∧ M.length = R.length + 1 := by
  obtain ⟨a, l, c, h0, h1, rfl⟩ := h
  exact ⟨⟨a, l, c, h0, h1, rfl⟩, by simp⟩
theorem fed_app {ns : List Int} {R M J : MH} (h : Fed ns R M) : Fed ns (R ++ J) (M ++ J) := by
  obtain ⟨a, l, c, h0, h1, rfl⟩ := h
  exact ⟨a, l, c, h0, h1, rfl⟩
theorem s_lot (n : Nat) (ns : List Int) (R M : MH) (cs : List Str) (hM : Fed ns R M) (h0 : cs ≠ []) (hc : cs.length ≤ 100) :
    ∃ l J M', callN T sub (n + 3) 13 [.ref 0, .lst (cs.map D.str)] none M = .ok (lotD l) M' ∧ LotP cs l ∧ Fed ns (R ++ J) M' := by
  rw [r__law_lot]
  obtain ⟨hF1, hl1⟩ := fed_new (o := .lst []) hM
  obtain ⟨r, M1, e1, hF2, r0, r1⟩ := s_draw (n + 1) ns _ (M ++ [.lst []]) 8 hF1 (by omega)
  let ρ0 : Option D → Option D → Rho := fun x3 x4 => [some (.ref 0), some (.lst (cs.map D.str)), some (.ref (R.length + 1)), x3, x4]
  have loop : ∀ (ts : List Str), ts.Sublist LBL → ∃ f M', kForS (.name 3) l__law_lot_0 ⟨callN T sub (n + 2), noAsk, none, sub⟩ (ρ0 none none) (.vals (ts.map D.str)) M1 = .ok f M' ∧ ∃ l J x3 x4, f = .nx (ρ0 x3 x4) ∧ LotP cs l ∧ Fed ns (R ++ .lst (l.map fldD) :: J) M' := by
    intro ts hts
    refine for_suf (src := .vals (ts.map D.str)) D.str ts
      (fun r ρ M' => ∃ l J x3 x4, ρ = ρ0 x3 x4 ∧ (l.map (·.1) ++ r).Sublist LBL ∧ (∀ f ∈ l, KdP cs f.2) ∧ Fed ns (R ++ .lst (l.map fldD) :: J) M')
      (fun f M' => ∃ l J x3 x4, f = .nx (ρ0 x3 x4) ∧ LotP cs l ∧ Fed ns (R ++ .lst (l.map fldD) :: J) M')
      (fun r ρ M' h => Mw.SrcIs.vals) ⟨[], [], none, none, rfl, by simpa using hts, by simp, hF2⟩ ?_ ?_
    · rintro ρ M' ⟨l, J, x3, x4, rfl, h1, h2, h3⟩
      exact ⟨l, J, x3, x4, rfl, ⟨by simpa using h1, h2⟩, h3⟩
    · rintro t r ρ M' ht ⟨l, J, x3, x4, rfl, h1, h2, h3⟩
      refine ⟨_, rfl, ?_⟩
      obtain ⟨w, M2, e2, hF3, w0, w1⟩ := s_draw (n + 1) ns _ M' 7 h3 (by omega)
      have hl : l.length ≤ 4 := by
        have := h1.length_le
        rw [List.length_append, List.length_map] at this
        have e : LBL.length = 4 := rfl
        omega
      have skip : (l.map (·.1) ++ r).Sublist LBL := by
        refine List.Sublist.trans ?_ h1
        exact List.Sublist.append_left (List.sublist_cons_self _ _) _
      have add : ∀ (k : Kd) (M3 : MH), KdP cs k → Fed ns (R ++ .lst (l.map fldD) :: J) M3 → ∃ M4, mtD "append" (.ref (R.length + 1)) [.tup [.str t, k.d]] M3 = .ok .non M4 ∧ mtKind "append" (.ref (R.length + 1)) M3 = true ∧ (((l ++ [(t, k)]).map (·.1)) ++ r).Sublist LBL ∧ (∀ f ∈ l ++ [(t, k)], KdP cs f.2) ∧ Fed ns (R ++ .lst ((l ++ [(t, k)]).map fldD) :: J) M4 := by
        intro k M3 hk hF
        have g := fed_get hF
        refine ⟨_, append_ok g (by rw [List.length_map]; have := lt_size 1000 (by decide); omega), kind_lst g (by decide) (by decide), by simpa using h1, ?_, ?_⟩
        · intro f hf
          rcases List.mem_append.mp hf with hf | hf
          · exact h2 f hf
          · rw [List.mem_singleton.mp hf]; exact hk
        · rw [List.map_append]
          exact fed_set hF
      by_cases hw3 : w < 3
      · obtain ⟨e, M3, he, e3, hF4⟩ := s_any n ns _ M2 RNG hF3 (by simp [RNG]) (by simp [RNG])
        obtain ⟨k, rfl, hk⟩ := rng_kd he cs
        obtain ⟨M4, a1, a2, a3, a4, a5⟩ := add k M3 hk hF4
        have hmk : mtKind "append" (.ref (R.length + 1)) M2 = true := kind_lst (fed_get hF3) (by decide) (by decide)
        refine ⟨.nx (ρ0 (some (.str t)) (some (.int w))), M4, ?_, l ++ [(t, k)], J, _, _, rfl, a3, a4, a5⟩
        unfold RNG at e3
        simp_arith [l__law_lot_0, ρ0, e2, decide_eq_true hw3, hmk, e3, a1]
      · by_cases hw5 : w < 5
        · obtain ⟨e, M3, he, e3, hF4⟩ := s_any n ns _ M2 (cs.map D.str) hF3 (by simpa using h0) (by rw [List.length_map]; omega)
          obtain ⟨c, hcc, rfl⟩ := List.mem_map.mp he
          obtain ⟨M4, a1, a2, a3, a4, a5⟩ := add (.cls c) M3 hcc hF4
          have hmk : mtKind "append" (.ref (R.length + 1)) M2 = true := kind_lst (fed_get hF3) (by decide) (by decide)
          refine ⟨.nx (ρ0 (some (.str t)) (some (.int w))), M4, ?_, l ++ [(t, .cls c)], J, _, _, rfl, a3, a4, a5⟩
          unfold Kd.d at a1
          simp_arith [l__law_lot_0, ρ0, e2, decide_eq_false hw3, decide_eq_true hw5, hmk, e3, a1]
        · refine ⟨.nx (ρ0 (some (.str t)) (some (.int w))), M2, ?_, l, J, _, _, rfl, skip, h2, hF3⟩
          simp_arith [l__law_lot_0, ρ0, e2, decide_eq_false hw3, decide_eq_false hw5]
  simp_arith [b__law_lot, hl1, e1]
  cases hr : decide (0 < r) with
  | true =>
    obtain ⟨f, M', e, l, J, x3, x4, rfl, hL, hF⟩ := loop LBL (List.Sublist.refl _)
    simp only [ρ0, LBL, List.map_cons, List.map_nil] at e
    refine ⟨l, .lst (l.map fldD) :: J, M', ?_, hL, hF⟩
    simp_arith [e, ρ0, tuple_ref (fed_get hF), lotD]
  | false =>
    obtain ⟨f, M', e, l, J, x3, x4, rfl, hL, hF⟩ := loop [] (List.nil_sublist _)
    simp only [ρ0, List.map_nil] at e
    refine ⟨l, .lst (l.map fldD) :: J, M', ?_, hL, hF⟩
    simp_arith [e, ρ0, tuple_ref (fed_get hF), lotD]
end Law
/-! P12: drawn houses. -/
namespace Law
open PySem PySem.Spec PyProof.Rows L2 Mj Mq
local macro_rules
  | `(tactic| simp_arith [$ls,*] $[at $l]?) => `(tactic| simp only [Mq.vr_ok, Mq.up_ok, Mq.tr_ok, Mq.td_ok, Mq.td_exc, Mq.td_bad, Mq.tru1_ok, Mq.tru1_exc, Mq.tru1_bad, Mq.tnot_ok, Mq.tnot_exc, Mq.tnot_bad, Mq.ev_var, Mq.ev_const, Mq.ev_glob, Mq.kBin2_ok, Mq.kBin2_exc, Mq.kBin2_bad, Mq.kBin1_ok, Mq.kBin1_exc, Mq.kBin1_bad, Mq.ev_bin, Mq.negD_int, Mq.kNeg_ok, Mq.kNeg_exc, Mq.kNeg_bad, Mq.ev_neg, Mq.kNotE_ok, Mq.kNotE_exc, Mq.ev_not, Mq.ev_and, Mq.ev_or, Mq.brA_ok, Mq.brO_ok, Mq.kAnd_ok, Mq.kAnd_exc, Mq.evAnd_1, Mq.evAnd_2, Mq.kAndT_ok, Mq.kAndT_exc, Mq.evAndT_1, Mq.evAndT_2, Mq.kOr_ok, Mq.kOr_exc, Mq.evOr_1, Mq.evOr_2, Mq.kOrT_ok, Mq.kOrT_exc, Mq.evOrT_1, Mq.evOrT_2, Mq.kCmp2_ok, Mq.kCmp2_exc, Mq.kCmp2_bad, Mq.kCmp1_ok, Mq.kCmp1_exc, Mq.kCmp1_bad, Mq.ev_cmp, Mq.evT_cmp, Mq.kCh4_ok, Mq.kCh4_exc, Mq.kCh4_bad, Mq.kCh3_ok, Mq.kCh2_ok, Mq.kCh2_exc, Mq.kCh2_bad, Mq.kCh1_ok, Mq.kCh1_exc, Mq.kCh1_bad, Mq.ev_chain, Mq.evT_chain, Mq.kIfe_ok, Mq.kIfe_exc, Mq.ev_ife, Mq.kTup_ok, Mq.kTup_exc, Mq.ev_tup, Mq.kLst_ok, Mq.kLst_exc, Mq.ev_lst, Mq.kDict_ok, Mq.ev_dict, Mq.kIdx2_ok, Mq.kIdx2_exc, Mq.kIdx2_bad, Mq.kIdx1_ok, Mq.kIdx1_exc, Mq.kIdx1_bad, Mq.ev_idx, Mq.kSl3_ok, Mq.kSl2_ok, Mq.kSl1_ok, Mq.kSl1_exc, Mq.kSl1_bad, Mq.ev_slice, Mq.revD_tup, Mq.kRev_ok, Mq.kRev_exc, Mq.kRev_bad, Mq.ev_revT, Mq.kCall_ok, Mq.kCall_exc, Mq.ev_call, Mq.kCallV_ok, Mq.ev_callV, Mq.kCallW_ok, Mq.ev_callW, Mq.kBi_ok, Mq.kBi_exc, Mq.ev_bi, Mq.kMeth2_ok, Mq.kMeth2_exc, Mq.kMeth1_ok, Mq.kMeth1_exc, Mq.kMeth1_bad, Mq.ev_meth, Mq.kComp_ok, Mq.ev_comp, Mq.kLam_ok, Mq.ev_lamcall, Mq.lzD_ok, Mq.kLz2_ok, Mq.kLz2_exc, Mq.kLz2_bad, Mq.kLz1_ok, Mq.kLz1_exc, Mq.kLz1_bad, Mq.ev_listZip, Mq.ev_ask, Mq.isX_ok, Mq.ev_isE, Mq.evT_isE, Mq.fldX_ok, Mq.ev_fldE, Mq.evT_not, Mq.evT_and, Mq.evT_or, Mq.evT_var, Mq.evT_call, Mq.evT_callV, Mq.evT_bi, Mq.evT_idx, Mq.kEs2_ok, Mq.kEs2_exc, Mq.kEs1_ok, Mq.kEs1_exc, Mq.evs_nil, Mq.evs_cons, Mq.intO_ok, Mq.kO_ok, Mq.evo_none, Mq.evo_some, Mq.evIf_none, Mq.evIf_some, Mq.srcX_ok, Mq.kSeq_ok, Mq.evI_seq, Mq.kRng1_ok, Mq.evI_rng1, Mq.kRng22_ok, Mq.kRng21_ok, Mq.evI_rng2, Mq.zipD_tup, Mq.zipD_lst, Mq.kZip2_ok, Mq.kZip1_ok, Mq.evI_zip, Mq.enumD_lst, Mq.kEnum_ok, Mq.evI_enum, Mq.kSet_ok, Mq.kSet_exc, Mq.exS_set, Mq.kPar2_ok, Mq.kPar2_exc, Mq.kPar1_ok, Mq.kPar1_exc, Mq.exS_par, Mq.bdR_ok, Mq.kUnp_ok, Mq.kUnp_exc, Mq.exS_unp, Mq.kIx2_ok, Mq.kIx2_exc, Mq.kIx1_ok, Mq.kIx1_exc, Mq.exS_setIx, Mq.kExp_ok, Mq.kExp_exc, Mq.exS_expr, Mq.kRet_ok, Mq.kRet_exc, Mq.exS_ret, Mq.kIfs_ok, Mq.kIfs_exc, Mq.exS_ifs, Mq.kFor_ok, Mq.kFor_exc, Mq.exS_for, Mq.kRaise_ok, Mq.kRaise_exc, Mq.exS_raise, Mq.kTryE_nx, Mq.kTryE_rt, Mq.kTry_nx, Mq.kTry_rt, Mq.kTry_xc, Mq.exS_tryAs, Mq.kSt_nx, Mq.kSt_rt, Mq.kSt_xc, Mq.exSs_nil, Mq.exSs_cons, Mq.fin_nx, Mq.fin_rt, Mq.fin_xc, Mq.fin_ite, Mq.kSt_ite, Mq.kRet_ite, Mq.kSet_ite, Mq.ite_and, Mq.ite_or, Mq.ite_andD, Mq.ite_orD, Mq.bare_mk, Mq.sz_0, Mq.sz_1, Mq.sz_2, Mq.sz_3, Mq.sz_4, Mq.sz_5, Mq.sz_6, Mq.sz_7, Mq.sz_8, Mq.sz_9, Mq.sz_10, Mq.sz_11, Mq.sz_12, Mw.tru_non, Mw.tru_bl, Mw.tru_int, Mw.tru_tup, Mw.tru_lst, Mw.getL_lst, Mw.resO_some, Mw.resO_none, Mw.newL_false, Mw.newL_true, Mw.cmp_eq_int, Mw.cmp_ne_int, Mw.cmp_lt_int, Mw.cmp_le_int, Mw.cmp_gt_int, Mw.cmp_ge_int, Mw.cmp_eq_str, Mw.cmp_ne_str, Mw.bq_len, Mw.bq_isi, Mw.bq_int, Mw.bq_str, Mw.bq_ord, Mw.bq_all, Mw.bq_list, Mw.bq_tuple, Mw.bq_dict, Mw.bq_sorted, Mw.bq_repr, Mw.bq_min, Mw.bq_max, Mw.len_tup, Mw.len_lst, Mw.int_int, Mw.tuple_lst, Mw.list_tup_f, Mw.list_lst_f, Mw.idx_tup, Mw.idx_lst, Mw.src_tup, Mw.src_lst, Mw.add_int, Mw.sub_int, Mw.atI_0, Mw.atI_1, Mw.atI_2, Mw.atI_3, Mw.atI_4, Mq.ii_int, Mq.ii_bl, Mq.ii_str, Mq.ii_non, Mq.ii_tup, Mq.ii_lst, Mq.ib_int, Mq.ib_bl, Mq.ib_str, Mq.ib_non, Mq.ib_tup, Mq.ib_lst, Mq.is_int, Mq.is_bl, Mq.is_str, Mq.is_non, Mq.is_tup, Mq.is_lst, Mq.it_int, Mq.it_bl, Mq.it_str, Mq.it_non, Mq.it_tup, Mq.it_lst, Mq.il_int, Mq.il_bl, Mq.il_str, Mq.il_non, Mq.il_tup, Mq.il_lst, Mq.cis_int, Mq.cis_bl, Mq.cis_str, Mq.cis_non, Mq.cis_tup, Mq.cis_lst, Mq.cnis_int, Mq.cnis_bl, Mq.cnis_str, Mq.cnis_non, Mq.cnis_tup, Mq.cnis_lst, Mj.bindT, Mj.bindTs, Mj.wipeR, Mj.Tg.own, Mj.Tgs.own, List.getElem?_cons_zero, List.getElem?_cons_succ, List.set_cons_zero, List.set_cons_succ, if_true, Bool.false_eq_true, if_false, ite_false, ite_true, List.length_cons, List.length_nil, List.cons_append, List.nil_append, Bool.not_true, Bool.not_false, Bool.and_true, Bool.true_and, Bool.false_and, Bool.and_false, Bool.or_true, Bool.true_or, Bool.or_false, Bool.false_or, Bool.not_not, Nat.zero_add, and_self, Mj.pickAll, List.isEmpty_cons, List.isEmpty_nil, Nat.reduceAdd, Nat.reduceLeDiff, Nat.reduceEqDiff, eq_self, Int.reduceLT, Int.reduceLE, Int.reduceAdd, Int.reduceSub, Int.reduceToNat, decide_true, decide_false, Int.reduceNeg, Nat.reduceSub, $ls,*] $[at $l]?)
theorem s_classes (n : Nat) (ns : List Int) (R M : MH) (hM : Fed ns R M) : ∃ s J M', callN T sub (n + 4) 14 [.ref 0] none M = .ok (schD s) M' ∧ SchP s ∧ Fed ns (R ++ J) M' := by
  rw [r__law_classes]
  obtain ⟨r, M1, e1, hF, r0, r1⟩ := s_draw (n + 2) ns _ M 3 hM (by omega)
  obtain ⟨k, rfl⟩ := Int.eq_ofNat_of_zero_le r0
  have hcs : sliceD false (.lst [.str "a", .str "get", .str "lid"]) none (some (1 + (k : Int))) M1 = .ok (.lst ((CLS.take (1 + k)).map D.str)) M1 := by
    show newL false (Mj.cutD _ none (some (1 + (k : Int)))) M1 = _
    rw [show (1 + (k : Int)) = ((1 + k : Nat) : Int) by omega, cut_to, List.map_take]
    rfl
  have hsub : (CLS.take (1 + k)).Sublist CLS := List.take_sublist _ _
  have hne : CLS.take (1 + k) ≠ [] := by
    rw [show 1 + k = k + 1 by omega]
    simp [CLS]
  simp_arith [b__law_classes, e1, hcs, q__law_classes_0]
  obtain ⟨ds, M', e, s, J, hd, hs, hl, hF'⟩ := comp_suf (src := .vals ((CLS.take (1 + k)).map D.str)) (M := M1) (E := ⟨callN T sub (n + 3), noAsk, none, sub⟩) (ρ := [some (.ref 0), some (.lst ((CLS.take (1 + k)).map D.str)), none]) (tg := .name 2) (elt := .tup (.cons (.var 2) (.cons (.call 13 (.cons (.var 0) (.cons (.var 1) .nil))) .nil))) (ifs := .none) D.str (CLS.take (1 + k))
    (fun r acc M' => ∃ (s : Sch) (J : MH), acc = s.map clsD ∧ s.map (·.1) ++ r = CLS.take (1 + k) ∧ (∀ c ∈ s, LotP (CLS.take (1 + k)) c.2) ∧ Fed ns (R ++ J) M')
    (fun r acc M' h => Mw.SrcIs.vals) ⟨[], [], rfl, by simp, by simp, by simpa using hF⟩ (by
      rintro c r acc M' hc ⟨s, J, rfl, h1, h2, hF2⟩
      refine ⟨[some (.ref 0), some (.lst ((CLS.take (1 + k)).map D.str)), some (.str c)], rfl, true, M', rfl, (fun z => by cases z), fun _ => ?_⟩
      obtain ⟨l, J2, M2, e2, hL, hF3⟩ := s_lot n ns _ M' (CLS.take (1 + k)) hF2 hne (by rw [List.length_take]; show min _ 3 ≤ _; omega)
      refine ⟨clsD (c, l), M2, ?_, s ++ [(c, l)], J ++ J2, by simp, by rw [← h1]; simp, ?_, by rw [← List.append_assoc]; exact hF3⟩
      · simp_arith [e2, clsD]
      · intro x hx
        rcases List.mem_append.mp hx with hx | hx
        · exact h2 x hx
        · rw [List.mem_singleton.mp hx]; exact hL)
  subst hd
  have hs' : s.map (·.1) = CLS.take (1 + k) := by simpa using hs
  refine ⟨s, J, M', ?_, ⟨by rw [hs']; exact hsub, ?_, by rw [hs']; exact hl⟩, hF'⟩
  · simp_arith [e, schD]
  · intro z
    rw [z] at hs'
    exact hne hs'.symm
/-- what may stand in a field: an int of the range, none, a member of the class -/
def FitV (ms : List (Int × Str)) : Kd → D → Prop
  | .rng lo hi, v => ∃ i, v = .int i ∧ lo ≤ i ∧ i ≤ hi
  | .cls c, v => v = .non ∨ ∃ i, v = .int i ∧ (i, c) ∈ ms
def memD (m : Int × Str) : D := .tup [.int m.1, .str m.2]
theorem s_fitting (n : Nat) (ns : List Int) (R M : MH) (cs : List Str) (k : Kd) (ms : List (Int × Str)) (hM : Fed ns R M) (hk : KdP cs k) (hl : ms.length ≤ 100) :
    ∃ v M', callN T sub (n + 3) 15 [.ref 0, k.d, .lst (ms.map memD)] none M = .ok v M' ∧ FitV ms k v ∧ Fed ns R M' := by
  rw [r__law_fitting]
  cases k with
  | rng lo hi =>
    obtain ⟨h1, h2, h3⟩ := hk
    obtain ⟨r, M1, e1, hF, r0, r1⟩ := s_draw (n + 1) ns _ M (hi - lo + 1) hM (by omega)
    refine ⟨.int (lo + r), M1, ?_, ⟨lo + r, rfl, by omega, by omega⟩, hF⟩
    simp_arith [b__law_fitting, Kd.d, e1]
  | cls c =>
    let xs : List D := [.non] ++ (ms.filter fun m => decide (m.2 = c)).map fun m => .int m.1
    have hxl : xs.length ≤ 101 := by
      have := List.length_filter_le (fun m : Int × Str => decide (m.2 = c)) ms
      simp only [xs, List.length_append, List.length_map, List.length_singleton]
      omega
    obtain ⟨v, M1, hv, e1, hF⟩ := s_any n ns _ M xs hM (by simp [xs]) (by omega)
    refine ⟨v, M1, ?_, ?_, hF⟩
    · simp_arith [b__law_fitting, Kd.d, q__law_fitting_0]
      rw [comp_ok memD ms Mw.SrcIs.vals (fun m => decide (m.2 = c)) (fun m => .int m.1) (fun m => [some (.ref 0), some (.str c), some (.lst (ms.map memD)), some (.int m.1), some (.str m.2)]) (fun m _ => ⟨rfl, by simp_arith [], fun _ => by simp_arith []⟩)]
      simp_arith [addL_ok (m := false) (xs := [D.non]) (ys := (ms.filter fun m => decide (m.2 = c)).map fun m => D.int m.1) (M := M) (lt_size _ (by simp only [xs, List.length_append] at hxl; omega))]
      simp only [xs, List.cons_append, List.nil_append] at e1
      simp_arith [e1]
    · simp only [xs, List.mem_append, List.mem_singleton, List.mem_map, List.mem_filter, decide_eq_true_eq] at hv
      rcases hv with rfl | ⟨m, ⟨hm, rfl⟩, rfl⟩
      · exact .inl rfl
      · exact .inr ⟨m.1, rfl, hm⟩
/-- values that fit a form -/
def FitVs (ms : List (Int × Str)) (l : Lot) (vs : List D) : Prop := vs.length = l.length ∧ ∀ p ∈ l.zip vs, FitV ms p.1.2 p.2
theorem s_values (n : Nat) (ns : List Int) (R M : MH) (cs : List Str) (l : Lot) (ms : List (Int × Str)) (hM : Fed ns R M) (hk : ∀ f ∈ l, KdP cs f.2) (hl : ms.length ≤ 100) :
    ∃ vs M', callN T sub (n + 4) 16 [.ref 0, lotD l, .lst (ms.map memD)] none M = .ok (.tup vs) M' ∧ FitVs ms l vs ∧ Fed ns R M' := by
  rw [r__law_values]
  simp_arith [b__law_values, lotD, q__law_values_0]
  obtain ⟨ds, M', e, done, h1, h2, h3, hF⟩ := comp_suf (src := .vals (l.map fldD)) (M := M) (E := ⟨callN T sub (n + 3), noAsk, none, sub⟩) (ρ := [some (.ref 0), some (.tup (l.map fldD)), some (.lst (ms.map memD)), none, none]) (tg := .tup (.cons (.name 3) (.cons (.name 4) .nil))) (elt := .call 15 (.cons (.var 0) (.cons (.var 4) (.cons (.var 2) .nil)))) (ifs := .none) fldD l
    (fun r acc M' => ∃ done, l = done ++ r ∧ acc.length = done.length ∧ (∀ p ∈ done.zip acc, FitV ms p.1.2 p.2) ∧ Fed ns R M')
    (fun r acc M' h => Mw.SrcIs.vals) ⟨[], rfl, rfl, by simp, hM⟩ (by
      rintro f r acc M' hf ⟨done, h1, h2, h3, hF⟩
      refine ⟨[some (.ref 0), some (.tup (l.map fldD)), some (.lst (ms.map memD)), some (.str f.1), some f.2.d], rfl, true, M', rfl, (fun z => by cases z), fun _ => ?_⟩
      obtain ⟨v, M2, e2, hv, hF2⟩ := s_fitting n ns R M' cs f.2 ms hF (hk f hf) hl
      refine ⟨v, M2, by simp_arith [e2], done ++ [f], by rw [h1]; simp, by simp [h2], ?_, hF2⟩
      intro p hp
      rw [List.zip_append h2.symm] at hp
      rcases List.mem_append.mp hp with hp | hp
      · exact h3 p hp
      · simp only [List.zip_cons_cons, List.zip_nil_right, List.mem_singleton] at hp
        rw [hp]; exact hv)
  rw [List.append_nil] at h1
  subst h1
  exact ⟨ds, M', by simp_arith [e], ⟨h2, h3⟩, hF⟩
/-- a drawn house -/
structure HouseP (s : Sch) (nx : Int) (os : List Ob) : Prop where
  sch : SchP s
  up : (os.map (·.n)).Pairwise (· < ·)
  num : ∀ o ∈ os, 0 ≤ o.n ∧ o.n < nx
  nx : nx ≤ 10
  obs : ∀ o ∈ os, ∃ l, lookS s o.c = some l ∧ FitVs (os.map fun o => (o.n, o.c)) l o.vs
theorem lookS_some {α : Type} {s : List (Str × α)} {c : Str} (h : c ∈ s.map (·.1)) : ∃ l, lookS s c = some l := by
  obtain ⟨p, hp, rfl⟩ := List.mem_map.mp h
  unfold lookS
  cases hf : s.find? fun q => q.1 == p.1 with
  | none =>
    have := List.find?_eq_none.mp hf p hp
    simp at this
  | some q => exact ⟨q.2, rfl⟩
theorem up_len : ∀ {xs : List Int} {lo hi : Int}, xs.Pairwise (· < ·) → (∀ x ∈ xs, lo ≤ x ∧ x < hi) → lo ≤ hi → (xs.length : Int) ≤ hi - lo
  | [], lo, hi, _, _, h => by simp; omega
  | x :: xs, lo, hi, hp, hx, h => by
    rw [List.pairwise_cons] at hp
    have h1 := hx x (by simp)
    have := up_len (xs := xs) (lo := x + 1) (hi := hi) hp.2 (fun y hy => by
      have := hp.1 y hy
      have := (hx y (by simp [hy])).2
      omega) (by omega)
    rw [List.length_cons]
    omega
theorem HouseP.len {s : Sch} {nx : Int} {os : List Ob} (h : HouseP s nx os) (h0 : 0 ≤ nx) : os.length ≤ 10 := by
  have := up_len (xs := os.map (·.n)) (lo := 0) (hi := nx) h.up (fun x hx => by
    obtain ⟨o, ho, rfl⟩ := List.mem_map.mp hx
    exact h.num o ho) h0
  rw [List.length_map] at this
  have := h.nx
  omega
theorem FitV.vB {ms : List (Int × Str)} {k : Kd} {v : D} (h : FitV ms k v) : vB v = true := by
  cases k with
  | rng lo hi => obtain ⟨i, rfl, _⟩ := h; rfl
  | cls c => rcases h with rfl | ⟨i, rfl, _⟩ <;> rfl
theorem FitVs.all {ms : List (Int × Str)} {l : Lot} {vs : List D} (h : FitVs ms l vs) {P : D → Prop} (hp : ∀ f ∈ l, ∀ v, FitV ms f.2 v → P v) : ∀ v ∈ vs, P v := by
  intro v hv
  obtain ⟨i, hi, rfl⟩ := List.mem_iff_getElem.mp hv
  have hl : i < l.length := by rw [← h.1]; exact hi
  exact hp l[i] (List.getElem_mem _) _ (h.2 (l[i], vs[i]) (List.mem_iff_getElem.mpr ⟨i, by rw [List.length_zip]; omega, by rw [List.getElem_zip]⟩))
theorem small_iB {i : Int} (h : i.natAbs ≤ 100000) : iB (.int i) = true := by
  simp only [iB, decide_eq_true_eq]
  exact Nat.lt_of_le_of_lt h (by decide)
theorem KdP.ib {cs : List Str} {k : Kd} (h : KdP cs k) : iB k.d = true := by
  cases k with
  | rng lo hi =>
    obtain ⟨h1, h2, h3⟩ := h
    simp only [Kd.d, iB, iBs, Bool.and_true, Bool.and_eq_true, decide_eq_true_eq]
    have : 100000 < 10 ^ 61 := by decide
    omega
  | cls c => rfl
theorem HouseP.lok {s : Sch} {nx : Int} {os : List Ob} (h : HouseP s nx os) (h0 : 0 ≤ nx) : LOk s os := by
  refine ⟨⟨h.sch.cl, h.sch.cls.nodup cls_nd, by have := h.sch.len; omega, by have := h.len h0; omega, h.up.imp (fun h => by omega), fun o ho => ?_⟩, fun o ho => by have := h.num o ho; have := h.nx; omega, fun o ho => ?_, fun c hc f hf => ((h.sch.lot c hc).kd f hf).ib, fun c hc f hf k e => by
    have := (h.sch.lot c hc).kd f hf
    rw [e] at this
    exact h.sch.nm k this⟩
  · obtain ⟨l, hl, hv⟩ := h.obs o ho
    exact ⟨nm_nmOk (h.sch.nm o.c (List.mem_map.mpr ⟨_, lookS_mem hl, rfl⟩)), ⟨l, hl, hv.1⟩, hv.all fun f _ v h => h.vB⟩
  · obtain ⟨l, hl, hv⟩ := h.obs o ho
    refine hv.all fun f hf v hfv => ?_
    have hk := (h.sch.lot _ (lookS_mem hl)).kd f hf
    cases hkd : f.2 with
    | rng lo hi =>
      rw [hkd] at hfv hk
      obtain ⟨i, rfl, h1, h2⟩ := hfv
      obtain ⟨_, h3, h4⟩ := hk
      exact small_iB (by omega)
    | cls c =>
      rw [hkd] at hfv
      rcases hfv with rfl | ⟨i, rfl, hi⟩
      · rfl
      · obtain ⟨p, hp, e⟩ := List.mem_map.mp hi
        cases e
        have := h.num p hp
        have := h.nx
        exact small_iB (by omega)
end Law
/-! P13: the house is drawn. -/
namespace Law
open PySem PySem.Spec PyProof.Rows L2 Mj Mq
local macro_rules
  | `(tactic| simp_arith [$ls,*] $[at $l]?) => `(tactic| simp only [Mq.vr_ok, Mq.up_ok, Mq.tr_ok, Mq.td_ok, Mq.td_exc, Mq.td_bad, Mq.tru1_ok, Mq.tru1_exc, Mq.tru1_bad, Mq.tnot_ok, Mq.tnot_exc, Mq.tnot_bad, Mq.ev_var, Mq.ev_const, Mq.ev_glob, Mq.kBin2_ok, Mq.kBin2_exc, Mq.kBin2_bad, Mq.kBin1_ok, Mq.kBin1_exc, Mq.kBin1_bad, Mq.ev_bin, Mq.negD_int, Mq.kNeg_ok, Mq.kNeg_exc, Mq.kNeg_bad, Mq.ev_neg, Mq.kNotE_ok, Mq.kNotE_exc, Mq.ev_not, Mq.ev_and, Mq.ev_or, Mq.brA_ok, Mq.brO_ok, Mq.kAnd_ok, Mq.kAnd_exc, Mq.evAnd_1, Mq.evAnd_2, Mq.kAndT_ok, Mq.kAndT_exc, Mq.evAndT_1, Mq.evAndT_2, Mq.kOr_ok, Mq.kOr_exc, Mq.evOr_1, Mq.evOr_2, Mq.kOrT_ok, Mq.kOrT_exc, Mq.evOrT_1, Mq.evOrT_2, Mq.kCmp2_ok, Mq.kCmp2_exc, Mq.kCmp2_bad, Mq.kCmp1_ok, Mq.kCmp1_exc, Mq.kCmp1_bad, Mq.ev_cmp, Mq.evT_cmp, Mq.kCh4_ok, Mq.kCh4_exc, Mq.kCh4_bad, Mq.kCh3_ok, Mq.kCh2_ok, Mq.kCh2_exc, Mq.kCh2_bad, Mq.kCh1_ok, Mq.kCh1_exc, Mq.kCh1_bad, Mq.ev_chain, Mq.evT_chain, Mq.kIfe_ok, Mq.kIfe_exc, Mq.ev_ife, Mq.kTup_ok, Mq.kTup_exc, Mq.ev_tup, Mq.kLst_ok, Mq.kLst_exc, Mq.ev_lst, Mq.kDict_ok, Mq.ev_dict, Mq.kIdx2_ok, Mq.kIdx2_exc, Mq.kIdx2_bad, Mq.kIdx1_ok, Mq.kIdx1_exc, Mq.kIdx1_bad, Mq.ev_idx, Mq.kSl3_ok, Mq.kSl2_ok, Mq.kSl1_ok, Mq.kSl1_exc, Mq.kSl1_bad, Mq.ev_slice, Mq.revD_tup, Mq.kRev_ok, Mq.kRev_exc, Mq.kRev_bad, Mq.ev_revT, Mq.kCall_ok, Mq.kCall_exc, Mq.ev_call, Mq.kCallV_ok, Mq.ev_callV, Mq.kCallW_ok, Mq.ev_callW, Mq.kBi_ok, Mq.kBi_exc, Mq.ev_bi, Mq.kMeth2_ok, Mq.kMeth2_exc, Mq.kMeth1_ok, Mq.kMeth1_exc, Mq.kMeth1_bad, Mq.ev_meth, Mq.kComp_ok, Mq.ev_comp, Mq.kLam_ok, Mq.ev_lamcall, Mq.lzD_ok, Mq.kLz2_ok, Mq.kLz2_exc, Mq.kLz2_bad, Mq.kLz1_ok, Mq.kLz1_exc, Mq.kLz1_bad, Mq.ev_listZip, Mq.ev_ask, Mq.isX_ok, Mq.ev_isE, Mq.evT_isE, Mq.fldX_ok, Mq.ev_fldE, Mq.evT_not, Mq.evT_and, Mq.evT_or, Mq.evT_var, Mq.evT_call, Mq.evT_callV, Mq.evT_bi, Mq.evT_idx, Mq.kEs2_ok, Mq.kEs2_exc, Mq.kEs1_ok, Mq.kEs1_exc, Mq.evs_nil, Mq.evs_cons, Mq.intO_ok, Mq.kO_ok, Mq.evo_none, Mq.evo_some, Mq.evIf_none, Mq.evIf_some, Mq.srcX_ok, Mq.kSeq_ok, Mq.evI_seq, Mq.kRng1_ok, Mq.evI_rng1, Mq.kRng22_ok, Mq.kRng21_ok, Mq.evI_rng2, Mq.zipD_tup, Mq.zipD_lst, Mq.kZip2_ok, Mq.kZip1_ok, Mq.evI_zip, Mq.enumD_lst, Mq.kEnum_ok, Mq.evI_enum, Mq.kSet_ok, Mq.kSet_exc, Mq.exS_set, Mq.kPar2_ok, Mq.kPar2_exc, Mq.kPar1_ok, Mq.kPar1_exc, Mq.exS_par, Mq.bdR_ok, Mq.kUnp_ok, Mq.kUnp_exc, Mq.exS_unp, Mq.kIx2_ok, Mq.kIx2_exc, Mq.kIx1_ok, Mq.kIx1_exc, Mq.exS_setIx, Mq.kExp_ok, Mq.kExp_exc, Mq.exS_expr, Mq.kRet_ok, Mq.kRet_exc, Mq.exS_ret, Mq.kIfs_ok, Mq.kIfs_exc, Mq.exS_ifs, Mq.kFor_ok, Mq.kFor_exc, Mq.exS_for, Mq.kRaise_ok, Mq.kRaise_exc, Mq.exS_raise, Mq.kTryE_nx, Mq.kTryE_rt, Mq.kTry_nx, Mq.kTry_rt, Mq.kTry_xc, Mq.exS_tryAs, Mq.kSt_nx, Mq.kSt_rt, Mq.kSt_xc, Mq.exSs_nil, Mq.exSs_cons, Mq.fin_nx, Mq.fin_rt, Mq.fin_xc, Mq.fin_ite, Mq.kSt_ite, Mq.kRet_ite, Mq.kSet_ite, Mq.ite_and, Mq.ite_or, Mq.ite_andD, Mq.ite_orD, Mq.bare_mk, Mq.sz_0, Mq.sz_1, Mq.sz_2, Mq.sz_3, Mq.sz_4, Mq.sz_5, Mq.sz_6, Mq.sz_7, Mq.sz_8, Mq.sz_9, Mq.sz_10, Mq.sz_11, Mq.sz_12, Mw.tru_non, Mw.tru_bl, Mw.tru_int, Mw.tru_tup, Mw.tru_lst, Mw.getL_lst, Mw.resO_some, Mw.resO_none, Mw.newL_false, Mw.newL_true, Mw.cmp_eq_int, Mw.cmp_ne_int, Mw.cmp_lt_int, Mw.cmp_le_int, Mw.cmp_gt_int, Mw.cmp_ge_int, Mw.cmp_eq_str, Mw.cmp_ne_str, Mw.bq_len, Mw.bq_isi, Mw.bq_int, Mw.bq_str, Mw.bq_ord, Mw.bq_all, Mw.bq_list, Mw.bq_tuple, Mw.bq_dict, Mw.bq_sorted, Mw.bq_repr, Mw.bq_min, Mw.bq_max, Mw.len_tup, Mw.len_lst, Mw.int_int, Mw.tuple_lst, Mw.list_tup_f, Mw.list_lst_f, Mw.idx_tup, Mw.idx_lst, Mw.src_tup, Mw.src_lst, Mw.add_int, Mw.sub_int, Mw.atI_0, Mw.atI_1, Mw.atI_2, Mw.atI_3, Mw.atI_4, Mq.ii_int, Mq.ii_bl, Mq.ii_str, Mq.ii_non, Mq.ii_tup, Mq.ii_lst, Mq.ib_int, Mq.ib_bl, Mq.ib_str, Mq.ib_non, Mq.ib_tup, Mq.ib_lst, Mq.is_int, Mq.is_bl, Mq.is_str, Mq.is_non, Mq.is_tup, Mq.is_lst, Mq.it_int, Mq.it_bl, Mq.it_str, Mq.it_non, Mq.it_tup, Mq.it_lst, Mq.il_int, Mq.il_bl, Mq.il_str, Mq.il_non, Mq.il_tup, Mq.il_lst, Mq.cis_int, Mq.cis_bl, Mq.cis_str, Mq.cis_non, Mq.cis_tup, Mq.cis_lst, Mq.cnis_int, Mq.cnis_bl, Mq.cnis_str, Mq.cnis_non, Mq.cnis_tup, Mq.cnis_lst, Mj.bindT, Mj.bindTs, Mj.wipeR, Mj.Tg.own, Mj.Tgs.own, List.getElem?_cons_zero, List.getElem?_cons_succ, List.set_cons_zero, List.set_cons_succ, if_true, Bool.false_eq_true, if_false, ite_false, ite_true, List.length_cons, List.length_nil, List.cons_append, List.nil_append, Bool.not_true, Bool.not_false, Bool.and_true, Bool.true_and, Bool.false_and, Bool.and_false, Bool.or_true, Bool.true_or, Bool.or_false, Bool.false_or, Bool.not_not, Nat.zero_add, and_self, Mj.pickAll, List.isEmpty_cons, List.isEmpty_nil, Nat.reduceAdd, Nat.reduceLeDiff, Nat.reduceEqDiff, eq_self, Int.reduceLT, Int.reduceLE, Int.reduceAdd, Int.reduceSub, Int.reduceToNat, decide_true, decide_false, Int.reduceNeg, Nat.reduceSub, $ls,*] $[at $l]?)
theorem range_up (n : Nat) : (List.range n).Pairwise (· < ·) := List.pairwise_lt_range
theorem s_house (n : Nat) (ns : List Int) (R M : MH) (s : Sch) (most : Nat) (hM : Fed ns R M) (hS : SchP s) (hm : most ≤ 9) :
    ∃ os nx J M', callN T sub (n + 5) 17 [.ref 0, schD s, .int most] none M = .ok (houseD s nx os) M' ∧ HouseP s nx os ∧ 0 ≤ nx ∧ nx ≤ most ∧ Fed ns (R ++ J) M' := by
  rw [r__law_house]
  have hsl := hS.len
  have hnd : (s.map (·.1)).Nodup := hS.cls.nodup cls_nd
  have hne : s.map (·.1) ≠ [] := by
    intro z
    exact hS.ne (List.map_eq_nil_iff.mp z)
  obtain ⟨r, M1, e1, hF1, r0, r1⟩ := s_draw (n + 3) ns R M ((most : Int) + 1) hM (by omega)
  obtain ⟨k, rfl⟩ := Int.eq_ofNat_of_zero_le r0
  simp_arith [b__law_house, schD, q__law_house_0]
  rw [comp_okA clsD s Mw.SrcIs.vals (fun c => .str c.1) (fun c => [some (.ref 0), some (.tup (s.map clsD)), some (.int most), none, none, none, none, none, some (.str c.1), some (lotD c.2)]) (fun c _ => ⟨rfl, by simp_arith []⟩)]
  simp_arith [e1, q__law_house_1, rng1D_ok (k : Int) M1 (by omega), Int.toNat_natCast]
  let ρ0 : Option D → Rho := fun x7 => [some (.ref 0), some (.tup (s.map clsD)), some (.int most), none, none, some (.lst (s.map fun c => .str c.1)), some (.int k), x7, none, none]
  obtain ⟨ds, M2, e2, ms, h1, h2, h3, hF2⟩ := comp_suf (src := .vals ((List.range k).map fun (j : Nat) => D.int (j : Int))) (M := M1) (E := ⟨callN T sub (n + 4), noAsk, none, sub⟩) (ρ := ρ0 none) (tg := .name 7) (elt := .tup (.cons (.var 7) (.cons (.call 12 (.cons (.var 0) (.cons (.var 5) .nil))) .nil))) (ifs := .some (.cmp .Gt (.call 10 (.cons (.var 0) (.cons (.const (.int 4)) .nil))) (.const (.int 0)))) (fun (j : Nat) => D.int (j : Int)) (List.range k)
    (fun r acc M' => ∃ (ms : List (Nat × Str)), acc = ms.map (fun m => .tup [.int (m.1 : Int), .str m.2]) ∧ (ms.map (·.1) ++ r).Sublist (List.range k) ∧ (∀ m ∈ ms, m.2 ∈ s.map (·.1)) ∧ Fed ns R M')
    (fun r acc M' h => Mw.SrcIs.vals) ⟨[], rfl, by simp, by simp, hF1⟩ (by
      rintro j r acc M' hj ⟨ms, rfl, h1, h2, hF⟩
      refine ⟨ρ0 (some (.int j)), rfl, ?_⟩
      obtain ⟨w, M2, e2, hF2, w0, w1⟩ := s_draw (n + 3) ns R M' 4 hF (by omega)
      obtain ⟨x, M3, hx, e3, hF3⟩ := s_any (n + 2) ns R M2 (s.map fun c => .str c.1) hF2 (by simpa using hS.ne) (by rw [List.length_map]; omega)
      obtain ⟨c, hc, rfl⟩ := List.mem_map.mp hx
      refine ⟨decide (0 < w), M2, by simp_arith [ρ0, e2], fun _ => ⟨ms, rfl, ?_, h2, hF2⟩, fun _ => ⟨.tup [.int (j : Int), .str c.1], M3, by simp_arith [ρ0, e3], ms ++ [(j, c.1)], by simp, by simpa using h1, ?_, hF3⟩⟩
      · refine List.Sublist.trans ?_ h1
        exact List.Sublist.append_left (List.sublist_cons_self _ _) _
      · intro m hm
        rcases List.mem_append.mp hm with hm | hm
        · exact h2 m hm
        · rw [List.mem_singleton.mp hm]
          exact List.mem_map.mpr ⟨c, hc, rfl⟩)
  subst h1
  rw [List.append_nil] at h2
  simp only [ρ0] at e2
  simp_arith [e2, q__law_house_2]
  have hmlen : ms.length ≤ 10 := by
    have := h2.length_le
    rw [List.length_map, List.length_range] at this
    omega
  let qs : List (Int × Str) := ms.map fun m => ((m.1 : Int), m.2)
  have eq : (ms.map fun m => D.tup [.int (m.1 : Int), .str m.2]) = qs.map memD := by
    rw [List.map_map]
    rfl
  have hql : qs.length ≤ 100 := by
    rw [List.length_map]
    omega
  rw [eq]
  obtain ⟨ds, M3, e3, os, J, g1, g2, g3, hF3⟩ := comp_suf (src := .vals (qs.map memD)) (M := M2) (E := ⟨callN T sub (n + 4), noAsk, none, sub⟩) (ρ := [some (.ref 0), some (.tup (s.map clsD)), some (.int most), some (.lst (qs.map memD)), none, some (.lst (s.map fun c => .str c.1)), some (.int k), none, none, none]) (tg := .tup (.cons (.name 7) (.cons (.name 8) .nil))) (elt := .tup (.cons (.var 7) (.cons (.var 8) (.cons (.call 16 (.cons (.var 0) (.cons (.idx (.bi false "dict" (.cons (.var 1) .nil)) (.var 8)) (.cons (.var 3) .nil)))) .nil)))) (ifs := .none) memD qs
    (fun r acc M' => ∃ (os : List Ob) (J : MH), acc = os.map Ob.d ∧ (os.map fun o => (o.n, o.c)) ++ r = qs ∧ (∀ o ∈ os, ∃ l, lookS s o.c = some l ∧ FitVs qs l o.vs) ∧ Fed ns (R ++ J) M')
    (fun r acc M' h => Mw.SrcIs.vals) ⟨[], [], rfl, by simp, by simp, by simpa using hF2⟩ (by
      rintro m r acc M' hm ⟨os, J, rfl, g1, g2, hF⟩
      refine ⟨[some (.ref 0), some (.tup (s.map clsD)), some (.int most), some (.lst (qs.map memD)), none, some (.lst (s.map fun c => .str c.1)), some (.int k), some (.int m.1), some (.str m.2), none], rfl, true, M', rfl, (fun z => by cases z), fun _ => ?_⟩
      have hmc : m.2 ∈ s.map (·.1) := by
        obtain ⟨q, hq, rfl⟩ := List.mem_map.mp hm
        exact h3 q hq
      obtain ⟨l, hl⟩ := lookS_some hmc
      have hL := hS.lot _ (lookS_mem hl)
      obtain ⟨vs, M4, e4, hv, hF4⟩ := s_values n ns (R ++ (J ++ [dictM lotD s])) (M' ++ [dictM lotD s]) (s.map (·.1)) l qs (by rw [← List.append_assoc]; exact fed_app hF) hL.kd hql
      have ds := dict_sch (M := M') hnd
      unfold schD at ds
      refine ⟨Ob.d ⟨m.1, m.2, vs⟩, M4, ?_, os ++ [⟨m.1, m.2, vs⟩], J ++ [dictM lotD s], by simp, by rw [← g1]; simp, ?_, hF4⟩
      · simp_arith [ds, idx_dict (f := lotD) (s := s) (c := m.2) (M := M' ++ [dictM lotD s]) get_end, hl, Option.map_some, e4, Ob.d]
      · intro o ho
        rcases List.mem_append.mp ho with ho | ho
        · exact g2 o ho
        · rw [List.mem_singleton.mp ho]
          exact ⟨l, hl, hv⟩)
  subst g1
  rw [List.append_nil] at g2
  have hns : os.map (·.n) = ms.map fun m => (m.1 : Int) := by
    have := congrArg (List.map Prod.fst) g2
    simpa [qs, Function.comp_def] using this
  refine ⟨os, (k : Int), J, M3, ?_, ⟨hS, ?_, ?_, by omega, ?_⟩, by omega, by omega, hF3⟩
  · simp_arith [e3, houseD, schD]
  · rw [hns, List.pairwise_map]
    have := (range_up k).sublist h2
    rw [List.pairwise_map] at this
    exact this.imp (fun h => by omega)
  · intro o ho
    have : o.n ∈ os.map (·.n) := List.mem_map.mpr ⟨o, ho, rfl⟩
    rw [hns] at this
    obtain ⟨m, hm, e⟩ := List.mem_map.mp this
    have := List.mem_range.mp (h2.subset (List.mem_map.mpr ⟨m, hm, rfl⟩))
    omega
  · intro o ho
    rw [g2]
    exact g3 o ho
end Law
/-! P5: outcomes. -/
namespace Law
open PySem PySem.Spec PyProof.Rows L2 Mj Mq
local macro_rules
  | `(tactic| simp_arith [$ls,*] $[at $l]?) => `(tactic| simp only [Mq.vr_ok, Mq.up_ok, Mq.tr_ok, Mq.td_ok, Mq.td_exc, Mq.td_bad, Mq.tru1_ok, Mq.tru1_exc, Mq.tru1_bad, Mq.tnot_ok, Mq.tnot_exc, Mq.tnot_bad, Mq.ev_var, Mq.ev_const, Mq.ev_glob, Mq.kBin2_ok, Mq.kBin2_exc, Mq.kBin2_bad, Mq.kBin1_ok, Mq.kBin1_exc, Mq.kBin1_bad, Mq.ev_bin, Mq.negD_int, Mq.kNeg_ok, Mq.kNeg_exc, Mq.kNeg_bad, Mq.ev_neg, Mq.kNotE_ok, Mq.kNotE_exc, Mq.ev_not, Mq.ev_and, Mq.ev_or, Mq.brA_ok, Mq.brO_ok, Mq.kAnd_ok, Mq.kAnd_exc, Mq.evAnd_1, Mq.evAnd_2, Mq.kAndT_ok, Mq.kAndT_exc, Mq.evAndT_1, Mq.evAndT_2, Mq.kOr_ok, Mq.kOr_exc, Mq.evOr_1, Mq.evOr_2, Mq.kOrT_ok, Mq.kOrT_exc, Mq.evOrT_1, Mq.evOrT_2, Mq.kCmp2_ok, Mq.kCmp2_exc, Mq.kCmp2_bad, Mq.kCmp1_ok, Mq.kCmp1_exc, Mq.kCmp1_bad, Mq.ev_cmp, Mq.evT_cmp, Mq.kCh4_ok, Mq.kCh4_exc, Mq.kCh4_bad, Mq.kCh3_ok, Mq.kCh2_ok, Mq.kCh2_exc, Mq.kCh2_bad, Mq.kCh1_ok, Mq.kCh1_exc, Mq.kCh1_bad, Mq.ev_chain, Mq.evT_chain, Mq.kIfe_ok, Mq.kIfe_exc, Mq.ev_ife, Mq.kTup_ok, Mq.kTup_exc, Mq.ev_tup, Mq.kLst_ok, Mq.kLst_exc, Mq.ev_lst, Mq.kDict_ok, Mq.ev_dict, Mq.kIdx2_ok, Mq.kIdx2_exc, Mq.kIdx2_bad, Mq.kIdx1_ok, Mq.kIdx1_exc, Mq.kIdx1_bad, Mq.ev_idx, Mq.kSl3_ok, Mq.kSl2_ok, Mq.kSl1_ok, Mq.kSl1_exc, Mq.kSl1_bad, Mq.ev_slice, Mq.revD_tup, Mq.kRev_ok, Mq.kRev_exc, Mq.kRev_bad, Mq.ev_revT, Mq.kCall_ok, Mq.kCall_exc, Mq.ev_call, Mq.kCallV_ok, Mq.ev_callV, Mq.kCallW_ok, Mq.ev_callW, Mq.kBi_ok, Mq.kBi_exc, Mq.ev_bi, Mq.kMeth2_ok, Mq.kMeth2_exc, Mq.kMeth1_ok, Mq.kMeth1_exc, Mq.kMeth1_bad, Mq.ev_meth, Mq.kComp_ok, Mq.ev_comp, Mq.kLam_ok, Mq.ev_lamcall, Mq.lzD_ok, Mq.kLz2_ok, Mq.kLz2_exc, Mq.kLz2_bad, Mq.kLz1_ok, Mq.kLz1_exc, Mq.kLz1_bad, Mq.ev_listZip, Mq.ev_ask, Mq.isX_ok, Mq.ev_isE, Mq.evT_isE, Mq.fldX_ok, Mq.ev_fldE, Mq.evT_not, Mq.evT_and, Mq.evT_or, Mq.evT_var, Mq.evT_call, Mq.evT_callV, Mq.evT_bi, Mq.evT_idx, Mq.kEs2_ok, Mq.kEs2_exc, Mq.kEs1_ok, Mq.kEs1_exc, Mq.evs_nil, Mq.evs_cons, Mq.intO_ok, Mq.kO_ok, Mq.evo_none, Mq.evo_some, Mq.evIf_none, Mq.evIf_some, Mq.srcX_ok, Mq.kSeq_ok, Mq.evI_seq, Mq.kRng1_ok, Mq.evI_rng1, Mq.kRng22_ok, Mq.kRng21_ok, Mq.evI_rng2, Mq.zipD_tup, Mq.zipD_lst, Mq.kZip2_ok, Mq.kZip1_ok, Mq.evI_zip, Mq.enumD_lst, Mq.kEnum_ok, Mq.evI_enum, Mq.kSet_ok, Mq.kSet_exc, Mq.exS_set, Mq.kPar2_ok, Mq.kPar2_exc, Mq.kPar1_ok, Mq.kPar1_exc, Mq.exS_par, Mq.bdR_ok, Mq.kUnp_ok, Mq.kUnp_exc, Mq.exS_unp, Mq.kIx2_ok, Mq.kIx2_exc, Mq.kIx1_ok, Mq.kIx1_exc, Mq.exS_setIx, Mq.kExp_ok, Mq.kExp_exc, Mq.exS_expr, Mq.kRet_ok, Mq.kRet_exc, Mq.exS_ret, Mq.kIfs_ok, Mq.kIfs_exc, Mq.exS_ifs, Mq.kFor_ok, Mq.kFor_exc, Mq.exS_for, Mq.kRaise_ok, Mq.kRaise_exc, Mq.exS_raise, Mq.kTryE_nx, Mq.kTryE_rt, Mq.kTry_nx, Mq.kTry_rt, Mq.kTry_xc, Mq.exS_tryAs, Mq.kSt_nx, Mq.kSt_rt, Mq.kSt_xc, Mq.exSs_nil, Mq.exSs_cons, Mq.fin_nx, Mq.fin_rt, Mq.fin_xc, Mq.fin_ite, Mq.kSt_ite, Mq.kRet_ite, Mq.kSet_ite, Mq.ite_and, Mq.ite_or, Mq.ite_andD, Mq.ite_orD, Mq.bare_mk, Mq.sz_0, Mq.sz_1, Mq.sz_2, Mq.sz_3, Mq.sz_4, Mq.sz_5, Mq.sz_6, Mq.sz_7, Mq.sz_8, Mq.sz_9, Mq.sz_10, Mq.sz_11, Mq.sz_12, Mw.tru_non, Mw.tru_bl, Mw.tru_int, Mw.tru_tup, Mw.tru_lst, Mw.getL_lst, Mw.resO_some, Mw.resO_none, Mw.newL_false, Mw.newL_true, Mw.cmp_eq_int, Mw.cmp_ne_int, Mw.cmp_lt_int, Mw.cmp_le_int, Mw.cmp_gt_int, Mw.cmp_ge_int, Mw.cmp_eq_str, Mw.cmp_ne_str, Mw.bq_len, Mw.bq_isi, Mw.bq_int, Mw.bq_str, Mw.bq_ord, Mw.bq_all, Mw.bq_list, Mw.bq_tuple, Mw.bq_dict, Mw.bq_sorted, Mw.bq_repr, Mw.bq_min, Mw.bq_max, Mw.len_tup, Mw.len_lst, Mw.int_int, Mw.tuple_lst, Mw.list_tup_f, Mw.list_lst_f, Mw.idx_tup, Mw.idx_lst, Mw.src_tup, Mw.src_lst, Mw.add_int, Mw.sub_int, Mw.atI_0, Mw.atI_1, Mw.atI_2, Mw.atI_3, Mw.atI_4, Mq.ii_int, Mq.ii_bl, Mq.ii_str, Mq.ii_non, Mq.ii_tup, Mq.ii_lst, Mq.ib_int, Mq.ib_bl, Mq.ib_str, Mq.ib_non, Mq.ib_tup, Mq.ib_lst, Mq.is_int, Mq.is_bl, Mq.is_str, Mq.is_non, Mq.is_tup, Mq.is_lst, Mq.it_int, Mq.it_bl, Mq.it_str, Mq.it_non, Mq.it_tup, Mq.it_lst, Mq.il_int, Mq.il_bl, Mq.il_str, Mq.il_non, Mq.il_tup, Mq.il_lst, Mq.cis_int, Mq.cis_bl, Mq.cis_str, Mq.cis_non, Mq.cis_tup, Mq.cis_lst, Mq.cnis_int, Mq.cnis_bl, Mq.cnis_str, Mq.cnis_non, Mq.cnis_tup, Mq.cnis_lst, Mj.bindT, Mj.bindTs, Mj.wipeR, Mj.Tg.own, Mj.Tgs.own, List.getElem?_cons_zero, List.getElem?_cons_succ, List.set_cons_zero, List.set_cons_succ, if_true, Bool.false_eq_true, if_false, ite_false, ite_true, List.length_cons, List.length_nil, List.cons_append, List.nil_append, Bool.not_true, Bool.not_false, Bool.and_true, Bool.true_and, Bool.false_and, Bool.and_false, Bool.or_true, Bool.true_or, Bool.or_false, Bool.false_or, Bool.not_not, Nat.zero_add, and_self, Mj.pickAll, List.isEmpty_cons, List.isEmpty_nil, Nat.reduceAdd, Nat.reduceLeDiff, Nat.reduceEqDiff, eq_self, Int.reduceLT, Int.reduceLE, Int.reduceAdd, Int.reduceSub, Int.reduceToNat, decide_true, decide_false, Int.reduceNeg, Nat.reduceSub, $ls,*] $[at $l]?)
/-! ### outcome -/
def outD (e : Except XV D) : D := match e with
  | .ok d => .tup [.str "told", d]
  | .error x => if x.k = 6 then .tup [.str "step", (lookF x.fs "step").getD .non, (lookF x.fs "word").getD .non] else .tup [.str "object", (lookF x.fs "number").getD .non]
def ErrOk (e : Except XV D) : Prop := match e with
  | .ok _ => True
  | .error x => (∃ st w, x = badStep st w) ∨ ∃ d, x = noOb d
theorem ne_ws : ¬ (("step" : Str) = "word") := by decide +kernel
theorem lk1 (a b : D) : lookF [("word", a), ("step", b)] "step" = some b := by
  simp only [lookF, if_neg ne_ws, if_true]
theorem lk2 (a b : D) : lookF [("word", a), ("step", b)] "word" = some a := by
  simp only [lookF, if_true]
theorem lk3 (a : D) : lookF [("number", a)] "number" = some a := by
  simp only [lookF, if_true]
theorem eqb3 (a b c d e f : Bool) (M : MH) : cmpD .Eq (.lst [.bl a, .bl b, .bl c]) (.lst [.bl d, .bl e, .bl f]) M = some (a == d && (b == e && (c == f && true))) := by
  rw [cmpEq_ok (n := 1) (m := 1) (by omega) (by omega) (okB_ok 1 _ rfl) (okB_ok 1 _ rfl)]
  rfl
theorem eqb5 (a b c d e a' b' c' d' e' : Bool) (M : MH) : cmpD .Eq (.lst [.bl a, .bl b, .bl c, .bl d, .bl e]) (.lst [.bl a', .bl b', .bl c', .bl d', .bl e']) M = some (a == a' && (b == b' && (c == c' && (d == d' && (e == e' && true))))) := by
  rw [cmpEq_ok (n := 1) (m := 1) (by omega) (by omega) (okB_ok 1 _ rfl) (okB_ok 1 _ rfl)]
  rfl
theorem add5 (a b c d e : D) (M : MH) : binD false .Add (.lst [a, b, c]) (.lst [d, e]) M = .ok (.lst [a, b, c, d, e]) M := by
  rw [addL_ok (by show 3 + 2 ≤ sizeLine; decide)]
  rfl
theorem s_outcome (n : Nat) (a : Ask) (e : Except XV D) (M M' : MH) (h : a M = toRx e M') (he : ErrOk e) : callN T sub (n + 1) 19 [] (some a) M = .ok (outD e) M' := by
  rw [r__law_outcome]
  cases e with
  | ok d =>
    simp_arith [b__law_outcome, h, toRx, outD]
  | error x =>
    rcases he with ⟨st, w, rfl⟩ | ⟨d, rfl⟩
    · simp_arith [b__law_outcome, h, toRx, outD, badStep, Law.u_6_0, Law.u_6_1, Law.u_6_2, Law.u_6_3, Law.u_6_4, Law.u_6_5, Law.u_6_6, Law.u_6_7, Law.u_6_8, Law.u_6_9, Law.u_6_10, Law.u_6_11, Law.u_6_12, Law.u_6_13, Law.u_5_0, Law.u_5_1, Law.u_5_2, Law.u_5_3, Law.u_5_4, Law.u_5_5, Law.u_5_6, Law.u_5_7, Law.u_5_8, Law.u_5_9, Law.u_5_10, Law.u_5_11, Law.u_5_12, Law.u_5_13, List.any_cons, List.any_nil, add5, eqb5, eqb3, lk1, lk2, Option.getD_some, Nat.reduceLT, beq_self_eq_true, show (true == false) = false from rfl, show (false == true) = false from rfl]
    · simp_arith [b__law_outcome, h, toRx, outD, noOb, Law.u_6_0, Law.u_6_1, Law.u_6_2, Law.u_6_3, Law.u_6_4, Law.u_6_5, Law.u_6_6, Law.u_6_7, Law.u_6_8, Law.u_6_9, Law.u_6_10, Law.u_6_11, Law.u_6_12, Law.u_6_13, Law.u_5_0, Law.u_5_1, Law.u_5_2, Law.u_5_3, Law.u_5_4, Law.u_5_5, Law.u_5_6, Law.u_5_7, Law.u_5_8, Law.u_5_9, Law.u_5_10, Law.u_5_11, Law.u_5_12, Law.u_5_13, List.any_cons, List.any_nil, add5, eqb5, eqb3, lk3, Option.getD_some, Nat.reduceLT, beq_self_eq_true, show (true == false) = false from rfl, show (false == true) = false from rfl]
end Law
/-! P6: what is due. -/
namespace Law
open PySem PySem.Spec PyProof.Rows L2 Mj Mq
local macro_rules
  | `(tactic| simp_arith [$ls,*] $[at $l]?) => `(tactic| simp only [Mq.vr_ok, Mq.up_ok, Mq.tr_ok, Mq.td_ok, Mq.td_exc, Mq.td_bad, Mq.tru1_ok, Mq.tru1_exc, Mq.tru1_bad, Mq.tnot_ok, Mq.tnot_exc, Mq.tnot_bad, Mq.ev_var, Mq.ev_const, Mq.ev_glob, Mq.kBin2_ok, Mq.kBin2_exc, Mq.kBin2_bad, Mq.kBin1_ok, Mq.kBin1_exc, Mq.kBin1_bad, Mq.ev_bin, Mq.negD_int, Mq.kNeg_ok, Mq.kNeg_exc, Mq.kNeg_bad, Mq.ev_neg, Mq.kNotE_ok, Mq.kNotE_exc, Mq.ev_not, Mq.ev_and, Mq.ev_or, Mq.brA_ok, Mq.brO_ok, Mq.kAnd_ok, Mq.kAnd_exc, Mq.evAnd_1, Mq.evAnd_2, Mq.kAndT_ok, Mq.kAndT_exc, Mq.evAndT_1, Mq.evAndT_2, Mq.kOr_ok, Mq.kOr_exc, Mq.evOr_1, Mq.evOr_2, Mq.kOrT_ok, Mq.kOrT_exc, Mq.evOrT_1, Mq.evOrT_2, Mq.kCmp2_ok, Mq.kCmp2_exc, Mq.kCmp2_bad, Mq.kCmp1_ok, Mq.kCmp1_exc, Mq.kCmp1_bad, Mq.ev_cmp, Mq.evT_cmp, Mq.kCh4_ok, Mq.kCh4_exc, Mq.kCh4_bad, Mq.kCh3_ok, Mq.kCh2_ok, Mq.kCh2_exc, Mq.kCh2_bad, Mq.kCh1_ok, Mq.kCh1_exc, Mq.kCh1_bad, Mq.ev_chain, Mq.evT_chain, Mq.kIfe_ok, Mq.kIfe_exc, Mq.ev_ife, Mq.kTup_ok, Mq.kTup_exc, Mq.ev_tup, Mq.kLst_ok, Mq.kLst_exc, Mq.ev_lst, Mq.kDict_ok, Mq.ev_dict, Mq.kIdx2_ok, Mq.kIdx2_exc, Mq.kIdx2_bad, Mq.kIdx1_ok, Mq.kIdx1_exc, Mq.kIdx1_bad, Mq.ev_idx, Mq.kSl3_ok, Mq.kSl2_ok, Mq.kSl1_ok, Mq.kSl1_exc, Mq.kSl1_bad, Mq.ev_slice, Mq.revD_tup, Mq.kRev_ok, Mq.kRev_exc, Mq.kRev_bad, Mq.ev_revT, Mq.kCall_ok, Mq.kCall_exc, Mq.ev_call, Mq.kCallV_ok, Mq.ev_callV, Mq.kCallW_ok, Mq.ev_callW, Mq.kBi_ok, Mq.kBi_exc, Mq.ev_bi, Mq.kMeth2_ok, Mq.kMeth2_exc, Mq.kMeth1_ok, Mq.kMeth1_exc, Mq.kMeth1_bad, Mq.ev_meth, Mq.kComp_ok, Mq.ev_comp, Mq.kLam_ok, Mq.ev_lamcall, Mq.lzD_ok, Mq.kLz2_ok, Mq.kLz2_exc, Mq.kLz2_bad, Mq.kLz1_ok, Mq.kLz1_exc, Mq.kLz1_bad, Mq.ev_listZip, Mq.ev_ask, Mq.isX_ok, Mq.ev_isE, Mq.evT_isE, Mq.fldX_ok, Mq.ev_fldE, Mq.evT_not, Mq.evT_and, Mq.evT_or, Mq.evT_var, Mq.evT_call, Mq.evT_callV, Mq.evT_bi, Mq.evT_idx, Mq.kEs2_ok, Mq.kEs2_exc, Mq.kEs1_ok, Mq.kEs1_exc, Mq.evs_nil, Mq.evs_cons, Mq.intO_ok, Mq.kO_ok, Mq.evo_none, Mq.evo_some, Mq.evIf_none, Mq.evIf_some, Mq.srcX_ok, Mq.kSeq_ok, Mq.evI_seq, Mq.kRng1_ok, Mq.evI_rng1, Mq.kRng22_ok, Mq.kRng21_ok, Mq.evI_rng2, Mq.zipD_tup, Mq.zipD_lst, Mq.kZip2_ok, Mq.kZip1_ok, Mq.evI_zip, Mq.enumD_lst, Mq.kEnum_ok, Mq.evI_enum, Mq.kSet_ok, Mq.kSet_exc, Mq.exS_set, Mq.kPar2_ok, Mq.kPar2_exc, Mq.kPar1_ok, Mq.kPar1_exc, Mq.exS_par, Mq.bdR_ok, Mq.kUnp_ok, Mq.kUnp_exc, Mq.exS_unp, Mq.kIx2_ok, Mq.kIx2_exc, Mq.kIx1_ok, Mq.kIx1_exc, Mq.exS_setIx, Mq.kExp_ok, Mq.kExp_exc, Mq.exS_expr, Mq.kRet_ok, Mq.kRet_exc, Mq.exS_ret, Mq.kIfs_ok, Mq.kIfs_exc, Mq.exS_ifs, Mq.kFor_ok, Mq.kFor_exc, Mq.exS_for, Mq.kRaise_ok, Mq.kRaise_exc, Mq.exS_raise, Mq.kTryE_nx, Mq.kTryE_rt, Mq.kTry_nx, Mq.kTry_rt, Mq.kTry_xc, Mq.exS_tryAs, Mq.kSt_nx, Mq.kSt_rt, Mq.kSt_xc, Mq.exSs_nil, Mq.exSs_cons, Mq.fin_nx, Mq.fin_rt, Mq.fin_xc, Mq.fin_ite, Mq.kSt_ite, Mq.kRet_ite, Mq.kSet_ite, Mq.ite_and, Mq.ite_or, Mq.ite_andD, Mq.ite_orD, Mq.bare_mk, Mq.sz_0, Mq.sz_1, Mq.sz_2, Mq.sz_3, Mq.sz_4, Mq.sz_5, Mq.sz_6, Mq.sz_7, Mq.sz_8, Mq.sz_9, Mq.sz_10, Mq.sz_11, Mq.sz_12, Mw.tru_non, Mw.tru_bl, Mw.tru_int, Mw.tru_tup, Mw.tru_lst, Mw.getL_lst, Mw.resO_some, Mw.resO_none, Mw.newL_false, Mw.newL_true, Mw.cmp_eq_int, Mw.cmp_ne_int, Mw.cmp_lt_int, Mw.cmp_le_int, Mw.cmp_gt_int, Mw.cmp_ge_int, Mw.cmp_eq_str, Mw.cmp_ne_str, Mw.bq_len, Mw.bq_isi, Mw.bq_int, Mw.bq_str, Mw.bq_ord, Mw.bq_all, Mw.bq_list, Mw.bq_tuple, Mw.bq_dict, Mw.bq_sorted, Mw.bq_repr, Mw.bq_min, Mw.bq_max, Mw.len_tup, Mw.len_lst, Mw.int_int, Mw.tuple_lst, Mw.list_tup_f, Mw.list_lst_f, Mw.idx_tup, Mw.idx_lst, Mw.src_tup, Mw.src_lst, Mw.add_int, Mw.sub_int, Mw.atI_0, Mw.atI_1, Mw.atI_2, Mw.atI_3, Mw.atI_4, Mq.ii_int, Mq.ii_bl, Mq.ii_str, Mq.ii_non, Mq.ii_tup, Mq.ii_lst, Mq.ib_int, Mq.ib_bl, Mq.ib_str, Mq.ib_non, Mq.ib_tup, Mq.ib_lst, Mq.is_int, Mq.is_bl, Mq.is_str, Mq.is_non, Mq.is_tup, Mq.is_lst, Mq.it_int, Mq.it_bl, Mq.it_str, Mq.it_non, Mq.it_tup, Mq.it_lst, Mq.il_int, Mq.il_bl, Mq.il_str, Mq.il_non, Mq.il_tup, Mq.il_lst, Mq.cis_int, Mq.cis_bl, Mq.cis_str, Mq.cis_non, Mq.cis_tup, Mq.cis_lst, Mq.cnis_int, Mq.cnis_bl, Mq.cnis_str, Mq.cnis_non, Mq.cnis_tup, Mq.cnis_lst, Mj.bindT, Mj.bindTs, Mj.wipeR, Mj.Tg.own, Mj.Tgs.own, List.getElem?_cons_zero, List.getElem?_cons_succ, List.set_cons_zero, List.set_cons_succ, if_true, Bool.false_eq_true, if_false, ite_false, ite_true, List.length_cons, List.length_nil, List.cons_append, List.nil_append, Bool.not_true, Bool.not_false, Bool.and_true, Bool.true_and, Bool.false_and, Bool.and_false, Bool.or_true, Bool.true_or, Bool.or_false, Bool.false_or, Bool.not_not, Nat.zero_add, and_self, Mj.pickAll, List.isEmpty_cons, List.isEmpty_nil, Nat.reduceAdd, Nat.reduceLeDiff, Nat.reduceEqDiff, eq_self, Int.reduceLT, Int.reduceLE, Int.reduceAdd, Int.reduceSub, Int.reduceToNat, decide_true, decide_false, Int.reduceNeg, Nat.reduceSub, $ls,*] $[at $l]?)
/-! ### what is due -/
theorem s_law_suits (n : Nat) (s : Sch) (nx : Int) (os : List Ob) (k : Kd) (d : D) (hd : plain d = true) (hl : os.length ≤ 100) (h : ∀ o ∈ os, nmOk o.c) (hk : ∀ c, k = .cls c → nmOk c) (M : MH) :
    callN T sub (n + 2) 21 [houseD s nx os, k.d, d] none M = .ok (.bl (valOk os k d)) M := by
  rw [r__law_suits]
  cases k with
  | rng lo hi =>
    simp_arith [b__law_suits, houseD, Kd.d, s_law_is_integer n d _ hd]
    cases d <;> simp_arith [intB, valOk]
  | cls c =>
    simp_arith [b__law_suits, houseD, Kd.d, q__law_suits_0]
    rw [comp_okA Ob.d os Mw.SrcIs.vals duo (fun o => [some (.tup [schD s, .int nx, .tup (os.map Ob.d)]), some (.str c), some d, none, some (.int o.n), some (.str o.c), some (.tup o.vs)]) (fun o _ => ⟨rfl, by simp_arith [duo]⟩)]
    cases d with
    | int i => simp_arith [s_law_is_integer n _ _ hd, intB, in_duo hl h (hk c rfl), valOk]
    | _ => first | (simp_arith [s_law_is_integer n _ _ hd, intB, valOk]; done) | cases hd
theorem s_law_is_member (n : Nat) (s : Sch) (nx : Int) (os : List Ob) (d : D) (hd : NumOk d) (hl : os.length ≤ 100) (hn : ∀ o ∈ os, o.n.natAbs < 1000) (M : MH) :
    callN T sub (n + 1) 23 [houseD s nx os, d] none M = .ok (.bl (findOb os d).isSome) M := by
  rw [r__law_is_member]
  simp_arith [b__law_is_member, houseD, rp_ok hd.ok (by omega) hd.ib (by have := hd.w; omega), q__law_is_member_0]
  have ho : ∀ o ∈ os, NumOk (.int o.n) := fun o ho => NumOk.int (Nat.lt_trans (hn o ho) (by decide))
  rw [comp_okA Ob.d os Mw.SrcIs.vals (fun o => .str (rp (.int o.n))) (fun o => [some (.tup [schD s, .int nx, .tup (os.map Ob.d)]), some d, some (.int o.n), some (.str o.c), some (.tup o.vs)]) (fun o h => ⟨rfl, by simp_arith [rp_ok (ho o h).ok (by omega) (ho o h).ib (by have := (ho o h).w; omega)]⟩)]
  have hb : Ok 1 (.lst (os.map fun o => D.str (rp (.int o.n)))) := .lst (fun e he => by
    obtain ⟨o, h, rfl⟩ := List.mem_map.mp he
    exact (ho o h).so.ok _) (by rw [List.length_map]; omega)
  simp_arith [inL_ok (by omega) (by omega) (hd.so.ok 0) hb]
  congr 2
  rw [List.any_map]
  have e : ((fun x => eqvD x (.str (rp d))) ∘ fun o : Ob => D.str (rp (.int o.n))) = fun o => sameI o.n d := by
    funext o
    exact hd.ne o.n
  rw [e]
  cases d with
  | int j =>
    simp only [findOb, List.find?_isSome]
    rw [Bool.eq_iff_iff]
    simp [sameI]
  | _ => simp [findOb, sameI]
end Law
/-! P7: what is due. -/
namespace Law
open PySem PySem.Spec PyProof.Rows L2 Mj Mq
local macro_rules
  | `(tactic| simp_arith [$ls,*] $[at $l]?) => `(tactic| simp only [Mq.vr_ok, Mq.up_ok, Mq.tr_ok, Mq.td_ok, Mq.td_exc, Mq.td_bad, Mq.tru1_ok, Mq.tru1_exc, Mq.tru1_bad, Mq.tnot_ok, Mq.tnot_exc, Mq.tnot_bad, Mq.ev_var, Mq.ev_const, Mq.ev_glob, Mq.kBin2_ok, Mq.kBin2_exc, Mq.kBin2_bad, Mq.kBin1_ok, Mq.kBin1_exc, Mq.kBin1_bad, Mq.ev_bin, Mq.negD_int, Mq.kNeg_ok, Mq.kNeg_exc, Mq.kNeg_bad, Mq.ev_neg, Mq.kNotE_ok, Mq.kNotE_exc, Mq.ev_not, Mq.ev_and, Mq.ev_or, Mq.brA_ok, Mq.brO_ok, Mq.kAnd_ok, Mq.kAnd_exc, Mq.evAnd_1, Mq.evAnd_2, Mq.kAndT_ok, Mq.kAndT_exc, Mq.evAndT_1, Mq.evAndT_2, Mq.kOr_ok, Mq.kOr_exc, Mq.evOr_1, Mq.evOr_2, Mq.kOrT_ok, Mq.kOrT_exc, Mq.evOrT_1, Mq.evOrT_2, Mq.kCmp2_ok, Mq.kCmp2_exc, Mq.kCmp2_bad, Mq.kCmp1_ok, Mq.kCmp1_exc, Mq.kCmp1_bad, Mq.ev_cmp, Mq.evT_cmp, Mq.kCh4_ok, Mq.kCh4_exc, Mq.kCh4_bad, Mq.kCh3_ok, Mq.kCh2_ok, Mq.kCh2_exc, Mq.kCh2_bad, Mq.kCh1_ok, Mq.kCh1_exc, Mq.kCh1_bad, Mq.ev_chain, Mq.evT_chain, Mq.kIfe_ok, Mq.kIfe_exc, Mq.ev_ife, Mq.kTup_ok, Mq.kTup_exc, Mq.ev_tup, Mq.kLst_ok, Mq.kLst_exc, Mq.ev_lst, Mq.kDict_ok, Mq.ev_dict, Mq.kIdx2_ok, Mq.kIdx2_exc, Mq.kIdx2_bad, Mq.kIdx1_ok, Mq.kIdx1_exc, Mq.kIdx1_bad, Mq.ev_idx, Mq.kSl3_ok, Mq.kSl2_ok, Mq.kSl1_ok, Mq.kSl1_exc, Mq.kSl1_bad, Mq.ev_slice, Mq.revD_tup, Mq.kRev_ok, Mq.kRev_exc, Mq.kRev_bad, Mq.ev_revT, Mq.kCall_ok, Mq.kCall_exc, Mq.ev_call, Mq.kCallV_ok, Mq.ev_callV, Mq.kCallW_ok, Mq.ev_callW, Mq.kBi_ok, Mq.kBi_exc, Mq.ev_bi, Mq.kMeth2_ok, Mq.kMeth2_exc, Mq.kMeth1_ok, Mq.kMeth1_exc, Mq.kMeth1_bad, Mq.ev_meth, Mq.kComp_ok, Mq.ev_comp, Mq.kLam_ok, Mq.ev_lamcall, Mq.lzD_ok, Mq.kLz2_ok, Mq.kLz2_exc, Mq.kLz2_bad, Mq.kLz1_ok, Mq.kLz1_exc, Mq.kLz1_bad, Mq.ev_listZip, Mq.ev_ask, Mq.isX_ok, Mq.ev_isE, Mq.evT_isE, Mq.fldX_ok, Mq.ev_fldE, Mq.evT_not, Mq.evT_and, Mq.evT_or, Mq.evT_var, Mq.evT_call, Mq.evT_callV, Mq.evT_bi, Mq.evT_idx, Mq.kEs2_ok, Mq.kEs2_exc, Mq.kEs1_ok, Mq.kEs1_exc, Mq.evs_nil, Mq.evs_cons, Mq.intO_ok, Mq.kO_ok, Mq.evo_none, Mq.evo_some, Mq.evIf_none, Mq.evIf_some, Mq.srcX_ok, Mq.kSeq_ok, Mq.evI_seq, Mq.kRng1_ok, Mq.evI_rng1, Mq.kRng22_ok, Mq.kRng21_ok, Mq.evI_rng2, Mq.zipD_tup, Mq.zipD_lst, Mq.kZip2_ok, Mq.kZip1_ok, Mq.evI_zip, Mq.enumD_lst, Mq.kEnum_ok, Mq.evI_enum, Mq.kSet_ok, Mq.kSet_exc, Mq.exS_set, Mq.kPar2_ok, Mq.kPar2_exc, Mq.kPar1_ok, Mq.kPar1_exc, Mq.exS_par, Mq.bdR_ok, Mq.kUnp_ok, Mq.kUnp_exc, Mq.exS_unp, Mq.kIx2_ok, Mq.kIx2_exc, Mq.kIx1_ok, Mq.kIx1_exc, Mq.exS_setIx, Mq.kExp_ok, Mq.kExp_exc, Mq.exS_expr, Mq.kRet_ok, Mq.kRet_exc, Mq.exS_ret, Mq.kIfs_ok, Mq.kIfs_exc, Mq.exS_ifs, Mq.kFor_ok, Mq.kFor_exc, Mq.exS_for, Mq.kRaise_ok, Mq.kRaise_exc, Mq.exS_raise, Mq.kTryE_nx, Mq.kTryE_rt, Mq.kTry_nx, Mq.kTry_rt, Mq.kTry_xc, Mq.exS_tryAs, Mq.kSt_nx, Mq.kSt_rt, Mq.kSt_xc, Mq.exSs_nil, Mq.exSs_cons, Mq.fin_nx, Mq.fin_rt, Mq.fin_xc, Mq.fin_ite, Mq.kSt_ite, Mq.kRet_ite, Mq.kSet_ite, Mq.ite_and, Mq.ite_or, Mq.ite_andD, Mq.ite_orD, Mq.bare_mk, Mq.sz_0, Mq.sz_1, Mq.sz_2, Mq.sz_3, Mq.sz_4, Mq.sz_5, Mq.sz_6, Mq.sz_7, Mq.sz_8, Mq.sz_9, Mq.sz_10, Mq.sz_11, Mq.sz_12, Mw.tru_non, Mw.tru_bl, Mw.tru_int, Mw.tru_tup, Mw.tru_lst, Mw.getL_lst, Mw.resO_some, Mw.resO_none, Mw.newL_false, Mw.newL_true, Mw.cmp_eq_int, Mw.cmp_ne_int, Mw.cmp_lt_int, Mw.cmp_le_int, Mw.cmp_gt_int, Mw.cmp_ge_int, Mw.cmp_eq_str, Mw.cmp_ne_str, Mw.bq_len, Mw.bq_isi, Mw.bq_int, Mw.bq_str, Mw.bq_ord, Mw.bq_all, Mw.bq_list, Mw.bq_tuple, Mw.bq_dict, Mw.bq_sorted, Mw.bq_repr, Mw.bq_min, Mw.bq_max, Mw.len_tup, Mw.len_lst, Mw.int_int, Mw.tuple_lst, Mw.list_tup_f, Mw.list_lst_f, Mw.idx_tup, Mw.idx_lst, Mw.src_tup, Mw.src_lst, Mw.add_int, Mw.sub_int, Mw.atI_0, Mw.atI_1, Mw.atI_2, Mw.atI_3, Mw.atI_4, Mq.ii_int, Mq.ii_bl, Mq.ii_str, Mq.ii_non, Mq.ii_tup, Mq.ii_lst, Mq.ib_int, Mq.ib_bl, Mq.ib_str, Mq.ib_non, Mq.ib_tup, Mq.ib_lst, Mq.is_int, Mq.is_bl, Mq.is_str, Mq.is_non, Mq.is_tup, Mq.is_lst, Mq.it_int, Mq.it_bl, Mq.it_str, Mq.it_non, Mq.it_tup, Mq.it_lst, Mq.il_int, Mq.il_bl, Mq.il_str, Mq.il_non, Mq.il_tup, Mq.il_lst, Mq.cis_int, Mq.cis_bl, Mq.cis_str, Mq.cis_non, Mq.cis_tup, Mq.cis_lst, Mq.cnis_int, Mq.cnis_bl, Mq.cnis_str, Mq.cnis_non, Mq.cnis_tup, Mq.cnis_lst, Mj.bindT, Mj.bindTs, Mj.wipeR, Mj.Tg.own, Mj.Tgs.own, List.getElem?_cons_zero, List.getElem?_cons_succ, List.set_cons_zero, List.set_cons_succ, if_true, Bool.false_eq_true, if_false, ite_false, ite_true, List.length_cons, List.length_nil, List.cons_append, List.nil_append, Bool.not_true, Bool.not_false, Bool.and_true, Bool.true_and, Bool.false_and, Bool.and_false, Bool.or_true, Bool.true_or, Bool.or_false, Bool.false_or, Bool.not_not, Nat.zero_add, and_self, Mj.pickAll, List.isEmpty_cons, List.isEmpty_nil, Nat.reduceAdd, Nat.reduceLeDiff, Nat.reduceEqDiff, eq_self, Int.reduceLT, Int.reduceLE, Int.reduceAdd, Int.reduceSub, Int.reduceToNat, decide_true, decide_false, Int.reduceNeg, Nat.reduceSub, $ls,*] $[at $l]?)
theorem ne_nilL {n : Nat} {xs : List D} {M : MH} (hn : n ≤ 60) (h : Ok n (.lst xs)) : cmpD .NotEq (.lst xs) (.lst []) M = some (!xs.isEmpty) := by
  rw [cmpNe_ok hn (m := 1) (by omega) h (okB_ok 1 _ rfl)]
  cases xs <;> rfl
def d0 : Str × Kd := ("", .rng 0 0)
theorem goodVs_range (os : List Ob) (l : Lot) (vs : List D) (h : vs.length = l.length) : ((List.range l.length).filter fun k => !valOk os (l.getD k d0).2 (vs.getD k .non)).isEmpty = goodVs os l vs := by
  rw [Bool.eq_iff_iff, List.isEmpty_iff, List.filter_eq_nil_iff]
  unfold goodVs
  rw [List.all_eq_true]
  constructor
  · intro q p hp
    obtain ⟨k, hk, rfl⟩ := List.mem_iff_getElem.mp hp
    rw [List.length_zip] at hk
    have := q k (List.mem_range.mpr (by omega))
    rw [List.getElem_zip]
    rw [List.getD_eq_getElem?_getD, List.getElem?_eq_getElem (by omega), List.getD_eq_getElem?_getD, List.getElem?_eq_getElem (by omega)] at this
    simpa using this
  · intro q k hk
    have hk' := List.mem_range.mp hk
    have := q (l[k], vs[k]'(by omega)) (List.mem_iff_getElem.mpr ⟨k, by rw [List.length_zip]; omega, by rw [List.getElem_zip]⟩)
    rw [List.getD_eq_getElem?_getD, List.getElem?_eq_getElem (by omega), List.getD_eq_getElem?_getD, List.getElem?_eq_getElem (by omega)]
    simpa using this
theorem rp_nm {x : Str} (h : nameS x = true) {M : MH} : biRepr [.str x] M = .ok (.str (rp (.str x))) M := by
  have := nam_name h
  exact rp_ok this.ok (by omega) this.ib (by have := this.w; omega)
theorem in_names {α : Type} {l : List (Str × α)} {d : D} (hd : NamOk d) (hl : l.length ≤ 20) (h : ∀ p ∈ l, nameS p.1 = true) (M : MH) : cmpD .In (.str (rp d)) (.lst (l.map fun p => .str (rp (.str p.1)))) M = some (l.any fun p => sameS p.1 d) := by
  have hb : Ok 1 (.lst (l.map fun p => D.str (rp (.str p.1)))) := .lst (fun e he => by
    obtain ⟨p, hp, rfl⟩ := List.mem_map.mp he
    exact (nam_name (h p hp)).so.ok _) (by rw [List.length_map]; omega)
  rw [inL_ok (by omega) (by omega) (hd.so.ok 0) hb, List.any_map]
  congr 1
  rw [Bool.eq_iff_iff, List.any_eq_true, List.any_eq_true]
  constructor
  · rintro ⟨p, hp, q⟩
    exact ⟨p, hp, by rw [← hd.ne _ (h p hp)]; exact q⟩
  · rintro ⟨p, hp, q⟩
    exact ⟨p, hp, by rw [← hd.ne _ (h p hp)] at q; exact q⟩
theorem any_lotFor {s : Sch} (h : ∀ p ∈ s, nameS p.1 = true) (d : D) : (s.any fun p => sameS p.1 d) = (lotFor s d).isSome := by
  cases d with
  | str c =>
    unfold lotFor lookS sameS
    by_cases hc : nameS c = true
    · simp only [hc, if_true, Option.isSome_map, List.find?_isSome]
      rw [Bool.eq_iff_iff]
      simp
    · simp only [hc, if_false]
      rw [Bool.eq_iff_iff, List.any_eq_true]
      constructor
      · rintro ⟨p, hp, e⟩
        have : p.1 = c := by simpa using e
        rw [← this, h p hp] at hc
        exact absurd rfl hc
      · intro e
        cases e
  | _ => simp [sameS, lotFor]
theorem s_made_due (n : Nat) (s : Sch) (nx : Int) (os : List Ob) (d : D) (vs : List D) (hd : NamOk d) (hv : ∀ v ∈ vs, plain v = true) (hvl : vs.length ≤ 900) (H : HOk s os) (M : MH) :
    ∃ J, callN T sub (n + 3) 22 [houseD s nx os, d, .tup vs] none M = .ok (outD (madeE s nx os d vs)) (M ++ J) := by
  rw [r__law_made_due]
  have hs : ∀ p ∈ s, nameS p.1 = true := fun p hp => (H.cls p hp).2.1
  simp_arith [b__law_made_due, houseD, schD, rp_ok hd.ok (by omega) hd.ib (by have := hd.w; omega), q__law_made_due_0]
  rw [comp_okA clsD s Mw.SrcIs.vals (fun p => .str (rp (.str p.1))) (fun p => [some (.tup [.tup (s.map clsD), .int nx, .tup (os.map Ob.d)]), some d, some (.tup vs), some (lotD p.2), none, none, some (.str p.1)]) (fun p hp => ⟨rfl, by simp_arith [rp_nm (hs p hp)]⟩)]
  simp_arith [notIn_of (in_names hd H.sl hs M), any_lotFor hs]
  cases hl : lotFor s d with
  | none =>
    refine ⟨[], ?_⟩
    simp_arith [Option.isSome_none, madeE, hl, List.append_nil]
    rw [outD]
    simp_arith [badStep, lk1, lk2, Option.getD_some]
    rfl
  | some l =>
    refine ⟨[dictM lotD s], ?_⟩
    have hc : ∃ c, d = .str c ∧ lookS s c = some l := by
      cases d with
      | str c =>
        refine ⟨c, rfl, ?_⟩
        have hl' : (if nameS c = true then lookS s c else none) = some l := hl
        by_cases hn : nameS c = true
        · rw [if_pos hn] at hl'
          exact hl'
        · rw [if_neg hn] at hl'
          cases hl'
      | _ => cases hl
    obtain ⟨c, rfl, hlc⟩ := hc
    have cl := (H.cls _ (lookS_mem hlc)).2.2
    have cl1 : l.length ≤ 20 := cl.1
    have ds := dict_sch (M := M) H.nd
    unfold schD at ds
    have hmin : (if (vs.length : Int) < l.length then (vs.length : Int) else l.length) = ((min l.length vs.length : Nat) : Int) := by split <;> omega
    simp_arith [Option.isSome_some, ds, idx_dict (f := lotD) (s := s) (c := c) (M := M ++ [dictM lotD s]) get_end, hlc, Option.map_some, lotD, List.length_map, q__law_made_due_1, biMin, hmin, rng1D_ok ((min l.length vs.length : Nat) : Int) (M ++ [dictM lotD s]) (by omega), Int.toNat_natCast]
    rw [comp_ok (fun k : Nat => D.int (k : Int)) (List.range (min l.length vs.length)) Mw.SrcIs.vals (fun k => !valOk os (l.getD k d0).2 (vs.getD k .non)) (fun k => .int (k : Int)) (fun k => [some (.tup [.tup (s.map clsD), .int nx, .tup (os.map Ob.d)]), some (.str c), some (.tup vs), some (.tup (l.map fldD)), none, some (.int (k : Int)), none]) (fun k hk => by
      have hk := List.mem_range.mp hk
      have a1 : atI (l.map fldD) (k : Int) = some (fldD (l.getD k d0)) := by
        refine Mw.atI_nat ?_
        rw [List.getElem?_map, List.getD_eq_getElem?_getD, List.getElem?_eq_getElem (by omega)]
        rfl
      have a2 : atI vs (k : Int) = some (vs.getD k .non) := by
        refine Mw.atI_nat ?_
        rw [List.getD_eq_getElem?_getD, List.getElem?_eq_getElem (by omega)]
        rfl
      have m1 : vs.getD k .non ∈ vs := by
        rw [List.getD_eq_getElem?_getD, List.getElem?_eq_getElem (by omega)]
        exact List.getElem_mem _
      have m2 : l.getD k d0 ∈ l := by
        rw [List.getD_eq_getElem?_getD, List.getElem?_eq_getElem (by omega)]
        exact List.getElem_mem _
      have h1 := s_law_suits n s nx os (l.getD k d0).2 (vs.getD k .non) (hv _ m1) H.ol (fun o ho => (H.obs o ho).1) (fun x e => (cl.2.2 _ m2).2.2 x e) (M ++ [dictM lotD s])
      unfold houseD schD at h1
      refine ⟨rfl, ?_, fun _ => ?_⟩
      · simp_arith [a1, a2, fldD, h1]
      · simp_arith [])]
    have hw : Ok 1 (.lst (((List.range (min l.length vs.length)).filter fun k => !valOk os (l.getD k d0).2 (vs.getD k .non)).map fun (k : Nat) => D.int (k : Int))) := .lst (fun e he => by
      obtain ⟨k, _, rfl⟩ := List.mem_map.mp he
      exact .int _) (by
        rw [List.length_map]
        refine Nat.le_trans (List.length_filter_le _ _) ?_
        rw [List.length_range]
        omega)
    simp_arith [ne_nilL (by omega) hw, List.isEmpty_map, List.length_map]
    unfold madeE
    rw [hl]
    by_cases hvl2 : vs.length = l.length
    · have hvl3 : ((l.length : Int) == vs.length) = true := by rw [hvl2]; simp
      have e1 : min l.length vs.length = l.length := by omega
      rw [e1]
      simp_arith [hvl3, goodVs_range os l vs hvl2, hvl2, true_and, beq_self_eq_true]
      cases hg : goodVs os l vs with
      | false =>
        simp_arith []
        rw [outD]
        simp_arith [badStep, lk1, lk2, Option.getD_some]
        rfl
      | true =>
        simp_arith [addT_ok (m := false) (xs := os.map Ob.d) (ys := [.tup [.int nx, .str c, .tup vs]]) (M := M ++ [dictM lotD s]) (by rw [List.length_map]; exact lt_size _ (by show os.length + 1 ≤ _; have := H.ol; omega))]
        rfl
    · have hvl3 : ((l.length : Int) == vs.length) = false := beq_eq_false_iff_ne.mpr (by omega)
      simp_arith [hvl3, hvl2, false_and]
      rw [outD]
      simp_arith [badStep, lk1, lk2, Option.getD_some]
      rfl
end Law
/-! P8: what is due behind written, dropped. -/
namespace Law
open PySem PySem.Spec PyProof.Rows L2 Mj Mq
local macro_rules
  | `(tactic| simp_arith [$ls,*] $[at $l]?) => `(tactic| simp only [Mq.vr_ok, Mq.up_ok, Mq.tr_ok, Mq.td_ok, Mq.td_exc, Mq.td_bad, Mq.tru1_ok, Mq.tru1_exc, Mq.tru1_bad, Mq.tnot_ok, Mq.tnot_exc, Mq.tnot_bad, Mq.ev_var, Mq.ev_const, Mq.ev_glob, Mq.kBin2_ok, Mq.kBin2_exc, Mq.kBin2_bad, Mq.kBin1_ok, Mq.kBin1_exc, Mq.kBin1_bad, Mq.ev_bin, Mq.negD_int, Mq.kNeg_ok, Mq.kNeg_exc, Mq.kNeg_bad, Mq.ev_neg, Mq.kNotE_ok, Mq.kNotE_exc, Mq.ev_not, Mq.ev_and, Mq.ev_or, Mq.brA_ok, Mq.brO_ok, Mq.kAnd_ok, Mq.kAnd_exc, Mq.evAnd_1, Mq.evAnd_2, Mq.kAndT_ok, Mq.kAndT_exc, Mq.evAndT_1, Mq.evAndT_2, Mq.kOr_ok, Mq.kOr_exc, Mq.evOr_1, Mq.evOr_2, Mq.kOrT_ok, Mq.kOrT_exc, Mq.evOrT_1, Mq.evOrT_2, Mq.kCmp2_ok, Mq.kCmp2_exc, Mq.kCmp2_bad, Mq.kCmp1_ok, Mq.kCmp1_exc, Mq.kCmp1_bad, Mq.ev_cmp, Mq.evT_cmp, Mq.kCh4_ok, Mq.kCh4_exc, Mq.kCh4_bad, Mq.kCh3_ok, Mq.kCh2_ok, Mq.kCh2_exc, Mq.kCh2_bad, Mq.kCh1_ok, Mq.kCh1_exc, Mq.kCh1_bad, Mq.ev_chain, Mq.evT_chain, Mq.kIfe_ok, Mq.kIfe_exc, Mq.ev_ife, Mq.kTup_ok, Mq.kTup_exc, Mq.ev_tup, Mq.kLst_ok, Mq.kLst_exc, Mq.ev_lst, Mq.kDict_ok, Mq.ev_dict, Mq.kIdx2_ok, Mq.kIdx2_exc, Mq.kIdx2_bad, Mq.kIdx1_ok, Mq.kIdx1_exc, Mq.kIdx1_bad, Mq.ev_idx, Mq.kSl3_ok, Mq.kSl2_ok, Mq.kSl1_ok, Mq.kSl1_exc, Mq.kSl1_bad, Mq.ev_slice, Mq.revD_tup, Mq.kRev_ok, Mq.kRev_exc, Mq.kRev_bad, Mq.ev_revT, Mq.kCall_ok, Mq.kCall_exc, Mq.ev_call, Mq.kCallV_ok, Mq.ev_callV, Mq.kCallW_ok, Mq.ev_callW, Mq.kBi_ok, Mq.kBi_exc, Mq.ev_bi, Mq.kMeth2_ok, Mq.kMeth2_exc, Mq.kMeth1_ok, Mq.kMeth1_exc, Mq.kMeth1_bad, Mq.ev_meth, Mq.kComp_ok, Mq.ev_comp, Mq.kLam_ok, Mq.ev_lamcall, Mq.lzD_ok, Mq.kLz2_ok, Mq.kLz2_exc, Mq.kLz2_bad, Mq.kLz1_ok, Mq.kLz1_exc, Mq.kLz1_bad, Mq.ev_listZip, Mq.ev_ask, Mq.isX_ok, Mq.ev_isE, Mq.evT_isE, Mq.fldX_ok, Mq.ev_fldE, Mq.evT_not, Mq.evT_and, Mq.evT_or, Mq.evT_var, Mq.evT_call, Mq.evT_callV, Mq.evT_bi, Mq.evT_idx, Mq.kEs2_ok, Mq.kEs2_exc, Mq.kEs1_ok, Mq.kEs1_exc, Mq.evs_nil, Mq.evs_cons, Mq.intO_ok, Mq.kO_ok, Mq.evo_none, Mq.evo_some, Mq.evIf_none, Mq.evIf_some, Mq.srcX_ok, Mq.kSeq_ok, Mq.evI_seq, Mq.kRng1_ok, Mq.evI_rng1, Mq.kRng22_ok, Mq.kRng21_ok, Mq.evI_rng2, Mq.zipD_tup, Mq.zipD_lst, Mq.kZip2_ok, Mq.kZip1_ok, Mq.evI_zip, Mq.enumD_lst, Mq.kEnum_ok, Mq.evI_enum, Mq.kSet_ok, Mq.kSet_exc, Mq.exS_set, Mq.kPar2_ok, Mq.kPar2_exc, Mq.kPar1_ok, Mq.kPar1_exc, Mq.exS_par, Mq.bdR_ok, Mq.kUnp_ok, Mq.kUnp_exc, Mq.exS_unp, Mq.kIx2_ok, Mq.kIx2_exc, Mq.kIx1_ok, Mq.kIx1_exc, Mq.exS_setIx, Mq.kExp_ok, Mq.kExp_exc, Mq.exS_expr, Mq.kRet_ok, Mq.kRet_exc, Mq.exS_ret, Mq.kIfs_ok, Mq.kIfs_exc, Mq.exS_ifs, Mq.kFor_ok, Mq.kFor_exc, Mq.exS_for, Mq.kRaise_ok, Mq.kRaise_exc, Mq.exS_raise, Mq.kTryE_nx, Mq.kTryE_rt, Mq.kTry_nx, Mq.kTry_rt, Mq.kTry_xc, Mq.exS_tryAs, Mq.kSt_nx, Mq.kSt_rt, Mq.kSt_xc, Mq.exSs_nil, Mq.exSs_cons, Mq.fin_nx, Mq.fin_rt, Mq.fin_xc, Mq.fin_ite, Mq.kSt_ite, Mq.kRet_ite, Mq.kSet_ite, Mq.ite_and, Mq.ite_or, Mq.ite_andD, Mq.ite_orD, Mq.bare_mk, Mq.sz_0, Mq.sz_1, Mq.sz_2, Mq.sz_3, Mq.sz_4, Mq.sz_5, Mq.sz_6, Mq.sz_7, Mq.sz_8, Mq.sz_9, Mq.sz_10, Mq.sz_11, Mq.sz_12, Mw.tru_non, Mw.tru_bl, Mw.tru_int, Mw.tru_tup, Mw.tru_lst, Mw.getL_lst, Mw.resO_some, Mw.resO_none, Mw.newL_false, Mw.newL_true, Mw.cmp_eq_int, Mw.cmp_ne_int, Mw.cmp_lt_int, Mw.cmp_le_int, Mw.cmp_gt_int, Mw.cmp_ge_int, Mw.cmp_eq_str, Mw.cmp_ne_str, Mw.bq_len, Mw.bq_isi, Mw.bq_int, Mw.bq_str, Mw.bq_ord, Mw.bq_all, Mw.bq_list, Mw.bq_tuple, Mw.bq_dict, Mw.bq_sorted, Mw.bq_repr, Mw.bq_min, Mw.bq_max, Mw.len_tup, Mw.len_lst, Mw.int_int, Mw.tuple_lst, Mw.list_tup_f, Mw.list_lst_f, Mw.idx_tup, Mw.idx_lst, Mw.src_tup, Mw.src_lst, Mw.add_int, Mw.sub_int, Mw.atI_0, Mw.atI_1, Mw.atI_2, Mw.atI_3, Mw.atI_4, Mq.ii_int, Mq.ii_bl, Mq.ii_str, Mq.ii_non, Mq.ii_tup, Mq.ii_lst, Mq.ib_int, Mq.ib_bl, Mq.ib_str, Mq.ib_non, Mq.ib_tup, Mq.ib_lst, Mq.is_int, Mq.is_bl, Mq.is_str, Mq.is_non, Mq.is_tup, Mq.is_lst, Mq.it_int, Mq.it_bl, Mq.it_str, Mq.it_non, Mq.it_tup, Mq.it_lst, Mq.il_int, Mq.il_bl, Mq.il_str, Mq.il_non, Mq.il_tup, Mq.il_lst, Mq.cis_int, Mq.cis_bl, Mq.cis_str, Mq.cis_non, Mq.cis_tup, Mq.cis_lst, Mq.cnis_int, Mq.cnis_bl, Mq.cnis_str, Mq.cnis_non, Mq.cnis_tup, Mq.cnis_lst, Mj.bindT, Mj.bindTs, Mj.wipeR, Mj.Tg.own, Mj.Tgs.own, List.getElem?_cons_zero, List.getElem?_cons_succ, List.set_cons_zero, List.set_cons_succ, if_true, Bool.false_eq_true, if_false, ite_false, ite_true, List.length_cons, List.length_nil, List.cons_append, List.nil_append, Bool.not_true, Bool.not_false, Bool.and_true, Bool.true_and, Bool.false_and, Bool.and_false, Bool.or_true, Bool.true_or, Bool.or_false, Bool.false_or, Bool.not_not, Nat.zero_add, and_self, Mj.pickAll, List.isEmpty_cons, List.isEmpty_nil, Nat.reduceAdd, Nat.reduceLeDiff, Nat.reduceEqDiff, eq_self, Int.reduceLT, Int.reduceLE, Int.reduceAdd, Int.reduceSub, Int.reduceToNat, decide_true, decide_false, Int.reduceNeg, Nat.reduceSub, $ls,*] $[at $l]?)
theorem filter_of_find {os : List Ob} {o : Ob} {i : Int} (h : os.find? (fun p => p.n == i) = some o) : ∃ r, os.filter (fun p => p.n == i) = o :: r := by
  induction os with
  | nil => cases h
  | cons p os ih =>
    rw [List.find?_cons] at h
    rw [List.filter_cons]
    cases hp : p.n == i with
    | true =>
      rw [hp] at h
      cases h
      exact ⟨os.filter (fun p => p.n == i), by simp⟩
    | false =>
      rw [hp] at h
      obtain ⟨r, e⟩ := ih h
      exact ⟨r, by simpa using e⟩
theorem one_of {os : List Ob} (nd : (os.map (·.n)).Nodup) : ∀ {p o : Ob}, p ∈ os → o ∈ os → p.n = o.n → p = o := by
  induction os with
  | nil => intro p o hp; cases hp
  | cons q os ih =>
    intro p o hp ho e
    rw [List.map_cons, List.nodup_cons] at nd
    rcases List.mem_cons.mp hp with rfl | hp'
    · rcases List.mem_cons.mp ho with rfl | ho'
      · rfl
      · exact absurd (List.mem_map.mpr ⟨o, ho', e.symm⟩) nd.1
    · rcases List.mem_cons.mp ho with rfl | ho'
      · exact absurd (List.mem_map.mpr ⟨p, hp', e⟩) nd.1
      · exact ih nd.2 hp' ho' e
theorem any_fidx {l : Lot} (h : ∀ p ∈ l, nameS p.1 = true) (d : D) : (l.any fun p => sameS p.1 d) = (fidx l d).isSome := by
  cases d with
  | str c =>
    unfold fidx sameS
    by_cases hc : nameS c = true
    · simp only [hc, if_true, any_findIdx]
    · simp only [hc, if_false]
      rw [Bool.eq_iff_iff, List.any_eq_true]
      constructor
      · rintro ⟨p, hp, e⟩
        have : p.1 = c := by simpa using e
        rw [← this, h p hp] at hc
        exact absurd rfl hc
      · intro e
        cases e
  | _ => simp [sameS, fidx]
theorem s_written_due (n : Nat) (s : Sch) (nx : Int) (os : List Ob) (d f v : D) (hd : NumOk d) (hf : NamOk f) (hv : plain v = true) (H : LOk s os) (M : MH) :
    ∃ J, callN T sub (n + 3) 24 [houseD s nx os, d, f, v] none M = .ok (outD (writtenE s nx os d f v)) (M ++ J) := by
  rw [r__law_written_due]
  have hm := s_law_is_member (n + 1) s nx os d hd H.ol H.num M
  unfold houseD at hm
  simp_arith [b__law_written_due, houseD, hm]
  cases hfo : findOb os d with
  | none =>
    refine ⟨[], ?_⟩
    simp_arith [Option.isSome_none, writtenE, hfo, List.append_nil]
    rw [outD]
    simp_arith [noOb, lk3, Option.getD_some]
  | some o =>
    obtain ⟨ho, rfl⟩ := findOb_mem hfo
    obtain ⟨hc, ⟨l, hl, hvl⟩, hvs⟩ := H.obs o ho
    have cl := (H.cls _ (lookS_mem hl)).2.2
    have cl1 : l.length ≤ 20 := cl.1
    have hnm : ∀ p ∈ l, nameS p.1 = true := fun p hp => (cl.2.2 p hp).2.1
    obtain ⟨r, hr⟩ := filter_of_find (i := o.n) hfo
    simp_arith [Option.isSome_some, q__law_written_due_0]
    rw [comp_ok Ob.d os Mw.SrcIs.vals (fun p => p.n == o.n) (fun p => .str p.c) (fun p => [some (.tup [schD s, .int nx, .tup (os.map Ob.d)]), some (.int o.n), some f, some v, none, none, none, none, some (.int p.n), some (.str p.c), some (.tup p.vs), none, none, none]) (fun p _ => ⟨rfl, by simp_arith [], fun _ => by simp_arith []⟩), hr]
    simp_arith [List.map_cons, dict_sch H.nd, idx_dict (f := lotD) (s := s) (c := o.c) (M := M ++ [dictM lotD s]) get_end, hl, Option.map_some, lotD, q__law_written_due_1]
    rw [comp_okA fldD l Mw.SrcIs.vals (fun p => .str p.1) (fun p => [some (.tup [schD s, .int nx, .tup (os.map Ob.d)]), some (.int o.n), some f, some v, some (.str o.c), none, none, none, none, none, none, none, some (.str p.1), some p.2.d]) (fun p _ => ⟨rfl, by simp_arith []⟩)]
    simp_arith [rp_ok hf.ok (by omega) hf.ib (by have := hf.w; omega), q__law_written_due_2]
    rw [comp_okA (fun p : Str × Kd => D.str p.1) l Mw.SrcIs.vals (fun p => .str (rp (.str p.1))) (fun p => [some (.tup [schD s, .int nx, .tup (os.map Ob.d)]), some (.int o.n), some f, some v, some (.str o.c), some (.lst (l.map fun p => .str p.1)), none, none, none, none, none, none, some (.str p.1), none]) (fun p hp => ⟨rfl, by simp_arith [rp_nm (hnm p hp)]⟩)]
    simp_arith [notIn_of (in_names hf cl1 hnm (M ++ [dictM lotD s])), any_fidx hnm]
    cases hx : fidx l f with
    | none =>
      refine ⟨[dictM lotD s], ?_⟩
      simp_arith [Option.isSome_none, writtenE, hfo, hl, hx]
      rw [outD]
      simp_arith [badStep, lk1, lk2, Option.getD_some]
      rfl
    | some a =>
      have hfs : ∃ x, f = .str x ∧ l.findIdx? (fun p => p.1 == x) = some a := by
        cases f with
        | str x =>
          refine ⟨x, rfl, ?_⟩
          have hx' : (if nameS x = true then l.findIdx? (fun p => p.1 == x) else none) = some a := hx
          by_cases hn : nameS x = true
          · rw [if_pos hn] at hx'
            exact hx'
          · rw [if_neg hn] at hx'
            cases hx'
        | _ => cases hx
      obtain ⟨x, rfl, hfi⟩ := hfs
      have hfk : nmOk x := by cases hf.ok with | str h1 h2 => exact ⟨h1, h2⟩
      have hal : a < l.length := (List.findIdx?_eq_some_iff_getElem.mp hfi).1
      have hat : atI (l.map fldD) (a : Int) = some (fldD (l.getD a ("", .rng 0 0))) := by
        refine Mw.atI_nat ?_
        rw [List.getElem?_map, List.getD_eq_getElem?_getD, List.getElem?_eq_getElem hal]
        rfl
      have hk := s_law_suits n s nx os (l.getD a ("", .rng 0 0)).2 v hv H.ol (fun o ho => (H.obs o ho).1) (fun k e => (cl.2.2 (l.getD a ("", .rng 0 0)) (by
        rw [List.getD_eq_getElem?_getD, List.getElem?_eq_getElem hal]
        exact List.getElem_mem hal)).2.2 k e) (M ++ [dictM lotD s] ++ [MO.lst []] ++ [dictM lotD s])
      unfold houseD at hk
      simp_arith [Option.isSome_some, idx_strs (M ++ [dictM lotD s]) cl.1 (fun p hp => (cl.2.2 p hp).1) hfk hfi, mk_lst "index" (l.map fun p => D.str p.1) (M ++ [dictM lotD s]) (by decide) (by decide), dict_sch H.nd, idx_dict (f := lotD) (s := s) (c := o.c) (M := (M ++ [dictM lotD s] ++ [MO.lst []] ++ [dictM lotD s])) (n := (M ++ [dictM lotD s] ++ [MO.lst []]).length) get_end, hl, Option.map_some, lotD, hat, fldD, hk]
      cases hvo : valOk os (l.getD a ("", .rng 0 0)).2 v with
      | false =>
        refine ⟨[dictM lotD s] ++ [.lst []] ++ [dictM lotD s], ?_⟩
        simp_arith [writtenE, hfo, hl, hx, hvo]
        rw [outD]
        simp_arith [badStep, lk1, lk2, Option.getD_some]
        simp only [List.append_assoc, List.cons_append, List.nil_append]
        rfl
      | true =>
        have h20 : ∀ p ∈ os, p.vs.length ≤ 20 := fun p hp => by
          obtain ⟨_, ⟨l2, e1, e2⟩, _⟩ := H.obs p hp
          have := (H.cls _ (lookS_mem e1)).2.2.1
          rw [e2]
          exact this
        let nv : Ob → D := fun p => .tup (p.vs.take a ++ [v] ++ p.vs.drop (a + 1))
        let g : Ob → D := fun p => .tup [.int p.n, .str p.c, if p.n = o.n then nv p else .tup p.vs]
        let ρ0 : D → Option D → Option D → Option D → Option D → Rho := fun z x8 x9 x10 x11 => [some (.tup [schD s, .int nx, .tup (os.map Ob.d)]), some (.int o.n), some (.str x), some v, some (.str o.c), some (.lst (l.map fun p => .str p.1)), some (.int a), some (.ref (M ++ [dictM lotD s]).length), x8, x9, x10, x11, none, none]
        obtain ⟨fl, M', e, q⟩ := for_suf (src := .vals (os.map Ob.d)) (M := (M ++ [dictM lotD s] ++ [MO.lst []] ++ [dictM lotD s])) (E := ⟨callN T sub (n + 2), noAsk, none, sub⟩) (ρ := ρ0 .non none none none none) (tg := .tup (.cons (.name 8) (.cons (.name 9) (.cons (.name 10) .nil)))) (body := l__law_written_due_0) Ob.d os
          (fun r ρ M' => ∃ acc x8 x9 x10 x11, M' = (M ++ [dictM lotD s]) ++ .lst acc :: [dictM lotD s] ∧ acc ++ r.map g = os.map g ∧ acc.length + r.length ≤ 100 ∧ ρ = ρ0 .non x8 x9 x10 x11)
          (fun f M' => M' = (M ++ [dictM lotD s]) ++ .lst (os.map g) :: [dictM lotD s] ∧ ∃ x8 x9 x10 x11, f = .nx (ρ0 .non x8 x9 x10 x11))
          (fun r ρ M' h => Mw.SrcIs.vals) ⟨[], none, none, none, none, by simp, rfl, by have := H.ol; simpa using this, rfl⟩ (by
            rintro ρ M' ⟨acc, x8, x9, x10, x11, rfl, h, _, rfl⟩
            refine ⟨?_, x8, x9, x10, x11, rfl⟩
            rw [← h]
            simp) (by
            rintro p r ρ M' hp ⟨acc, x8, x9, x10, x11, rfl, h, hle, rfl⟩
            refine ⟨_, rfl, ?_⟩
            rw [List.length_cons] at hle
            have hp20 := h20 p hp
            refine ⟨.nx (ρ0 .non (some (.int p.n)) (some (.str p.c)) (some (.tup p.vs)) (some (nv p))), (M ++ [dictM lotD s]) ++ .lst (acc ++ [g p]) :: [dictM lotD s], ?_, acc ++ [g p], _, _, _, _, rfl, by rw [← h]; simp, by rw [List.length_append]; show _ + 1 + _ ≤ _; omega, rfl⟩
            have hsl : ∀ M, sliceD false (.tup p.vs) none (some (a : Int)) M = .ok (.tup (p.vs.take a)) M := fun M => by
              show Res.ok (D.tup (Mj.cutD _ none _)) _ = _
              rw [cut_to]
            have hsr : ∀ M, sliceD false (.tup p.vs) (some ((a : Int) + 1)) none M = .ok (.tup (p.vs.drop (a + 1))) M := fun M => by
              show Res.ok (D.tup (Mj.cutD _ (some ((a + 1 : Nat) : Int)) none)) _ = _
              rw [cut_from]
            have a1 : ∀ M, binD false .Add (.tup (p.vs.take a)) (.tup [v]) M = .ok (.tup (p.vs.take a ++ [v])) M := fun M => addT_ok (lt_size _ (by rw [List.length_take]; show _ + 1 ≤ _; omega))
            have a2 : ∀ M, binD false .Add (.tup (p.vs.take a ++ [v])) (.tup (p.vs.drop (a + 1))) M = .ok (nv p) M := fun M => addT_ok (lt_size _ (by rw [List.length_append, List.length_take, List.length_drop]; show _ + 1 + _ ≤ _; omega))
            have k1 := kind_lst (f := "append") (n := (M ++ [dictM lotD s]).length) (xs := acc) (M := (M ++ [dictM lotD s]) ++ .lst acc :: [dictM lotD s]) get_mid (by decide) (by decide)
            have ap := append_ok (n := (M ++ [dictM lotD s]).length) (xs := acc) (M := (M ++ [dictM lotD s]) ++ .lst acc :: [dictM lotD s]) (y := g p) get_mid (by have := lt_size 1000 (by decide); omega)
            rw [set_mid] at ap
            have eg : g p = .tup [.int p.n, .str p.c, if p.n = o.n then nv p else .tup p.vs] := rfl
            by_cases hpn : p.n = o.n
            · rw [if_pos hpn] at eg
              rw [eg] at ap ⊢
              simp_arith [l__law_written_due_0, ρ0, Ob.d, hsl, hsr, a1, a2, k1, hpn, beq_self_eq_true, ap]
              rw [hpn] at ap
              simp_arith [ap]
            · rw [if_neg hpn] at eg
              rw [eg] at ap ⊢
              simp_arith [l__law_written_due_0, ρ0, Ob.d, hsl, hsr, a1, a2, k1, beq_eq_false_iff_ne.mpr hpn, ap])
        obtain ⟨rfl, x8, x9, x10, x11, rfl⟩ := q
        refine ⟨[dictM lotD s] ++ .lst (os.map g) :: [dictM lotD s], ?_⟩
        have e' := e
        simp only [ρ0] at e'
        have tr := tuple_ref (n := (M ++ [dictM lotD s]).length) (xs := os.map g) (M := (M ++ [dictM lotD s]) ++ .lst (os.map g) :: [dictM lotD s]) get_mid
        have eo : os.map g = os.map fun p => if p.n = o.n then .tup [.int o.n, .str o.c, .tup (o.vs.take a ++ [v] ++ o.vs.drop (a + 1))] else p.d := by
          refine List.map_congr_left fun p hp => ?_
          by_cases hpn : p.n = o.n
          · have := one_of H.on hp ho hpn
            subst this
            simp only [g, nv, if_true]
          · simp only [g, if_neg hpn, Ob.d]
        simp_arith [e', ρ0, tr, writtenE, hfo, hl, hx, hvo]
        rw [outD, eo]
        simp only [List.append_assoc, List.cons_append, List.nil_append]
end Law
/-! P9: what is due behind dropped. -/
namespace Law
open PySem PySem.Spec PyProof.Rows L2 Mj Mq
local macro_rules
  | `(tactic| simp_arith [$ls,*] $[at $l]?) => `(tactic| simp only [Mq.vr_ok, Mq.up_ok, Mq.tr_ok, Mq.td_ok, Mq.td_exc, Mq.td_bad, Mq.tru1_ok, Mq.tru1_exc, Mq.tru1_bad, Mq.tnot_ok, Mq.tnot_exc, Mq.tnot_bad, Mq.ev_var, Mq.ev_const, Mq.ev_glob, Mq.kBin2_ok, Mq.kBin2_exc, Mq.kBin2_bad, Mq.kBin1_ok, Mq.kBin1_exc, Mq.kBin1_bad, Mq.ev_bin, Mq.negD_int, Mq.kNeg_ok, Mq.kNeg_exc, Mq.kNeg_bad, Mq.ev_neg, Mq.kNotE_ok, Mq.kNotE_exc, Mq.ev_not, Mq.ev_and, Mq.ev_or, Mq.brA_ok, Mq.brO_ok, Mq.kAnd_ok, Mq.kAnd_exc, Mq.evAnd_1, Mq.evAnd_2, Mq.kAndT_ok, Mq.kAndT_exc, Mq.evAndT_1, Mq.evAndT_2, Mq.kOr_ok, Mq.kOr_exc, Mq.evOr_1, Mq.evOr_2, Mq.kOrT_ok, Mq.kOrT_exc, Mq.evOrT_1, Mq.evOrT_2, Mq.kCmp2_ok, Mq.kCmp2_exc, Mq.kCmp2_bad, Mq.kCmp1_ok, Mq.kCmp1_exc, Mq.kCmp1_bad, Mq.ev_cmp, Mq.evT_cmp, Mq.kCh4_ok, Mq.kCh4_exc, Mq.kCh4_bad, Mq.kCh3_ok, Mq.kCh2_ok, Mq.kCh2_exc, Mq.kCh2_bad, Mq.kCh1_ok, Mq.kCh1_exc, Mq.kCh1_bad, Mq.ev_chain, Mq.evT_chain, Mq.kIfe_ok, Mq.kIfe_exc, Mq.ev_ife, Mq.kTup_ok, Mq.kTup_exc, Mq.ev_tup, Mq.kLst_ok, Mq.kLst_exc, Mq.ev_lst, Mq.kDict_ok, Mq.ev_dict, Mq.kIdx2_ok, Mq.kIdx2_exc, Mq.kIdx2_bad, Mq.kIdx1_ok, Mq.kIdx1_exc, Mq.kIdx1_bad, Mq.ev_idx, Mq.kSl3_ok, Mq.kSl2_ok, Mq.kSl1_ok, Mq.kSl1_exc, Mq.kSl1_bad, Mq.ev_slice, Mq.revD_tup, Mq.kRev_ok, Mq.kRev_exc, Mq.kRev_bad, Mq.ev_revT, Mq.kCall_ok, Mq.kCall_exc, Mq.ev_call, Mq.kCallV_ok, Mq.ev_callV, Mq.kCallW_ok, Mq.ev_callW, Mq.kBi_ok, Mq.kBi_exc, Mq.ev_bi, Mq.kMeth2_ok, Mq.kMeth2_exc, Mq.kMeth1_ok, Mq.kMeth1_exc, Mq.kMeth1_bad, Mq.ev_meth, Mq.kComp_ok, Mq.ev_comp, Mq.kLam_ok, Mq.ev_lamcall, Mq.lzD_ok, Mq.kLz2_ok, Mq.kLz2_exc, Mq.kLz2_bad, Mq.kLz1_ok, Mq.kLz1_exc, Mq.kLz1_bad, Mq.ev_listZip, Mq.ev_ask, Mq.isX_ok, Mq.ev_isE, Mq.evT_isE, Mq.fldX_ok, Mq.ev_fldE, Mq.evT_not, Mq.evT_and, Mq.evT_or, Mq.evT_var, Mq.evT_call, Mq.evT_callV, Mq.evT_bi, Mq.evT_idx, Mq.kEs2_ok, Mq.kEs2_exc, Mq.kEs1_ok, Mq.kEs1_exc, Mq.evs_nil, Mq.evs_cons, Mq.intO_ok, Mq.kO_ok, Mq.evo_none, Mq.evo_some, Mq.evIf_none, Mq.evIf_some, Mq.srcX_ok, Mq.kSeq_ok, Mq.evI_seq, Mq.kRng1_ok, Mq.evI_rng1, Mq.kRng22_ok, Mq.kRng21_ok, Mq.evI_rng2, Mq.zipD_tup, Mq.zipD_lst, Mq.kZip2_ok, Mq.kZip1_ok, Mq.evI_zip, Mq.enumD_lst, Mq.kEnum_ok, Mq.evI_enum, Mq.kSet_ok, Mq.kSet_exc, Mq.exS_set, Mq.kPar2_ok, Mq.kPar2_exc, Mq.kPar1_ok, Mq.kPar1_exc, Mq.exS_par, Mq.bdR_ok, Mq.kUnp_ok, Mq.kUnp_exc, Mq.exS_unp, Mq.kIx2_ok, Mq.kIx2_exc, Mq.kIx1_ok, Mq.kIx1_exc, Mq.exS_setIx, Mq.kExp_ok, Mq.kExp_exc, Mq.exS_expr, Mq.kRet_ok, Mq.kRet_exc, Mq.exS_ret, Mq.kIfs_ok, Mq.kIfs_exc, Mq.exS_ifs, Mq.kFor_ok, Mq.kFor_exc, Mq.exS_for, Mq.kRaise_ok, Mq.kRaise_exc, Mq.exS_raise, Mq.kTryE_nx, Mq.kTryE_rt, Mq.kTry_nx, Mq.kTry_rt, Mq.kTry_xc, Mq.exS_tryAs, Mq.kSt_nx, Mq.kSt_rt, Mq.kSt_xc, Mq.exSs_nil, Mq.exSs_cons, Mq.fin_nx, Mq.fin_rt, Mq.fin_xc, Mq.fin_ite, Mq.kSt_ite, Mq.kRet_ite, Mq.kSet_ite, Mq.ite_and, Mq.ite_or, Mq.ite_andD, Mq.ite_orD, Mq.bare_mk, Mq.sz_0, Mq.sz_1, Mq.sz_2, Mq.sz_3, Mq.sz_4, Mq.sz_5, Mq.sz_6, Mq.sz_7, Mq.sz_8, Mq.sz_9, Mq.sz_10, Mq.sz_11, Mq.sz_12, Mw.tru_non, Mw.tru_bl, Mw.tru_int, Mw.tru_tup, Mw.tru_lst, Mw.getL_lst, Mw.resO_some, Mw.resO_none, Mw.newL_false, Mw.newL_true, Mw.cmp_eq_int, Mw.cmp_ne_int, Mw.cmp_lt_int, Mw.cmp_le_int, Mw.cmp_gt_int, Mw.cmp_ge_int, Mw.cmp_eq_str, Mw.cmp_ne_str, Mw.bq_len, Mw.bq_isi, Mw.bq_int, Mw.bq_str, Mw.bq_ord, Mw.bq_all, Mw.bq_list, Mw.bq_tuple, Mw.bq_dict, Mw.bq_sorted, Mw.bq_repr, Mw.bq_min, Mw.bq_max, Mw.len_tup, Mw.len_lst, Mw.int_int, Mw.tuple_lst, Mw.list_tup_f, Mw.list_lst_f, Mw.idx_tup, Mw.idx_lst, Mw.src_tup, Mw.src_lst, Mw.add_int, Mw.sub_int, Mw.atI_0, Mw.atI_1, Mw.atI_2, Mw.atI_3, Mw.atI_4, Mq.ii_int, Mq.ii_bl, Mq.ii_str, Mq.ii_non, Mq.ii_tup, Mq.ii_lst, Mq.ib_int, Mq.ib_bl, Mq.ib_str, Mq.ib_non, Mq.ib_tup, Mq.ib_lst, Mq.is_int, Mq.is_bl, Mq.is_str, Mq.is_non, Mq.is_tup, Mq.is_lst, Mq.it_int, Mq.it_bl, Mq.it_str, Mq.it_non, Mq.it_tup, Mq.it_lst, Mq.il_int, Mq.il_bl, Mq.il_str, Mq.il_non, Mq.il_tup, Mq.il_lst, Mq.cis_int, Mq.cis_bl, Mq.cis_str, Mq.cis_non, Mq.cis_tup, Mq.cis_lst, Mq.cnis_int, Mq.cnis_bl, Mq.cnis_str, Mq.cnis_non, Mq.cnis_tup, Mq.cnis_lst, Mj.bindT, Mj.bindTs, Mj.wipeR, Mj.Tg.own, Mj.Tgs.own, List.getElem?_cons_zero, List.getElem?_cons_succ, List.set_cons_zero, List.set_cons_succ, if_true, Bool.false_eq_true, if_false, ite_false, ite_true, List.length_cons, List.length_nil, List.cons_append, List.nil_append, Bool.not_true, Bool.not_false, Bool.and_true, Bool.true_and, Bool.false_and, Bool.and_false, Bool.or_true, Bool.true_or, Bool.or_false, Bool.false_or, Bool.not_not, Nat.zero_add, and_self, Mj.pickAll, List.isEmpty_cons, List.isEmpty_nil, Nat.reduceAdd, Nat.reduceLeDiff, Nat.reduceEqDiff, eq_self, Int.reduceLT, Int.reduceLE, Int.reduceAdd, Int.reduceSub, Int.reduceToNat, decide_true, decide_false, Int.reduceNeg, Nat.reduceSub, $ls,*] $[at $l]?)
theorem drop_inner (cl : Calls) (H0 d : D) (i : Int) (hd : d = .int i) (l : Lot) (vs : List D) (A J : MH) (x2 x3 x4 x5 x7 x8 x9 : Option D) (hv : ∀ v ∈ vs, vB v = true) (hl : l.length ≤ 20) :
    ∃ y7 y8 y9, kForS (.tup (.cons (.tup (.cons (.name 8) (.cons (.name 9) .nil))) (.cons (.name 7) .nil))) l__law_dropped_due_0 ⟨cl, noAsk, none, sub⟩ [some H0, some d, x2, x3, x4, x5, some (.ref A.length), x7, x8, x9] (.zipL (l.map fldD) vs) (A ++ .lst [] :: J) =
      .ok (.nx [some H0, some d, x2, x3, x4, x5, some (.ref A.length), y7, y8, y9]) (A ++ .lst ((l.zip vs).map (cutLink i)) :: J) := by
  subst hd
  have hz : (l.zip vs).length ≤ 20 := by rw [List.length_zip]; omega
  obtain ⟨f, M', e, q⟩ := for_suf (src := .zipL (l.map fldD) vs) (M := A ++ .lst [] :: J) (E := ⟨cl, noAsk, none, sub⟩) (ρ := [some H0, some (.int i), x2, x3, x4, x5, some (.ref A.length), x7, x8, x9]) (tg := .tup (.cons (.tup (.cons (.name 8) (.cons (.name 9) .nil))) (.cons (.name 7) .nil))) (body := l__law_dropped_due_0) fv (l.zip vs)
    (fun r ρ M' => ∃ acc y7 y8 y9, M' = A ++ .lst acc :: J ∧ acc ++ r.map (cutLink i) = (l.zip vs).map (cutLink i) ∧ acc.length + r.length ≤ 20 ∧ ρ = [some H0, some (.int i), x2, x3, x4, x5, some (.ref A.length), y7, y8, y9])
    (fun f M' => ∃ y7 y8 y9, f = .nx [some H0, some (.int i), x2, x3, x4, x5, some (.ref A.length), y7, y8, y9] ∧ M' = A ++ .lst ((l.zip vs).map (cutLink i)) :: J)
    (fun r ρ M' h => zip_fv) ⟨[], x7, x8, x9, rfl, rfl, by simpa using hz, rfl⟩ (by
      rintro ρ M' ⟨acc, y7, y8, y9, rfl, h, _, rfl⟩
      refine ⟨y7, y8, y9, rfl, ?_⟩
      rw [← h]
      simp) (by
      rintro p r ρ M' hp ⟨acc, y7, y8, y9, rfl, h, hle, rfl⟩
      refine ⟨_, rfl, ?_⟩
      rw [List.length_cons] at hle
      have h1 := List.of_mem_zip (a := p.1) (b := p.2) hp
      have k1 := kind_lst (f := "append") (n := A.length) (xs := acc) (M := A ++ .lst acc :: J) get_mid (by decide) (by decide)
      have ap := append_ok (n := A.length) (xs := acc) (M := A ++ .lst acc :: J) (y := cutLink i p) get_mid (by have := lt_size 1000 (by decide); omega)
      rw [set_mid] at ap
      have e1 := cmpEq_ok (M := A ++ .lst acc :: J) (n := 0) (m := 0) (by omega) (by omega) (vB_ok (hv _ h1.2) 0) (.int i)
      refine ⟨.nx [some H0, some (.int i), x2, x3, x4, x5, some (.ref A.length), some p.2, some (.str p.1.1), some p.1.2.d], A ++ .lst (acc ++ [cutLink i p]) :: J, ?_, acc ++ [cutLink i p], _, _, _, rfl, by rw [← h]; simp, by rw [List.length_append]; show _ + 1 + _ ≤ _; omega, rfl⟩
      unfold cutLink at ap ⊢
      cases hk : p.1.2 with
      | rng lo hi =>
        rw [hk] at ap
        simp_arith [l__law_dropped_due_0, Kd.d, hk, k1, ap]
      | cls c =>
        rw [hk] at ap
        cases hq : eqvD p.2 (.int i) with
        | true =>
          simp only [hq, if_true] at ap
          simp_arith [l__law_dropped_due_0, Kd.d, hk, k1, e1, hq, ap]
        | false =>
          simp only [hq, Bool.false_eq_true, if_false] at ap
          simp_arith [l__law_dropped_due_0, Kd.d, hk, k1, e1, hq, ap])
  obtain ⟨y7, y8, y9, rfl, rfl⟩ := q
  exact ⟨y7, y8, y9, e⟩
theorem s_dropped_due (n : Nat) (s : Sch) (nx : Int) (os : List Ob) (d : D) (hd : NumOk d) (H : LOk s os) (M : MH) :
    ∃ J, callN T sub (n + 3) 25 [houseD s nx os, d] none M = .ok (outD (droppedE s nx os d)) (M ++ J) := by
  rw [r__law_dropped_due]
  have hm := s_law_is_member (n + 1) s nx os d hd H.ol H.num M
  unfold houseD at hm
  simp_arith [b__law_dropped_due, houseD, hm]
  cases hfo : findOb os d with
  | none =>
    refine ⟨[], ?_⟩
    simp_arith [Option.isSome_none, droppedE, hfo, List.append_nil]
    rw [outD]
    simp_arith [noOb, lk3, Option.getD_some]
  | some o =>
    obtain ⟨ho, rfl⟩ := findOb_mem hfo
    simp_arith [Option.isSome_some]
    obtain ⟨f, M', e, q⟩ := for_suf (src := .vals (os.map Ob.d)) (M := M ++ [.lst []]) (E := ⟨callN T sub (n + 2), noAsk, none, sub⟩) (ρ := [some (.tup [schD s, .int nx, .tup (os.map Ob.d)]), some (.int o.n), some (.ref M.length), none, none, none, none, none, none, none]) (tg := .tup (.cons (.name 3) (.cons (.name 4) (.cons (.name 5) .nil)))) (body := l__law_dropped_due_1) Ob.d os
      (fun r ρ M' => ∃ acc J x3 x4 x5 x6 x7 x8 x9, M' = M ++ .lst acc :: J ∧ acc ++ (r.filter fun p => !(p.n == o.n)).map (dropD s o.n) = (os.filter fun p => !(p.n == o.n)).map (dropD s o.n) ∧ acc.length + r.length ≤ 100 ∧ ρ = [some (.tup [schD s, .int nx, .tup (os.map Ob.d)]), some (.int o.n), some (.ref M.length), x3, x4, x5, x6, x7, x8, x9])
      (fun f M' => ∃ J x3 x4 x5 x6 x7 x8 x9, M' = M ++ .lst ((os.filter fun p => !(p.n == o.n)).map (dropD s o.n)) :: J ∧ f = .nx [some (.tup [schD s, .int nx, .tup (os.map Ob.d)]), some (.int o.n), some (.ref M.length), x3, x4, x5, x6, x7, x8, x9])
      (fun r ρ M' h => Mw.SrcIs.vals) ⟨[], [], none, none, none, none, none, none, none, rfl, rfl, by have := H.ol; simpa using this, rfl⟩ (by
        rintro ρ M' ⟨acc, J, x3, x4, x5, x6, x7, x8, x9, rfl, h, _, rfl⟩
        refine ⟨J, x3, x4, x5, x6, x7, x8, x9, ?_, rfl⟩
        rw [← h]
        simp) (by
        rintro p r ρ M' hp ⟨acc, J, x3, x4, x5, x6, x7, x8, x9, rfl, h, hle, rfl⟩
        refine ⟨_, rfl, ?_⟩
        rw [List.length_cons] at hle
        obtain ⟨hc, ⟨l, hl, hvl⟩, hvs⟩ := H.obs p hp
        have cl1 : l.length ≤ 20 := (H.cls _ (lookS_mem hl)).2.2.1
        obtain ⟨y7, y8, y9, ei⟩ := drop_inner (callN T sub (n + 2)) (.tup [schD s, .int nx, .tup (os.map Ob.d)]) (.int o.n) o.n rfl l p.vs (M ++ .lst acc :: J) [dictM lotD s] (some (.ref M.length)) (some (.int p.n)) (some (.str p.c)) (some (.tup p.vs)) x7 x8 x9 hvs cl1
        have ed : dropD s o.n p = .tup [.int p.n, .str p.c, .tup ((l.zip p.vs).map (cutLink o.n))] := by
          unfold dropD
          rw [hl]
          rfl
        have h1 : M ++ MO.lst acc :: J ++ [MO.lst []] ++ [dictM lotD s] = M ++ MO.lst acc :: J ++ MO.lst [] :: [dictM lotD s] := by simp
        by_cases he : p.n = o.n
        · refine ⟨.nx [some (.tup [schD s, .int nx, .tup (os.map Ob.d)]), some (.int o.n), some (.ref M.length), some (.int p.n), some (.str p.c), some (.tup p.vs), some (.ref (M ++ .lst acc :: J).length), y7, y8, y9], (M ++ .lst acc :: J) ++ .lst ((l.zip p.vs).map (cutLink o.n)) :: [dictM lotD s], ?_, acc, J ++ .lst ((l.zip p.vs).map (cutLink o.n)) :: [dictM lotD s], _, _, _, _, _, _, _, by simp, ?_, by omega, rfl⟩
          · simp_arith [l__law_dropped_due_1, dict_sch H.nd, idx_dict (f := lotD) (s := s) (c := p.c) (M := M ++ MO.lst acc :: J ++ [MO.lst []] ++ [dictM lotD s]) (n := (M ++ MO.lst acc :: J ++ [MO.lst []]).length) get_end, hl, Option.map_some, lotD]
            simp_arith [h1, ei, show (p.n == o.n) = true by simp [he]]
          · rw [← h, List.filter_cons, he, beq_self_eq_true]
            rfl
        · have hg : ((M ++ MO.lst acc :: J) ++ MO.lst ((l.zip p.vs).map (cutLink o.n)) :: [dictM lotD s])[M.length]? = some (.lst acc) := by simp
          have k1 := kind_lst (f := "append") hg (by decide) (by decide)
          have ap := append_ok (y := dropD s o.n p) hg (by have := lt_size 1000 (by decide); omega)
          have st : ((M ++ MO.lst acc :: J) ++ MO.lst ((l.zip p.vs).map (cutLink o.n)) :: [dictM lotD s]).set M.length (.lst (acc ++ [dropD s o.n p])) = M ++ MO.lst (acc ++ [dropD s o.n p]) :: (J ++ MO.lst ((l.zip p.vs).map (cutLink o.n)) :: [dictM lotD s]) := by simp
          rw [st] at ap
          have tr := tuple_ref (n := (M ++ MO.lst acc :: J).length) (xs := (l.zip p.vs).map (cutLink o.n)) (M := (M ++ MO.lst acc :: J) ++ MO.lst ((l.zip p.vs).map (cutLink o.n)) :: [dictM lotD s]) get_mid
          refine ⟨.nx [some (.tup [schD s, .int nx, .tup (os.map Ob.d)]), some (.int o.n), some (.ref M.length), some (.int p.n), some (.str p.c), some (.tup p.vs), some (.ref (M ++ .lst acc :: J).length), y7, y8, y9], M ++ MO.lst (acc ++ [dropD s o.n p]) :: (J ++ MO.lst ((l.zip p.vs).map (cutLink o.n)) :: [dictM lotD s]), ?_, acc ++ [dropD s o.n p], _, _, _, _, _, _, _, _, rfl, ?_, by rw [List.length_append]; show _ + 1 + _ ≤ _; omega, rfl⟩
          · rw [ed] at ap ⊢
            simp_arith [l__law_dropped_due_1, dict_sch H.nd, idx_dict (f := lotD) (s := s) (c := p.c) (M := M ++ MO.lst acc :: J ++ [MO.lst []] ++ [dictM lotD s]) (n := (M ++ MO.lst acc :: J ++ [MO.lst []]).length) get_end, hl, Option.map_some, lotD]
            simp_arith [h1, ei, beq_eq_false_iff_ne.mpr he, k1, tr, ap]
          · rw [← h, List.filter_cons, beq_eq_false_iff_ne.mpr he]
            simp)
    obtain ⟨J, x3, x4, x5, x6, x7, x8, x9, rfl, rfl⟩ := q
    refine ⟨.lst ((os.filter fun p => !(p.n == o.n)).map (dropD s o.n)) :: J, ?_⟩
    have tr := tuple_ref (n := M.length) (xs := (os.filter fun p => !(p.n == o.n)).map (dropD s o.n)) (M := M ++ .lst ((os.filter fun p => !(p.n == o.n)).map (dropD s o.n)) :: J) get_mid
    simp_arith [e, tr, droppedE, hfo]
    rfl
end Law
/-! P14: sizes; what is told is short. -/
namespace Law
open PySem PySem.Spec PyProof.Rows L2 Mj Mq
local macro_rules
  | `(tactic| simp_arith [$ls,*] $[at $l]?) => `(tactic| simp only [Mq.vr_ok, Mq.up_ok, Mq.tr_ok, Mq.td_ok, Mq.td_exc, Mq.td_bad, Mq.tru1_ok, Mq.tru1_exc, Mq.tru1_bad, Mq.tnot_ok, Mq.tnot_exc, Mq.tnot_bad, Mq.ev_var, Mq.ev_const, Mq.ev_glob, Mq.kBin2_ok, Mq.kBin2_exc, Mq.kBin2_bad, Mq.kBin1_ok, Mq.kBin1_exc, Mq.kBin1_bad, Mq.ev_bin, Mq.negD_int, Mq.kNeg_ok, Mq.kNeg_exc, Mq.kNeg_bad, Mq.ev_neg, Mq.kNotE_ok, Mq.kNotE_exc, Mq.ev_not, Mq.ev_and, Mq.ev_or, Mq.brA_ok, Mq.brO_ok, Mq.kAnd_ok, Mq.kAnd_exc, Mq.evAnd_1, Mq.evAnd_2, Mq.kAndT_ok, Mq.kAndT_exc, Mq.evAndT_1, Mq.evAndT_2, Mq.kOr_ok, Mq.kOr_exc, Mq.evOr_1, Mq.evOr_2, Mq.kOrT_ok, Mq.kOrT_exc, Mq.evOrT_1, Mq.evOrT_2, Mq.kCmp2_ok, Mq.kCmp2_exc, Mq.kCmp2_bad, Mq.kCmp1_ok, Mq.kCmp1_exc, Mq.kCmp1_bad, Mq.ev_cmp, Mq.evT_cmp, Mq.kCh4_ok, Mq.kCh4_exc, Mq.kCh4_bad, Mq.kCh3_ok, Mq.kCh2_ok, Mq.kCh2_exc, Mq.kCh2_bad, Mq.kCh1_ok, Mq.kCh1_exc, Mq.kCh1_bad, Mq.ev_chain, Mq.evT_chain, Mq.kIfe_ok, Mq.kIfe_exc, Mq.ev_ife, Mq.kTup_ok, Mq.kTup_exc, Mq.ev_tup, Mq.kLst_ok, Mq.kLst_exc, Mq.ev_lst, Mq.kDict_ok, Mq.ev_dict, Mq.kIdx2_ok, Mq.kIdx2_exc, Mq.kIdx2_bad, Mq.kIdx1_ok, Mq.kIdx1_exc, Mq.kIdx1_bad, Mq.ev_idx, Mq.kSl3_ok, Mq.kSl2_ok, Mq.kSl1_ok, Mq.kSl1_exc, Mq.kSl1_bad, Mq.ev_slice, Mq.revD_tup, Mq.kRev_ok, Mq.kRev_exc, Mq.kRev_bad, Mq.ev_revT, Mq.kCall_ok, Mq.kCall_exc, Mq.ev_call, Mq.kCallV_ok, Mq.ev_callV, Mq.kCallW_ok, Mq.ev_callW, Mq.kBi_ok, Mq.kBi_exc, Mq.ev_bi, Mq.kMeth2_ok, Mq.kMeth2_exc, Mq.kMeth1_ok, Mq.kMeth1_exc, Mq.kMeth1_bad, Mq.ev_meth, Mq.kComp_ok, Mq.ev_comp, Mq.kLam_ok, Mq.ev_lamcall, Mq.lzD_ok, Mq.kLz2_ok, Mq.kLz2_exc, Mq.kLz2_bad, Mq.kLz1_ok, Mq.kLz1_exc, Mq.kLz1_bad, Mq.ev_listZip, Mq.ev_ask, Mq.isX_ok, Mq.ev_isE, Mq.evT_isE, Mq.fldX_ok, Mq.ev_fldE, Mq.evT_not, Mq.evT_and, Mq.evT_or, Mq.evT_var, Mq.evT_call, Mq.evT_callV, Mq.evT_bi, Mq.evT_idx, Mq.kEs2_ok, Mq.kEs2_exc, Mq.kEs1_ok, Mq.kEs1_exc, Mq.evs_nil, Mq.evs_cons, Mq.intO_ok, Mq.kO_ok, Mq.evo_none, Mq.evo_some, Mq.evIf_none, Mq.evIf_some, Mq.srcX_ok, Mq.kSeq_ok, Mq.evI_seq, Mq.kRng1_ok, Mq.evI_rng1, Mq.kRng22_ok, Mq.kRng21_ok, Mq.evI_rng2, Mq.zipD_tup, Mq.zipD_lst, Mq.kZip2_ok, Mq.kZip1_ok, Mq.evI_zip, Mq.enumD_lst, Mq.kEnum_ok, Mq.evI_enum, Mq.kSet_ok, Mq.kSet_exc, Mq.exS_set, Mq.kPar2_ok, Mq.kPar2_exc, Mq.kPar1_ok, Mq.kPar1_exc, Mq.exS_par, Mq.bdR_ok, Mq.kUnp_ok, Mq.kUnp_exc, Mq.exS_unp, Mq.kIx2_ok, Mq.kIx2_exc, Mq.kIx1_ok, Mq.kIx1_exc, Mq.exS_setIx, Mq.kExp_ok, Mq.kExp_exc, Mq.exS_expr, Mq.kRet_ok, Mq.kRet_exc, Mq.exS_ret, Mq.kIfs_ok, Mq.kIfs_exc, Mq.exS_ifs, Mq.kFor_ok, Mq.kFor_exc, Mq.exS_for, Mq.kRaise_ok, Mq.kRaise_exc, Mq.exS_raise, Mq.kTryE_nx, Mq.kTryE_rt, Mq.kTry_nx, Mq.kTry_rt, Mq.kTry_xc, Mq.exS_tryAs, Mq.kSt_nx, Mq.kSt_rt, Mq.kSt_xc, Mq.exSs_nil, Mq.exSs_cons, Mq.fin_nx, Mq.fin_rt, Mq.fin_xc, Mq.fin_ite, Mq.kSt_ite, Mq.kRet_ite, Mq.kSet_ite, Mq.ite_and, Mq.ite_or, Mq.ite_andD, Mq.ite_orD, Mq.bare_mk, Mq.sz_0, Mq.sz_1, Mq.sz_2, Mq.sz_3, Mq.sz_4, Mq.sz_5, Mq.sz_6, Mq.sz_7, Mq.sz_8, Mq.sz_9, Mq.sz_10, Mq.sz_11, Mq.sz_12, Mw.tru_non, Mw.tru_bl, Mw.tru_int, Mw.tru_tup, Mw.tru_lst, Mw.getL_lst, Mw.resO_some, Mw.resO_none, Mw.newL_false, Mw.newL_true, Mw.cmp_eq_int, Mw.cmp_ne_int, Mw.cmp_lt_int, Mw.cmp_le_int, Mw.cmp_gt_int, Mw.cmp_ge_int, Mw.cmp_eq_str, Mw.cmp_ne_str, Mw.bq_len, Mw.bq_isi, Mw.bq_int, Mw.bq_str, Mw.bq_ord, Mw.bq_all, Mw.bq_list, Mw.bq_tuple, Mw.bq_dict, Mw.bq_sorted, Mw.bq_repr, Mw.bq_min, Mw.bq_max, Mw.len_tup, Mw.len_lst, Mw.int_int, Mw.tuple_lst, Mw.list_tup_f, Mw.list_lst_f, Mw.idx_tup, Mw.idx_lst, Mw.src_tup, Mw.src_lst, Mw.add_int, Mw.sub_int, Mw.atI_0, Mw.atI_1, Mw.atI_2, Mw.atI_3, Mw.atI_4, Mq.ii_int, Mq.ii_bl, Mq.ii_str, Mq.ii_non, Mq.ii_tup, Mq.ii_lst, Mq.ib_int, Mq.ib_bl, Mq.ib_str, Mq.ib_non, Mq.ib_tup, Mq.ib_lst, Mq.is_int, Mq.is_bl, Mq.is_str, Mq.is_non, Mq.is_tup, Mq.is_lst, Mq.it_int, Mq.it_bl, Mq.it_str, Mq.it_non, Mq.it_tup, Mq.it_lst, Mq.il_int, Mq.il_bl, Mq.il_str, Mq.il_non, Mq.il_tup, Mq.il_lst, Mq.cis_int, Mq.cis_bl, Mq.cis_str, Mq.cis_non, Mq.cis_tup, Mq.cis_lst, Mq.cnis_int, Mq.cnis_bl, Mq.cnis_str, Mq.cnis_non, Mq.cnis_tup, Mq.cnis_lst, Mj.bindT, Mj.bindTs, Mj.wipeR, Mj.Tg.own, Mj.Tgs.own, List.getElem?_cons_zero, List.getElem?_cons_succ, List.set_cons_zero, List.set_cons_succ, if_true, Bool.false_eq_true, if_false, ite_false, ite_true, List.length_cons, List.length_nil, List.cons_append, List.nil_append, Bool.not_true, Bool.not_false, Bool.and_true, Bool.true_and, Bool.false_and, Bool.and_false, Bool.or_true, Bool.true_or, Bool.or_false, Bool.false_or, Bool.not_not, Nat.zero_add, and_self, Mj.pickAll, List.isEmpty_cons, List.isEmpty_nil, Nat.reduceAdd, Nat.reduceLeDiff, Nat.reduceEqDiff, eq_self, Int.reduceLT, Int.reduceLE, Int.reduceAdd, Int.reduceSub, Int.reduceToNat, decide_true, decide_false, Int.reduceNeg, Nat.reduceSub, $ls,*] $[at $l]?)
theorem lowDs_all : ∀ {xs : List D}, (∀ d ∈ xs, lowD d = true) → lowDs xs = true
  | [], _ => rfl
  | d :: r, h => by
    rw [lowDs, h d (by simp), lowDs_all (xs := r) fun e he => h e (List.mem_cons_of_mem _ he)]
    rfl
theorem lowDs_mem : ∀ {xs : List D}, lowDs xs = true → ∀ d ∈ xs, lowD d = true
  | d :: r, h, e, he => by
    rw [lowDs, Bool.and_eq_true] at h
    rcases List.mem_cons.mp he with rfl | he
    · exact h.1
    · exact lowDs_mem h.2 e he
/-- data of depth k, weight w -/
structure Sz (k w : Nat) (d : D) : Prop where
  ok : Ok k d
  ib : iB d = true
  wt : wt d ≤ w
  low : lowD d = true
theorem Sz.mono {k w k' w' : Nat} {d : D} (h : Sz k w d) (h1 : k ≤ k') (h2 : w ≤ w') : Sz k' w' d := ⟨h.ok.mono h1, h.ib, Nat.le_trans h.wt h2, h.low⟩
theorem wts_le : ∀ {xs : List D} {w : Nat}, (∀ x ∈ xs, wt x ≤ w) → wts xs ≤ xs.length * (w + 1)
  | [], _, _ => by simp [wts]
  | x :: xs, w, h => by
    have h1 := h x (by simp)
    have h2 := wts_le (xs := xs) (w := w) fun y hy => h y (List.mem_cons_of_mem _ hy)
    simp only [wts, List.length_cons]
    rw [Nat.add_mul]
    omega
theorem Sz.tup {k w L : Nat} {xs : List D} (h : ∀ x ∈ xs, Sz k w x) (hl : xs.length ≤ L) (hL : L ≤ 1000) : Sz (k + 1) (L * (w + 1)) (.tup xs) := by
  refine ⟨.tup (fun d hd => (h d hd).ok) (by omega), iBs_all fun d hd => (h d hd).ib, ?_, lowDs_all fun d hd => (h d hd).low⟩
  exact Nat.le_trans (wts_le fun x hx => (h x hx).wt) (Nat.mul_le_mul_right _ hl)
theorem Sz.int {i : Int} (h : iB (.int i) = true) : Sz 0 0 (.int i) := ⟨.int _, h, Nat.le_refl _, rfl⟩
theorem Sz.non : Sz 0 0 .non := ⟨.non, rfl, Nat.le_refl _, rfl⟩
theorem Sz.bl (b : Bool) : Sz 0 0 (.bl b) := ⟨.bl b, rfl, Nat.le_refl _, rfl⟩
theorem Sz.str {x : Str} (h : x.cps.toList.all lowC = true) (hl : x.length ≤ 8) : Sz 0 8 (.str x) := ⟨(low_nmOk h (by omega)).ok 0, rfl, hl, h⟩
theorem Sz.nm {x : Str} (h : nameS x = true) : Sz 0 8 (.str x) := .str (nameS_low h) (nameS_len h)
theorem Sz.cons2 {k w : Nat} {a b : D} (ha : Sz k w a) (hb : Sz k w b) : Sz (k + 1) (2 * (w + 1)) (.tup [a, b]) := .tup (fun x hx => by
  simp only [List.mem_cons, List.not_mem_nil, or_false] at hx
  rcases hx with rfl | rfl <;> assumption) (by simp) (by omega)
theorem Sz.cons3 {k w : Nat} {a b c : D} (ha : Sz k w a) (hb : Sz k w b) (hc : Sz k w c) : Sz (k + 1) (3 * (w + 1)) (.tup [a, b, c]) := .tup (fun x hx => by
  simp only [List.mem_cons, List.not_mem_nil, or_false] at hx
  rcases hx with rfl | rfl | rfl <;> assumption) (by simp) (by omega)
theorem Sz.cons4 {k w : Nat} {a b c d : D} (ha : Sz k w a) (hb : Sz k w b) (hc : Sz k w c) (hd : Sz k w d) : Sz (k + 1) (4 * (w + 1)) (.tup [a, b, c, d]) := .tup (fun x hx => by
  simp only [List.mem_cons, List.not_mem_nil, or_false] at hx
  rcases hx with rfl | rfl | rfl | rfl <;> assumption) (by simp) (by omega)
theorem Sz.repr {k w : Nat} {d : D} (h : Sz k w d) (hk : k ≤ 60) (hw : w ≤ 200000) (M : MH) : biRepr [d] M = .ok (.str (rp d)) M := rp_ok h.ok hk h.ib (Nat.le_trans h.wt hw)
theorem sch_sz {s : Sch} {os : List Ob} (H : LOk s os) : Sz 5 15260 (schD s) := by
  have hf : ∀ c ∈ s, ∀ f ∈ c.2, Sz 2 18 (fldD f) := fun c hc f hf => by
    have n1 := ((H.cls c hc).2.2.2.2 f hf).2.1
    have hk : Sz 1 8 f.2.d := by
      have hb := H.kb c hc f hf
      cases h : f.2 with
      | rng lo hi =>
        rw [h] at hb
        simp only [Kd.d, iB, iBs, Bool.and_true, Bool.and_eq_true] at hb
        have h2 : Sz 1 2 (.tup [.int lo, .int hi]) := Sz.cons2 (k := 0) (w := 0) (Sz.int (by simpa [iB] using hb.1)) (Sz.int (by simpa [iB] using hb.2))
        exact h2.mono (by omega) (by omega)
      | cls x =>
        exact (Sz.nm (H.kn c hc f hf x h)).mono (by omega) (by omega)
    exact Sz.cons2 (k := 1) (w := 8) ((Sz.nm n1).mono (by omega) (by omega)) hk
  have hc : ∀ c ∈ s, Sz 4 762 (clsD c) := fun c hc => by
    have h1 : Sz 3 380 (lotD c.2) := (Sz.tup (L := 20) (fun x hx => by
      obtain ⟨f, hf', rfl⟩ := List.mem_map.mp hx
      exact hf c hc f hf') (by rw [List.length_map]; exact (H.cls c hc).2.2.1) (by omega)).mono (by omega) (by omega)
    have h2 : Sz 4 762 (.tup [.str c.1, lotD c.2]) := Sz.cons2 (k := 3) (w := 380) ((Sz.nm (H.cls c hc).2.1).mono (by omega) (by omega)) h1
    exact h2
  exact (Sz.tup (L := 20) (fun x hx => by
    obtain ⟨c, hc', rfl⟩ := List.mem_map.mp hx
    exact hc c hc') (by rw [List.length_map]; exact H.sl) (by omega)).mono (by omega) (by omega)
theorem val_sz {v : D} (h : vB v = true) (hi : iB v = true) : Sz 0 0 v := by
  cases v with
  | int i => exact Sz.int hi
  | non => exact Sz.non
  | _ => cases h
theorem ob_nm {s : Sch} {os : List Ob} (H : LOk s os) {o : Ob} (ho : o ∈ os) : nameS o.c = true := by
  obtain ⟨_, ⟨l, hl, _⟩, _⟩ := H.obs o ho
  exact (H.cls _ (lookS_mem hl)).2.1
theorem ob_len {s : Sch} {os : List Ob} (H : LOk s os) {o : Ob} (ho : o ∈ os) : o.vs.length ≤ 20 := by
  obtain ⟨_, ⟨l, hl, e⟩, _⟩ := H.obs o ho
  rw [e]
  exact (H.cls _ (lookS_mem hl)).2.2.1
theorem num_iB {i : Int} (h : i.natAbs < 1000) : iB (.int i) = true := by
  simp only [iB, decide_eq_true_eq]
  exact Nat.lt_trans h (by decide)
theorem small_num {i : Int} (h : i.natAbs < 100000) : iB (.int i) = true := by
  simp only [iB, decide_eq_true_eq]
  exact Nat.lt_trans h (by decide)
theorem ob_sz {s : Sch} {os : List Ob} (H : LOk s os) {o : Ob} (ho : o ∈ os) : Sz 2 63 o.d := by
  have h1 : Sz 1 20 (.tup o.vs) := (Sz.tup (L := 20) (fun v hv => val_sz ((H.obs o ho).2.2 v hv) (H.ib o ho v hv)) (ob_len H ho) (by omega)).mono (by omega) (by omega)
  exact (Sz.cons3 ((Sz.int (num_iB (H.num o ho))).mono (by omega) (by omega)) ((Sz.nm (ob_nm H ho)).mono (by omega) (by omega)) h1).mono (by omega) (by omega)
/-- a value of a step -/
def ItS (v : D) : Prop := Sz 2 50 v ∧ NumOk v
theorem ItS.plain {v : D} (h : ItS v) : plain v = true := h.1.ok.plain
theorem house_sz' {s : Sch} {os : List Ob} {nx : Int} {xs : List D} (H : LOk s os) (hx : iB (.int nx) = true) (h : ∀ x ∈ xs, Sz 4 1200 x) (hl : xs.length ≤ 101) : Sz 6 145000 (.tup [schD s, .int nx, .tup xs]) := by
  have h1 : Sz 5 125000 (.tup xs) := (Sz.tup (L := 101) h hl (by omega)).mono (by omega) (by omega)
  refine ⟨(Sz.cons3 ((sch_sz H).mono (k' := 5) (w' := 125000) (by omega) (by omega)) ((Sz.int hx).mono (by omega) (by omega)) h1).ok, (Sz.cons3 ((sch_sz H).mono (k' := 5) (w' := 125000) (by omega) (by omega)) ((Sz.int hx).mono (by omega) (by omega)) h1).ib, ?_, (Sz.cons3 ((sch_sz H).mono (k' := 5) (w' := 125000) (by omega) (by omega)) ((Sz.int hx).mono (by omega) (by omega)) h1).low⟩
  have e1 := (sch_sz H).wt
  have e2 := h1.wt
  simp only [wt, wts] at e1 e2 ⊢
  omega
theorem house_sz {s : Sch} {os : List Ob} {nx : Int} (H : LOk s os) (hx : iB (.int nx) = true) : Sz 6 145000 (houseD s nx os) := house_sz' H hx (fun x hx => by
  obtain ⟨o, ho, rfl⟩ := List.mem_map.mp hx
  exact (ob_sz H ho).mono (by omega) (by omega)) (by rw [List.length_map]; have := H.ol; omega)
theorem step_sz {w : Str} {st : D} (hw : w.cps.toList.all lowC = true) (hl : w.length ≤ 8) (h : Sz 4 60000 st) : Sz 7 190000 (outD (.error (badStep st w))) := by
  have e : outD (.error (badStep st w)) = .tup [.str "step", st, .str w] := by
    rw [outD]
    simp_arith [badStep, lk1, lk2, Option.getD_some]
  rw [e]
  exact (Sz.cons3 ((Sz.str (by decide +kernel) (by decide)).mono (by omega) (by omega)) h ((Sz.str hw hl).mono (by omega) (by omega))).mono (by omega) (by omega)
theorem told_sz {d : D} (h : Sz 6 145000 d) : Sz 7 190000 (outD (.ok d)) := by
  refine ⟨(Sz.cons2 ((Sz.str (x := "told") (by decide +kernel) (by decide)).mono (by omega) (by omega)) h).ok, (Sz.cons2 ((Sz.str (x := "told") (by decide +kernel) (by decide)).mono (by omega) (by omega)) h).ib, ?_, (Sz.cons2 ((Sz.str (x := "told") (by decide +kernel) (by decide)).mono (by omega) (by omega)) h).low⟩
  have e := h.wt
  have e2 : ("told" : Str).length ≤ 8 := by decide
  simp only [outD, wt, wts] at e ⊢
  omega
theorem obj_sz {d : D} (h : Sz 2 50 d) : Sz 7 190000 (outD (.error (noOb d))) := by
  have e : outD (.error (noOb d)) = .tup [.str "object", d] := by
    rw [outD]
    simp_arith [noOb, lk3, Option.getD_some]
  rw [e]
  exact (Sz.cons2 ((Sz.str (by decide +kernel) (by decide)).mono (by omega) (by omega)) h).mono (by omega) (by omega)
theorem lw (x : Str) (h : (x.cps.toList.all lowC && decide (x.length ≤ 8)) = true) : x.cps.toList.all lowC = true ∧ x.length ≤ 8 := by
  simpa using h
theorem made_sz {s : Sch} {nx : Int} {os : List Ob} {d : D} {vs : List D} (H : LOk s os) (hx0 : nx.natAbs < 1000) (hd : Sz 2 50 d) (hv : ∀ v ∈ vs, ItS v) (hl : vs.length ≤ 20) : Sz 7 190000 (outD (madeE s nx os d vs)) ∧ ErrOk (madeE s nx os d vs) := by
  have hvs : Sz 3 1020 (.tup vs) := (Sz.tup (L := 20) (fun v h => (hv v h).1) hl (by omega)).mono (by omega) (by omega)
  have hst : Sz 4 60000 (stepD d vs) := (Sz.cons3 ((Sz.str (x := "make") (by decide +kernel) (by decide)).mono (by omega) (by omega)) (hd.mono (by omega) (by omega)) hvs).mono (by omega) (by omega)
  unfold madeE
  split
  · exact ⟨step_sz (by decide +kernel) (by decide) hst, .inl ⟨_, _, rfl⟩⟩
  · split
    · refine ⟨told_sz (house_sz' H (small_num (i := nx + 1) (by omega)) ?_ ?_), trivial⟩
      · intro x hx
        rcases List.mem_append.mp hx with hx | hx
        · obtain ⟨o, ho, rfl⟩ := List.mem_map.mp hx
          exact (ob_sz H ho).mono (by omega) (by omega)
        · rw [List.mem_singleton.mp hx]
          refine ⟨(Sz.cons3 ((Sz.int (num_iB hx0)).mono (by omega) (by omega)) (hd.mono (by omega) (by omega)) hvs).ok.mono (by omega), (Sz.cons3 ((Sz.int (num_iB hx0)).mono (by omega) (by omega)) (hd.mono (by omega) (by omega)) hvs).ib, ?_, (Sz.cons3 ((Sz.int (num_iB hx0)).mono (by omega) (by omega)) (hd.mono (by omega) (by omega)) hvs).low⟩
          have e1 := hd.wt
          have e2 := hvs.wt
          simp only [wt, wts] at e1 e2 ⊢
          omega
      · rw [List.length_append, List.length_map]
        have := H.ol
        show _ + 1 ≤ _
        omega
    · exact ⟨step_sz (by decide +kernel) (by decide) hst, .inl ⟨_, _, rfl⟩⟩
theorem written_sz {s : Sch} {nx : Int} {os : List Ob} {d f v : D} (H : LOk s os) (hx : nx.natAbs < 1000) (hd : Sz 2 50 d) (hf : Sz 2 50 f) (hv : Sz 2 50 v) : Sz 7 190000 (outD (writtenE s nx os d f v)) ∧ ErrOk (writtenE s nx os d f v) := by
  have hst : Sz 4 60000 (wstepD d f v) := (Sz.cons4 ((Sz.str (x := "write") (by decide +kernel) (by decide)).mono (by omega) (by omega)) hd hf hv).mono (by omega) (by omega)
  unfold writtenE
  split
  · exact ⟨obj_sz hd, .inr ⟨_, rfl⟩⟩
  · rename_i o ho
    have hm := (findOb_mem ho).1
    split
    · exact ⟨obj_sz hd, .inr ⟨_, rfl⟩⟩
    · split
      · exact ⟨step_sz (by decide +kernel) (by decide) hst, .inl ⟨_, _, rfl⟩⟩
      · rename_i a _
        split
        · refine ⟨told_sz (house_sz' H (num_iB hx) ?_ ?_), trivial⟩
          · intro x hx
            obtain ⟨p, hp, rfl⟩ := List.mem_map.mp hx
            split
            · have hl := ob_len H hm
              have h1 : Sz 3 1071 (.tup (o.vs.take a ++ [v] ++ o.vs.drop (a + 1))) := (Sz.tup (k := 2) (L := 21) (w := 50) (fun x hx => by
                rcases List.mem_append.mp hx with hx | hx
                · rcases List.mem_append.mp hx with hx | hx
                  · have := List.mem_of_mem_take hx
                    exact (val_sz ((H.obs o hm).2.2 _ this) (H.ib o hm _ this)).mono (by omega) (by omega)
                  · rw [List.mem_singleton.mp hx]; exact hv
                · have := List.mem_of_mem_drop hx
                  exact (val_sz ((H.obs o hm).2.2 _ this) (H.ib o hm _ this)).mono (by omega) (by omega)) (by
                    simp only [List.length_append, List.length_take, List.length_drop, List.length_singleton]
                    omega) (by omega)).mono (by omega) (by omega)
              have hn := Sz.nm (ob_nm H hm)
              refine ⟨(Sz.cons3 (hd.mono (k' := 3) (w' := 1071) (by omega) (by omega)) (hn.mono (by omega) (by omega)) h1).ok.mono (by omega), (Sz.cons3 (hd.mono (k' := 3) (w' := 1071) (by omega) (by omega)) (hn.mono (by omega) (by omega)) h1).ib, ?_, (Sz.cons3 (hd.mono (k' := 3) (w' := 1071) (by omega) (by omega)) (hn.mono (by omega) (by omega)) h1).low⟩
              have e1 := hd.wt
              have e2 := h1.wt
              have e3 := hn.wt
              simp only [wt, wts] at e1 e2 e3 ⊢
              omega
            · exact (ob_sz H hp).mono (by omega) (by omega)
          · rw [List.length_map]
            have := H.ol
            omega
        · exact ⟨step_sz (by decide +kernel) (by decide) hst, .inl ⟨_, _, rfl⟩⟩
theorem dropped_sz {s : Sch} {nx : Int} {os : List Ob} {d : D} (H : LOk s os) (hx : nx.natAbs < 1000) (hd : Sz 2 50 d) : Sz 7 190000 (outD (droppedE s nx os d)) ∧ ErrOk (droppedE s nx os d) := by
  unfold droppedE
  split
  · exact ⟨obj_sz hd, .inr ⟨_, rfl⟩⟩
  · rename_i o ho
    refine ⟨told_sz (house_sz' H (num_iB hx) ?_ ?_), trivial⟩
    · intro x hx
      obtain ⟨p, hp', rfl⟩ := List.mem_map.mp hx
      have hp := (List.mem_filter.mp hp').1
      unfold dropD
      have h1 : Sz 1 20 (.tup ((((lookS s p.c).getD []).zip p.vs).map (cutLink o.n))) := (Sz.tup (L := 20) (w := 0) (fun x hx => by
        obtain ⟨q, hq, rfl⟩ := List.mem_map.mp hx
        have hq2 := (List.of_mem_zip (a := q.1) (b := q.2) hq).2
        have hv := val_sz ((H.obs p hp).2.2 _ hq2) (H.ib p hp _ hq2)
        unfold cutLink
        split
        · split
          · exact Sz.non
          · exact hv
        · exact hv) (by
          rw [List.length_map, List.length_zip]
          have := ob_len H hp
          omega) (by omega)).mono (by omega) (by omega)
      exact (Sz.cons3 ((Sz.int (num_iB (H.num p hp))).mono (by omega) (by omega)) ((Sz.nm (ob_nm H hp)).mono (by omega) (by omega)) h1).mono (by omega) (by omega)
    · rw [List.length_map]
      have := List.length_filter_le (fun p : Ob => !(p.n == o.n)) os
      have := H.ol
      omega
end Law
/-! P15: what is asked of the house. -/
namespace Law
open PySem PySem.Spec PyProof.Rows L2 Mj Mq
local macro_rules
  | `(tactic| simp_arith [$ls,*] $[at $l]?) => `(tactic| simp only [Mq.vr_ok, Mq.up_ok, Mq.tr_ok, Mq.td_ok, Mq.td_exc, Mq.td_bad, Mq.tru1_ok, Mq.tru1_exc, Mq.tru1_bad, Mq.tnot_ok, Mq.tnot_exc, Mq.tnot_bad, Mq.ev_var, Mq.ev_const, Mq.ev_glob, Mq.kBin2_ok, Mq.kBin2_exc, Mq.kBin2_bad, Mq.kBin1_ok, Mq.kBin1_exc, Mq.kBin1_bad, Mq.ev_bin, Mq.negD_int, Mq.kNeg_ok, Mq.kNeg_exc, Mq.kNeg_bad, Mq.ev_neg, Mq.kNotE_ok, Mq.kNotE_exc, Mq.ev_not, Mq.ev_and, Mq.ev_or, Mq.brA_ok, Mq.brO_ok, Mq.kAnd_ok, Mq.kAnd_exc, Mq.evAnd_1, Mq.evAnd_2, Mq.kAndT_ok, Mq.kAndT_exc, Mq.evAndT_1, Mq.evAndT_2, Mq.kOr_ok, Mq.kOr_exc, Mq.evOr_1, Mq.evOr_2, Mq.kOrT_ok, Mq.kOrT_exc, Mq.evOrT_1, Mq.evOrT_2, Mq.kCmp2_ok, Mq.kCmp2_exc, Mq.kCmp2_bad, Mq.kCmp1_ok, Mq.kCmp1_exc, Mq.kCmp1_bad, Mq.ev_cmp, Mq.evT_cmp, Mq.kCh4_ok, Mq.kCh4_exc, Mq.kCh4_bad, Mq.kCh3_ok, Mq.kCh2_ok, Mq.kCh2_exc, Mq.kCh2_bad, Mq.kCh1_ok, Mq.kCh1_exc, Mq.kCh1_bad, Mq.ev_chain, Mq.evT_chain, Mq.kIfe_ok, Mq.kIfe_exc, Mq.ev_ife, Mq.kTup_ok, Mq.kTup_exc, Mq.ev_tup, Mq.kLst_ok, Mq.kLst_exc, Mq.ev_lst, Mq.kDict_ok, Mq.ev_dict, Mq.kIdx2_ok, Mq.kIdx2_exc, Mq.kIdx2_bad, Mq.kIdx1_ok, Mq.kIdx1_exc, Mq.kIdx1_bad, Mq.ev_idx, Mq.kSl3_ok, Mq.kSl2_ok, Mq.kSl1_ok, Mq.kSl1_exc, Mq.kSl1_bad, Mq.ev_slice, Mq.revD_tup, Mq.kRev_ok, Mq.kRev_exc, Mq.kRev_bad, Mq.ev_revT, Mq.kCall_ok, Mq.kCall_exc, Mq.ev_call, Mq.kCallV_ok, Mq.ev_callV, Mq.kCallW_ok, Mq.ev_callW, Mq.kBi_ok, Mq.kBi_exc, Mq.ev_bi, Mq.kMeth2_ok, Mq.kMeth2_exc, Mq.kMeth1_ok, Mq.kMeth1_exc, Mq.kMeth1_bad, Mq.ev_meth, Mq.kComp_ok, Mq.ev_comp, Mq.kLam_ok, Mq.ev_lamcall, Mq.lzD_ok, Mq.kLz2_ok, Mq.kLz2_exc, Mq.kLz2_bad, Mq.kLz1_ok, Mq.kLz1_exc, Mq.kLz1_bad, Mq.ev_listZip, Mq.ev_ask, Mq.isX_ok, Mq.ev_isE, Mq.evT_isE, Mq.fldX_ok, Mq.ev_fldE, Mq.evT_not, Mq.evT_and, Mq.evT_or, Mq.evT_var, Mq.evT_call, Mq.evT_callV, Mq.evT_bi, Mq.evT_idx, Mq.kEs2_ok, Mq.kEs2_exc, Mq.kEs1_ok, Mq.kEs1_exc, Mq.evs_nil, Mq.evs_cons, Mq.intO_ok, Mq.kO_ok, Mq.evo_none, Mq.evo_some, Mq.evIf_none, Mq.evIf_some, Mq.srcX_ok, Mq.kSeq_ok, Mq.evI_seq, Mq.kRng1_ok, Mq.evI_rng1, Mq.kRng22_ok, Mq.kRng21_ok, Mq.evI_rng2, Mq.zipD_tup, Mq.zipD_lst, Mq.kZip2_ok, Mq.kZip1_ok, Mq.evI_zip, Mq.enumD_lst, Mq.kEnum_ok, Mq.evI_enum, Mq.kSet_ok, Mq.kSet_exc, Mq.exS_set, Mq.kPar2_ok, Mq.kPar2_exc, Mq.kPar1_ok, Mq.kPar1_exc, Mq.exS_par, Mq.bdR_ok, Mq.kUnp_ok, Mq.kUnp_exc, Mq.exS_unp, Mq.kIx2_ok, Mq.kIx2_exc, Mq.kIx1_ok, Mq.kIx1_exc, Mq.exS_setIx, Mq.kExp_ok, Mq.kExp_exc, Mq.exS_expr, Mq.kRet_ok, Mq.kRet_exc, Mq.exS_ret, Mq.kIfs_ok, Mq.kIfs_exc, Mq.exS_ifs, Mq.kFor_ok, Mq.kFor_exc, Mq.exS_for, Mq.kRaise_ok, Mq.kRaise_exc, Mq.exS_raise, Mq.kTryE_nx, Mq.kTryE_rt, Mq.kTry_nx, Mq.kTry_rt, Mq.kTry_xc, Mq.exS_tryAs, Mq.kSt_nx, Mq.kSt_rt, Mq.kSt_xc, Mq.exSs_nil, Mq.exSs_cons, Mq.fin_nx, Mq.fin_rt, Mq.fin_xc, Mq.fin_ite, Mq.kSt_ite, Mq.kRet_ite, Mq.kSet_ite, Mq.ite_and, Mq.ite_or, Mq.ite_andD, Mq.ite_orD, Mq.bare_mk, Mq.sz_0, Mq.sz_1, Mq.sz_2, Mq.sz_3, Mq.sz_4, Mq.sz_5, Mq.sz_6, Mq.sz_7, Mq.sz_8, Mq.sz_9, Mq.sz_10, Mq.sz_11, Mq.sz_12, Mw.tru_non, Mw.tru_bl, Mw.tru_int, Mw.tru_tup, Mw.tru_lst, Mw.getL_lst, Mw.resO_some, Mw.resO_none, Mw.newL_false, Mw.newL_true, Mw.cmp_eq_int, Mw.cmp_ne_int, Mw.cmp_lt_int, Mw.cmp_le_int, Mw.cmp_gt_int, Mw.cmp_ge_int, Mw.cmp_eq_str, Mw.cmp_ne_str, Mw.bq_len, Mw.bq_isi, Mw.bq_int, Mw.bq_str, Mw.bq_ord, Mw.bq_all, Mw.bq_list, Mw.bq_tuple, Mw.bq_dict, Mw.bq_sorted, Mw.bq_repr, Mw.bq_min, Mw.bq_max, Mw.len_tup, Mw.len_lst, Mw.int_int, Mw.tuple_lst, Mw.list_tup_f, Mw.list_lst_f, Mw.idx_tup, Mw.idx_lst, Mw.src_tup, Mw.src_lst, Mw.add_int, Mw.sub_int, Mw.atI_0, Mw.atI_1, Mw.atI_2, Mw.atI_3, Mw.atI_4, Mq.ii_int, Mq.ii_bl, Mq.ii_str, Mq.ii_non, Mq.ii_tup, Mq.ii_lst, Mq.ib_int, Mq.ib_bl, Mq.ib_str, Mq.ib_non, Mq.ib_tup, Mq.ib_lst, Mq.is_int, Mq.is_bl, Mq.is_str, Mq.is_non, Mq.is_tup, Mq.is_lst, Mq.it_int, Mq.it_bl, Mq.it_str, Mq.it_non, Mq.it_tup, Mq.it_lst, Mq.il_int, Mq.il_bl, Mq.il_str, Mq.il_non, Mq.il_tup, Mq.il_lst, Mq.cis_int, Mq.cis_bl, Mq.cis_str, Mq.cis_non, Mq.cis_tup, Mq.cis_lst, Mq.cnis_int, Mq.cnis_bl, Mq.cnis_str, Mq.cnis_non, Mq.cnis_tup, Mq.cnis_lst, Mj.bindT, Mj.bindTs, Mj.wipeR, Mj.Tg.own, Mj.Tgs.own, List.getElem?_cons_zero, List.getElem?_cons_succ, List.set_cons_zero, List.set_cons_succ, if_true, Bool.false_eq_true, if_false, ite_false, ite_true, List.length_cons, List.length_nil, List.cons_append, List.nil_append, Bool.not_true, Bool.not_false, Bool.and_true, Bool.true_and, Bool.false_and, Bool.and_false, Bool.or_true, Bool.true_or, Bool.or_false, Bool.false_or, Bool.not_not, Nat.zero_add, and_self, Mj.pickAll, List.isEmpty_cons, List.isEmpty_nil, Nat.reduceAdd, Nat.reduceLeDiff, Nat.reduceEqDiff, eq_self, Int.reduceLT, Int.reduceLE, Int.reduceAdd, Int.reduceSub, Int.reduceToNat, decide_true, decide_false, Int.reduceNeg, Nat.reduceSub, $ls,*] $[at $l]?)
theorem its_int {i : Int} (h : i.natAbs < 10 ^ 60) : ItS (.int i) := by
  have h1 : i.natAbs < 10 ^ 61 := Nat.lt_trans h (by decide)
  exact ⟨(Sz.int (by simp only [iB, decide_eq_true_eq]; exact h1)).mono (by omega) (by omega), NumOk.int h1⟩
theorem its_small {i : Int} (h : i.natAbs < 100000) : ItS (.int i) := its_int (Nat.lt_trans h (by decide))
theorem its_non : ItS .non := ⟨Sz.non.mono (by omega) (by omega), num_non⟩
theorem its_true : ItS (.bl true) := ⟨(Sz.bl true).mono (by omega) (by omega), num_true⟩
theorem its_a : ItS (.str "a") := ⟨(Sz.str (by decide +kernel) (by decide)).mono (by omega) (by omega), num_a⟩
theorem its_t0 : ItS (.tup [.int 0]) := ⟨⟨okB_ok 2 _ (by decide +kernel), by decide +kernel, by decide +kernel, by decide +kernel⟩, num_t0⟩
/-- a name to ask -/
def NaS (v : D) : Prop := Sz 2 50 v ∧ NamOk v
theorem nas_name {x : Str} (h : nameS x = true) : NaS (.str x) := ⟨(Sz.nm h).mono (by omega) (by omega), nam_name h⟩
theorem nas_z : NaS (.str "z") := ⟨(Sz.str (by decide +kernel) (by decide)).mono (by omega) (by omega), nam_low (by decide +kernel) (by decide)⟩
theorem nas_zz : NaS (.str "zz") := ⟨(Sz.str (by decide +kernel) (by decide)).mono (by omega) (by omega), nam_low (by decide +kernel) (by decide)⟩
theorem nas_e : NaS (.str "") := ⟨(Sz.str (by decide +kernel) (by decide)).mono (by omega) (by omega), nam_low (by decide +kernel) (by decide)⟩
theorem nas_non : NaS .non := ⟨Sz.non.mono (by omega) (by omega), nam_non⟩
theorem nas_0 : NaS (.int 0) := ⟨(Sz.int (by decide +kernel)).mono (by omega) (by omega), nam_0⟩
theorem nas_tk : NaS (.tup [.str "k"]) := ⟨⟨okB_ok 2 _ (by decide +kernel), by decide +kernel, by decide +kernel, by decide +kernel⟩, nam_tk⟩
def obN (o : Ob) : D := .int o.n
theorem its_obN {s : Sch} {os : List Ob} (H : LOk s os) {d : D} (h : d ∈ os.map obN) : ItS d := by
  obtain ⟨o, ho, rfl⟩ := List.mem_map.mp h
  have := H.num o ho
  exact its_small (by omega)
theorem s_some_number (n : Nat) (ns : List Int) (R M : MH) (s : Sch) (nx : Int) (os : List Ob) (hM : Fed ns R M) (H : LOk s os) (hx : nx.natAbs < 1000) :
    ∃ d M', callN T sub (n + 3) 26 [.ref 0, houseD s nx os] none M = .ok d M' ∧ ItS d ∧ Fed ns R M' := by
  have hl : (os.map obN).length ≤ 100 := by rw [List.length_map]; exact H.ol
  obtain ⟨d, M', hd, e, hF⟩ := s_any n ns R M ((os.map obN ++ os.map obN) ++ [.int nx, .int (-1), .non, .bl true, .str "a", .tup [.int 0]]) hM (by simp) (by simp only [List.length_append]; show _ + _ + 6 ≤ _; omega)
  refine ⟨d, M', ?_, ?_, hF⟩
  · rw [r__law_some_number]
    simp_arith [b__law_some_number, houseD, q__law_some_number_0]
    rw [comp_okA Ob.d os Mw.SrcIs.vals obN (fun o => [some (.ref 0), some (.tup [schD s, .int nx, .tup (os.map Ob.d)]), none, some (.int o.n), some (.str o.c), some (.tup o.vs)]) (fun o _ => ⟨rfl, by simp_arith [obN]⟩)]
    simp_arith [addL_ok (m := false) (xs := os.map obN) (ys := os.map obN) (M := M) (lt_size _ (by omega)), addL_ok (m := false) (xs := os.map obN ++ os.map obN) (ys := [.int nx, .int (-1), .non, .bl true, .str "a", .tup [.int 0]]) (M := M) (lt_size _ (by simp only [List.length_append]; show _ + _ + 6 ≤ _; omega)), e]
  · rcases List.mem_append.mp hd with hd | hd
    · rcases List.mem_append.mp hd with hd | hd <;> exact its_obN H hd
    · simp only [List.mem_cons, List.not_mem_nil, or_false] at hd
      rcases hd with rfl | rfl | rfl | rfl | rfl | rfl
      · exact its_small (by omega)
      · exact its_small (by decide)
      · exact its_non
      · exact its_true
      · exact its_a
      · exact its_t0
theorem s_some_item (n : Nat) (ns : List Int) (R M : MH) (s : Sch) (nx : Int) (os : List Ob) (hM : Fed ns R M) (H : LOk s os) (hx : nx.natAbs < 1000) :
    ∃ d M', callN T sub (n + 3) 28 [.ref 0, houseD s nx os] none M = .ok d M' ∧ ItS d ∧ Fed ns R M' := by
  have hl : (os.map obN).length ≤ 100 := by rw [List.length_map]; exact H.ol
  let cs : List D := [.int 0, .int 1, .int 2, .int 3, .int 9, .int (-1), .non, .non, .bl true, .str "a", .int nx, .int 1000000000000000000000000000000]
  have hcl : cs.length = 12 := rfl
  obtain ⟨d, M', hd, e, hF⟩ := s_any n ns R M ((cs ++ os.map obN) ++ os.map obN) hM (by simp [cs]) (by simp only [List.length_append, hcl]; omega)
  have hp : ∀ M, binD false .Pow (.int 10) (.int 30) M = .ok (.int 1000000000000000000000000000000) M := fun M => rfl
  have a1 := addL_ok (m := false) (xs := cs) (ys := os.map obN) (M := M) (lt_size _ (by rw [hcl]; omega))
  have a2 := addL_ok (m := false) (xs := cs ++ os.map obN) (ys := os.map obN) (M := M) (lt_size _ (by rw [List.length_append, hcl]; omega))
  simp only [cs, List.cons_append, List.nil_append] at a1 a2 e
  refine ⟨d, M', ?_, ?_, hF⟩
  · rw [r__law_some_item]
    simp_arith [b__law_some_item, houseD, q__law_some_item_0]
    rw [comp_okA Ob.d os Mw.SrcIs.vals obN (fun o => [some (.ref 0), some (.tup [schD s, .int nx, .tup (os.map Ob.d)]), none, some (.int o.n), some (.str o.c), some (.tup o.vs)]) (fun o _ => ⟨rfl, by simp_arith [obN]⟩)]
    simp_arith [hp, a1, a2, e]
  · rcases List.mem_append.mp hd with hd | hd
    · rcases List.mem_append.mp hd with hd | hd
      · simp only [cs, List.mem_cons, List.not_mem_nil, or_false] at hd
        rcases hd with rfl | rfl | rfl | rfl | rfl | rfl | rfl | rfl | rfl | rfl | rfl | rfl
        · exact its_small (by decide)
        · exact its_small (by decide)
        · exact its_small (by decide)
        · exact its_small (by decide)
        · exact its_small (by decide)
        · exact its_small (by decide)
        · exact its_non
        · exact its_non
        · exact its_true
        · exact its_a
        · exact its_small (by omega)
        · exact its_int (by decide)
      · exact its_obN H hd
    · exact its_obN H hd
theorem sameI_eq {d : D} {i : Int} (hd : Ok 9 d) (M : MH) (h : (∃ j, d = .int j)) : cmpD .Eq (.int i) d M = some (sameI i d) := by
  obtain ⟨j, rfl⟩ := h
  rfl
theorem s_some_label (n : Nat) (ns : List Int) (R M : MH) (s : Sch) (nx : Int) (os : List Ob) (d : D) (hM : Fed ns R M) (hd : NumOk d) (H : LOk s os) :
    ∃ f J M', callN T sub (n + 3) 27 [.ref 0, houseD s nx os, d] none M = .ok f M' ∧ NaS f ∧ Fed ns (R ++ J) M' := by
  have odd : ∀ f ∈ ([.str "z", .str "", .non, .int 0, .tup [.str "k"]] : List D), NaS f := by
    intro f hf
    simp only [List.mem_cons, List.not_mem_nil, or_false] at hf
    rcases hf with rfl | rfl | rfl | rfl | rfl
    · exact nas_z
    · exact nas_e
    · exact nas_non
    · exact nas_0
    · exact nas_tk
  have mm := s_law_is_member (n + 1) s nx os d hd H.ol H.num M
  unfold houseD at mm
  rw [r__law_some_label]
  simp_arith [b__law_some_label, houseD, q__law_some_label_0]
  rw [comp_ok Ob.d os Mw.SrcIs.vals (fun o => (findOb os d).isSome && sameI o.n d) (fun o => .str o.c) (fun o => [some (.ref 0), some (.tup [schD s, .int nx, .tup (os.map Ob.d)]), some d, none, some (.str o.c), some (.int o.n), some (.tup o.vs), none, none]) (fun o _ => by
    refine ⟨rfl, ?_, fun _ => by simp_arith []⟩
    cases hfo : findOb os d with
    | none =>
      rw [hfo] at mm
      simp_arith [mm, Option.isSome_none]
    | some p =>
      obtain ⟨_, rfl⟩ := findOb_mem hfo
      rw [hfo] at mm
      simp_arith [mm, Option.isSome_some]
      rfl)]
  have hok : Ok 1 (.lst ((os.filter fun o => (findOb os d).isSome && sameI o.n d).map fun o => D.str o.c)) := .lst (fun e he => by
    obtain ⟨o, ho, rfl⟩ := List.mem_map.mp he
    exact ((H.obs o (List.mem_filter.mp ho).1).1).ok _) (by
      rw [List.length_map]
      have := List.length_filter_le (fun o => (findOb os d).isSome && sameI o.n d) os
      have := H.ol
      omega)
  simp_arith [ne_nilL (by omega) hok, List.isEmpty_map]
  cases hfo : findOb os d with
  | none =>
    have ef : (os.filter fun o => (Option.isSome (none : Option Ob)) && sameI o.n d) = [] := by
      rw [List.filter_eq_nil_iff]
      intro o _
      simp
    obtain ⟨f, M', hf, e, hF⟩ := s_any n ns R M (([D.str "k"] ++ [D.str "k"]) ++ [.str "z", .str "", .non, .int 0, .tup [.str "k"]]) hM (by simp) (by simp)
    simp only [List.cons_append, List.nil_append] at e
    have a1 := addL_ok (m := false) (xs := [D.str "k"]) (ys := [D.str "k"]) (M := M) (by decide)
    have a2 := addL_ok (m := false) (xs := [D.str "k", D.str "k"]) (ys := [.str "z", .str "", .non, .int 0, .tup [.str "k"]]) (M := M) (by decide)
    simp only [List.cons_append, List.nil_append] at a1 a2
    refine ⟨f, [], M', ?_, ?_, by simpa using hF⟩
    · rw [ef]
      simp_arith [List.map_nil, a1, a2, e]
    · rcases List.mem_append.mp hf with hf | hf
      · have : f = .str "k" := by simpa using hf
        rw [this]
        exact nas_name (by decide +kernel)
      · exact odd f hf
  | some o =>
    obtain ⟨ho, rfl⟩ := findOb_mem hfo
    obtain ⟨r, hr⟩ := filter_of_find (i := o.n) hfo
    have ef : (os.filter fun p => (Option.isSome (some o)) && sameI p.n (.int o.n)) = o :: r := by
      rw [← hr]
      rfl
    obtain ⟨hc, ⟨l, hl, hvl⟩, hvs⟩ := H.obs o ho
    have cl := (H.cls _ (lookS_mem hl)).2.2
    have hll : (l.map fun p => D.str p.1).length ≤ 20 := by rw [List.length_map]; exact cl.1
    obtain ⟨f, M', hf, e, hF⟩ := s_any n ns (R ++ [dictM lotD s]) (M ++ [dictM lotD s]) (((l.map fun p => D.str p.1) ++ (l.map fun p => D.str p.1)) ++ [.str "z", .str "", .non, .int 0, .tup [.str "k"]]) (fed_app hM) (by simp) (by simp only [List.length_append]; show _ + _ + 5 ≤ _; omega)
    have a1 := addL_ok (m := false) (xs := l.map fun p => D.str p.1) (ys := l.map fun p => D.str p.1) (M := M ++ [dictM lotD s]) (lt_size _ (by omega))
    have a2 := addL_ok (m := false) (xs := (l.map fun p => D.str p.1) ++ (l.map fun p => D.str p.1)) (ys := [.str "z", .str "", .non, .int 0, .tup [.str "k"]]) (M := M ++ [dictM lotD s]) (lt_size _ (by simp only [List.length_append]; show _ + _ + 5 ≤ _; omega))
    refine ⟨f, [dictM lotD s], M', ?_, ?_, hF⟩
    · rw [ef]
      simp_arith [List.map_cons, dict_sch H.nd, idx_dict (f := lotD) (s := s) (c := o.c) (M := M ++ [dictM lotD s]) get_end, hl, Option.map_some, lotD, q__law_some_label_1]
      rw [comp_okA fldD l Mw.SrcIs.vals (fun p => .str p.1) (fun p => [some (.ref 0), some (.tup [schD s, .int nx, .tup (os.map Ob.d)]), some (.int o.n), some (.lst (D.str o.c :: r.map fun o => D.str o.c)), none, none, none, some (.str p.1), some p.2.d]) (fun p _ => ⟨rfl, by simp_arith []⟩)]
      simp_arith [a1, a2, e]
    · have key : ∀ f ∈ l.map (fun p => D.str p.1), NaS f := by
        intro f hf
        obtain ⟨p, hp, rfl⟩ := List.mem_map.mp hf
        exact nas_name (cl.2.2 p hp).2.1
      rcases List.mem_append.mp hf with hf | hf
      · rcases List.mem_append.mp hf with hf | hf <;> exact key f hf
      · exact odd f hf
end Law
/-! P16: values to make with; makes. -/
namespace Law
open PySem PySem.Spec PyProof.Rows L2 Mj Mq
local macro_rules
  | `(tactic| simp_arith [$ls,*] $[at $l]?) => `(tactic| simp only [Mq.vr_ok, Mq.up_ok, Mq.tr_ok, Mq.td_ok, Mq.td_exc, Mq.td_bad, Mq.tru1_ok, Mq.tru1_exc, Mq.tru1_bad, Mq.tnot_ok, Mq.tnot_exc, Mq.tnot_bad, Mq.ev_var, Mq.ev_const, Mq.ev_glob, Mq.kBin2_ok, Mq.kBin2_exc, Mq.kBin2_bad, Mq.kBin1_ok, Mq.kBin1_exc, Mq.kBin1_bad, Mq.ev_bin, Mq.negD_int, Mq.kNeg_ok, Mq.kNeg_exc, Mq.kNeg_bad, Mq.ev_neg, Mq.kNotE_ok, Mq.kNotE_exc, Mq.ev_not, Mq.ev_and, Mq.ev_or, Mq.brA_ok, Mq.brO_ok, Mq.kAnd_ok, Mq.kAnd_exc, Mq.evAnd_1, Mq.evAnd_2, Mq.kAndT_ok, Mq.kAndT_exc, Mq.evAndT_1, Mq.evAndT_2, Mq.kOr_ok, Mq.kOr_exc, Mq.evOr_1, Mq.evOr_2, Mq.kOrT_ok, Mq.kOrT_exc, Mq.evOrT_1, Mq.evOrT_2, Mq.kCmp2_ok, Mq.kCmp2_exc, Mq.kCmp2_bad, Mq.kCmp1_ok, Mq.kCmp1_exc, Mq.kCmp1_bad, Mq.ev_cmp, Mq.evT_cmp, Mq.kCh4_ok, Mq.kCh4_exc, Mq.kCh4_bad, Mq.kCh3_ok, Mq.kCh2_ok, Mq.kCh2_exc, Mq.kCh2_bad, Mq.kCh1_ok, Mq.kCh1_exc, Mq.kCh1_bad, Mq.ev_chain, Mq.evT_chain, Mq.kIfe_ok, Mq.kIfe_exc, Mq.ev_ife, Mq.kTup_ok, Mq.kTup_exc, Mq.ev_tup, Mq.kLst_ok, Mq.kLst_exc, Mq.ev_lst, Mq.kDict_ok, Mq.ev_dict, Mq.kIdx2_ok, Mq.kIdx2_exc, Mq.kIdx2_bad, Mq.kIdx1_ok, Mq.kIdx1_exc, Mq.kIdx1_bad, Mq.ev_idx, Mq.kSl3_ok, Mq.kSl2_ok, Mq.kSl1_ok, Mq.kSl1_exc, Mq.kSl1_bad, Mq.ev_slice, Mq.revD_tup, Mq.kRev_ok, Mq.kRev_exc, Mq.kRev_bad, Mq.ev_revT, Mq.kCall_ok, Mq.kCall_exc, Mq.ev_call, Mq.kCallV_ok, Mq.ev_callV, Mq.kCallW_ok, Mq.ev_callW, Mq.kBi_ok, Mq.kBi_exc, Mq.ev_bi, Mq.kMeth2_ok, Mq.kMeth2_exc, Mq.kMeth1_ok, Mq.kMeth1_exc, Mq.kMeth1_bad, Mq.ev_meth, Mq.kComp_ok, Mq.ev_comp, Mq.kLam_ok, Mq.ev_lamcall, Mq.lzD_ok, Mq.kLz2_ok, Mq.kLz2_exc, Mq.kLz2_bad, Mq.kLz1_ok, Mq.kLz1_exc, Mq.kLz1_bad, Mq.ev_listZip, Mq.ev_ask, Mq.isX_ok, Mq.ev_isE, Mq.evT_isE, Mq.fldX_ok, Mq.ev_fldE, Mq.evT_not, Mq.evT_and, Mq.evT_or, Mq.evT_var, Mq.evT_call, Mq.evT_callV, Mq.evT_bi, Mq.evT_idx, Mq.kEs2_ok, Mq.kEs2_exc, Mq.kEs1_ok, Mq.kEs1_exc, Mq.evs_nil, Mq.evs_cons, Mq.intO_ok, Mq.kO_ok, Mq.evo_none, Mq.evo_some, Mq.evIf_none, Mq.evIf_some, Mq.srcX_ok, Mq.kSeq_ok, Mq.evI_seq, Mq.kRng1_ok, Mq.evI_rng1, Mq.kRng22_ok, Mq.kRng21_ok, Mq.evI_rng2, Mq.zipD_tup, Mq.zipD_lst, Mq.kZip2_ok, Mq.kZip1_ok, Mq.evI_zip, Mq.enumD_lst, Mq.kEnum_ok, Mq.evI_enum, Mq.kSet_ok, Mq.kSet_exc, Mq.exS_set, Mq.kPar2_ok, Mq.kPar2_exc, Mq.kPar1_ok, Mq.kPar1_exc, Mq.exS_par, Mq.bdR_ok, Mq.kUnp_ok, Mq.kUnp_exc, Mq.exS_unp, Mq.kIx2_ok, Mq.kIx2_exc, Mq.kIx1_ok, Mq.kIx1_exc, Mq.exS_setIx, Mq.kExp_ok, Mq.kExp_exc, Mq.exS_expr, Mq.kRet_ok, Mq.kRet_exc, Mq.exS_ret, Mq.kIfs_ok, Mq.kIfs_exc, Mq.exS_ifs, Mq.kFor_ok, Mq.kFor_exc, Mq.exS_for, Mq.kRaise_ok, Mq.kRaise_exc, Mq.exS_raise, Mq.kTryE_nx, Mq.kTryE_rt, Mq.kTry_nx, Mq.kTry_rt, Mq.kTry_xc, Mq.exS_tryAs, Mq.kSt_nx, Mq.kSt_rt, Mq.kSt_xc, Mq.exSs_nil, Mq.exSs_cons, Mq.fin_nx, Mq.fin_rt, Mq.fin_xc, Mq.fin_ite, Mq.kSt_ite, Mq.kRet_ite, Mq.kSet_ite, Mq.ite_and, Mq.ite_or, Mq.ite_andD, Mq.ite_orD, Mq.bare_mk, Mq.sz_0, Mq.sz_1, Mq.sz_2, Mq.sz_3, Mq.sz_4, Mq.sz_5, Mq.sz_6, Mq.sz_7, Mq.sz_8, Mq.sz_9, Mq.sz_10, Mq.sz_11, Mq.sz_12, Mw.tru_non, Mw.tru_bl, Mw.tru_int, Mw.tru_tup, Mw.tru_lst, Mw.getL_lst, Mw.resO_some, Mw.resO_none, Mw.newL_false, Mw.newL_true, Mw.cmp_eq_int, Mw.cmp_ne_int, Mw.cmp_lt_int, Mw.cmp_le_int, Mw.cmp_gt_int, Mw.cmp_ge_int, Mw.cmp_eq_str, Mw.cmp_ne_str, Mw.bq_len, Mw.bq_isi, Mw.bq_int, Mw.bq_str, Mw.bq_ord, Mw.bq_all, Mw.bq_list, Mw.bq_tuple, Mw.bq_dict, Mw.bq_sorted, Mw.bq_repr, Mw.bq_min, Mw.bq_max, Mw.len_tup, Mw.len_lst, Mw.int_int, Mw.tuple_lst, Mw.list_tup_f, Mw.list_lst_f, Mw.idx_tup, Mw.idx_lst, Mw.src_tup, Mw.src_lst, Mw.add_int, Mw.sub_int, Mw.atI_0, Mw.atI_1, Mw.atI_2, Mw.atI_3, Mw.atI_4, Mq.ii_int, Mq.ii_bl, Mq.ii_str, Mq.ii_non, Mq.ii_tup, Mq.ii_lst, Mq.ib_int, Mq.ib_bl, Mq.ib_str, Mq.ib_non, Mq.ib_tup, Mq.ib_lst, Mq.is_int, Mq.is_bl, Mq.is_str, Mq.is_non, Mq.is_tup, Mq.is_lst, Mq.it_int, Mq.it_bl, Mq.it_str, Mq.it_non, Mq.it_tup, Mq.it_lst, Mq.il_int, Mq.il_bl, Mq.il_str, Mq.il_non, Mq.il_tup, Mq.il_lst, Mq.cis_int, Mq.cis_bl, Mq.cis_str, Mq.cis_non, Mq.cis_tup, Mq.cis_lst, Mq.cnis_int, Mq.cnis_bl, Mq.cnis_str, Mq.cnis_non, Mq.cnis_tup, Mq.cnis_lst, Mj.bindT, Mj.bindTs, Mj.wipeR, Mj.Tg.own, Mj.Tgs.own, List.getElem?_cons_zero, List.getElem?_cons_succ, List.set_cons_zero, List.set_cons_succ, if_true, Bool.false_eq_true, if_false, ite_false, ite_true, List.length_cons, List.length_nil, List.cons_append, List.nil_append, Bool.not_true, Bool.not_false, Bool.and_true, Bool.true_and, Bool.false_and, Bool.and_false, Bool.or_true, Bool.true_or, Bool.or_false, Bool.false_or, Bool.not_not, Nat.zero_add, and_self, Mj.pickAll, List.isEmpty_cons, List.isEmpty_nil, Nat.reduceAdd, Nat.reduceLeDiff, Nat.reduceEqDiff, eq_self, Int.reduceLT, Int.reduceLE, Int.reduceAdd, Int.reduceSub, Int.reduceToNat, decide_true, decide_false, Int.reduceNeg, Nat.reduceSub, $ls,*] $[at $l]?)
theorem get_dict {α : Type} {f : α → D} {s : List (Str × α)} {n : Nat} {c : Str} {d : D} {M : MH} (h : M[n]? = some (dictM f s)) : mtD "get" (.ref n) [.str c, d] M = .ok (((lookS s c).map f).getD d) M := by
  rw [mt_get, ← lookK_map]
  simp only [mtGet, getDict, h, dictM, keyOf]
theorem kind_dict {α : Type} {f : α → D} {s : List (Str × α)} {n : Nat} {M : MH} (h : M[n]? = some (dictM f s)) : mtKind "get" (.ref n) M = true := by
  simp only [mtKind, getDict, h, dictM]
  rfl
theorem eq_nilT {n : Nat} {xs : List D} {M : MH} (hn : n ≤ 60) (h : Ok n (.tup xs)) : cmpD .Eq (.tup xs) (.tup []) M = some xs.isEmpty := by
  rw [cmpEq_ok hn (m := 1) (by omega) h (okB_ok 1 _ rfl)]
  cases xs <;> rfl
theorem fitV_its {s : Sch} {nx : Int} {os : List Ob} (h : HouseP s nx os) {k : Kd} (hk : KdP (s.map (·.1)) k) {v : D} (hv : FitV (os.map fun o => (o.n, o.c)) k v) : ItS v := by
  cases k with
  | rng lo hi =>
    obtain ⟨i, rfl, h1, h2⟩ := hv
    obtain ⟨_, h3, h4⟩ := hk
    exact its_small (by omega)
  | cls c =>
    rcases hv with rfl | ⟨i, rfl, hi⟩
    · exact its_non
    · obtain ⟨o, ho, e⟩ := List.mem_map.mp hi
      cases e
      have := h.num o ho
      have := h.nx
      exact its_small (by omega)
theorem cut_last {xs : List D} : ∀ v ∈ Mj.cutD xs (some (-1)) none, v ∈ xs := by
  intro v hv
  unfold Mj.cutD at hv
  exact List.mem_of_mem_drop (List.mem_of_mem_take hv)
theorem len_last (xs : List D) : (Mj.cutD xs (some (-1)) none).length ≤ 1 := by
  unfold Mj.cutD
  rw [HT.sIx_none, List.length_take, List.length_drop]
  have : HT.sIx xs.length 0 (some (-1)) = ((-1 : Int) + xs.length).toNat := rfl
  omega
theorem its_ok {vs : List D} (h : ∀ v ∈ vs, ItS v) (hl : vs.length ≤ 20) : Ok 3 (.tup vs) := .tup (fun v hv => (h v hv).1.ok) (by omega)
theorem s_some_lots (n : Nat) (ns : List Int) (R M : MH) (s : Sch) (nx : Int) (os : List Ob) (own : Str) (hM : Fed ns R M) (hP : HouseP s nx os) (h0 : 0 ≤ nx) :
    ∃ vs J M', callN T sub (n + 5) 29 [.ref 0, houseD s nx os, .str own] none M = .ok (.tup vs) M' ∧ (∀ v ∈ vs, ItS v) ∧ vs.length ≤ 5 ∧ Fed ns (R ++ J) M' := by
  have H := hP.lok h0
  have hx : nx.natAbs < 1000 := by have := hP.nx; omega
  rw [r__law_some_lots]
  simp_arith [b__law_some_lots, houseD, q__law_some_lots_0]
  let ms := os.map fun o => (o.n, o.c)
  have hms : ms.length ≤ 100 := by rw [List.length_map]; exact H.ol
  rw [comp_okA Ob.d os Mw.SrcIs.vals (fun o => memD (o.n, o.c)) (fun o => [some (.ref 0), some (.tup [schD s, .int nx, .tup (os.map Ob.d)]), some (.str own), none, some (.tup o.vs), none, none, none, some (.int o.n), some (.str o.c)]) (fun o _ => ⟨rfl, by simp_arith [memD]⟩)]
  have em : (os.map fun o => memD (o.n, o.c)) = ms.map memD := by
    rw [List.map_map]
    rfl
  rw [em]
  let l : Lot := (lookS s own).getD []
  have hl : ((lookS s own).map lotD).getD (.tup []) = lotD l := by
    show _ = lotD ((lookS s own).getD [])
    cases lookS s own <;> rfl
  have hlk : (∀ f ∈ l, KdP (s.map (·.1)) f.2) ∧ l.length ≤ 4 := by
    show (∀ f ∈ (lookS s own).getD [], _) ∧ ((lookS s own).getD []).length ≤ 4
    cases h : lookS s own with
    | none => simp
    | some l =>
      have := hP.sch.lot _ (lookS_mem h)
      exact ⟨this.kd, this.len⟩
  obtain ⟨vs, M1, e1, hv, hF1⟩ := s_values n ns (R ++ [dictM lotD s]) (M ++ [dictM lotD s]) (s.map (·.1)) l ms (fed_app hM) hlk.1 hms
  have hvs : ∀ v ∈ vs, ItS v := hv.all fun f hf v h => fitV_its hP (hlk.1 f hf) h
  have hvl : vs.length ≤ 4 := by rw [hv.1]; exact hlk.2
  have hok := its_ok hvs (by omega)
  simp_arith [dict_sch H.nd, kind_dict (f := lotD) (s := s) (n := M.length) (M := M ++ [dictM lotD s]) get_end, get_dict (f := lotD) (s := s) (n := M.length) (M := M ++ [dictM lotD s]) get_end, hl, e1]
  obtain ⟨w, M2, e2, hF2, w0, w1⟩ := s_draw (n + 3) ns _ M1 6 hF1 (by omega)
  simp_arith [e2, eq_nilT (by omega) hok]
  cases hc : (decide (w < 3) || vs.isEmpty) with
  | true =>
    simp_arith []
    have a1 := addT_ok (m := false) (xs := vs) (ys := [.int 0]) (M := M2) (lt_size _ (by show vs.length + 1 ≤ _; omega))
    by_cases h5 : w = 5
    · refine ⟨vs ++ [.int 0], [dictM lotD s], M2, ?_, ?_, by rw [List.length_append]; show _ + 1 ≤ _; omega, hF2⟩
      · simp_arith [show (w == 5) = true by simp [h5], a1]
      · intro v hv
        rcases List.mem_append.mp hv with hv | hv
        · exact hvs v hv
        · rw [List.mem_singleton.mp hv]; exact its_small (by decide)
    · refine ⟨vs, [dictM lotD s], M2, ?_, hvs, by omega, hF2⟩
      simp_arith [beq_eq_false_iff_ne.mpr h5]
  | false =>
    rw [Bool.or_eq_false_iff] at hc
    obtain ⟨hw, hne⟩ := hc
    have hw3 : 3 ≤ w := by
      have := of_decide_eq_false hw
      omega
    have hpos : 0 < vs.length := by cases vs <;> simp_all
    obtain ⟨a, M3, e3, hF3, a0, a1⟩ := s_draw (n + 3) ns _ M2 vs.length hF2 (by omega)
    obtain ⟨k, rfl⟩ := Int.eq_ofNat_of_zero_le a0
    have hk : k < vs.length := by omega
    let u1 : List D := vs.take k
    let u2 : List D := vs ++ Mj.cutD vs (some (-1)) none
    have sl : ∀ M, sliceD false (.tup vs) none (some (k : Int)) M = .ok (.tup u1) M := fun M => by
      show Res.ok (D.tup (Mj.cutD _ none _)) _ = _
      rw [cut_to]
    have sm : ∀ M, sliceD false (.tup vs) (some (-1)) none M = .ok (.tup (Mj.cutD vs (some (-1)) none)) M := fun M => rfl
    have sr : ∀ M, sliceD false (.tup vs) (some ((k : Int) + 1)) none M = .ok (.tup (vs.drop (k + 1))) M := fun M => by
      show Res.ok (D.tup (Mj.cutD _ (some ((k + 1 : Nat) : Int)) none)) _ = _
      rw [cut_from]
    have a2 : ∀ M, binD false .Add (.tup vs) (.tup (Mj.cutD vs (some (-1)) none)) M = .ok (.tup u2) M := fun M => addT_ok (lt_size _ (by have := len_last vs; omega))
    obtain ⟨hF4, hl4⟩ := fed_new (o := .lst [.tup u1, .tup u2]) hF3
    obtain ⟨v, M5, e5, hv5, hF5⟩ := s_some_item (n + 1) ns _ (M3 ++ [.lst [.tup u1, .tup u2]]) s nx os hF4 H hx
    unfold houseD at e5
    have g5 := fed_get (A := R ++ [dictM lotD s]) (J := []) hF5
    let u3 : List D := vs.take k ++ [v] ++ vs.drop (k + 1)
    have a3 : ∀ M, binD false .Add (.tup u1) (.tup [v]) M = .ok (.tup (u1 ++ [v])) M := fun M => addT_ok (lt_size _ (by show (vs.take k).length + 1 ≤ _; rw [List.length_take]; omega))
    have a4 : ∀ M, binD false .Add (.tup (u1 ++ [v])) (.tup (vs.drop (k + 1))) M = .ok (.tup u3) M := fun M => addT_ok (lt_size _ (by show (vs.take k ++ [v]).length + _ ≤ _; rw [List.length_append, List.length_take, List.length_drop]; show _ + 1 + _ ≤ _; omega))
    have km : mtKind "append" (.ref M3.length) (M3 ++ [.lst [.tup u1, .tup u2]]) = true := kind_lst (n := M3.length) get_end (by decide) (by decide)
    have ap : mtD "append" (.ref M3.length) [.tup u3] M5 = .ok .non (M5.set M3.length (.lst [.tup u1, .tup u2, .tup u3])) := by
      rw [hl4]
      exact append_ok g5 (by show 2 < sizeLine; decide)
    have hF6 : Fed ns ((R ++ [dictM lotD s]) ++ [.lst [.tup u1, .tup u2, .tup u3]]) (M5.set M3.length (.lst [.tup u1, .tup u2, .tup u3])) := by
      rw [hl4]
      exact fed_set (A := R ++ [dictM lotD s]) (J := []) hF5
    have g6 : (M5.set M3.length (.lst [.tup u1, .tup u2, .tup u3]))[M3.length]? = some (.lst [.tup u1, .tup u2, .tup u3]) := by
      have := fed_get (A := R ++ [dictM lotD s]) (J := []) hF6
      rw [← hl4] at this
      exact this
    have hw1 : ∀ x ∈ u1, ItS x := fun x hx => hvs x (List.mem_of_mem_take hx)
    have hw2 : ∀ x ∈ u2, ItS x := fun x hx => by
      rcases List.mem_append.mp hx with hx | hx
      · exact hvs x hx
      · exact hvs x (cut_last x hx)
    have hw3' : ∀ x ∈ u3, ItS x := fun x hx => by
      rcases List.mem_append.mp hx with hx | hx
      · rcases List.mem_append.mp hx with hx | hx
        · exact hvs x (List.mem_of_mem_take hx)
        · rw [List.mem_singleton.mp hx]; exact hv5
      · exact hvs x (List.mem_of_mem_drop hx)
    have l1 : u1.length ≤ 5 := by show (vs.take k).length ≤ 5; rw [List.length_take]; omega
    have l2 : u2.length ≤ 5 := by
      show (vs ++ Mj.cutD vs (some (-1)) none).length ≤ 5
      rw [List.length_append]
      have := len_last vs
      omega
    have l3 : u3.length ≤ 5 := by
      show (vs.take k ++ [v] ++ vs.drop (k + 1)).length ≤ 5
      rw [List.length_append, List.length_append, List.length_take, List.length_drop]
      show _ + 1 + _ ≤ _
      omega
    have hw345 : w = 3 ∨ w = 4 ∨ w = 5 := by omega
    rcases hw345 with rfl | rfl | rfl
    · refine ⟨u1, [dictM lotD s] ++ [.lst [.tup u1, .tup u2, .tup u3]], _, ?_, hw1, l1, by rw [← List.append_assoc]; exact hF6⟩
      simp_arith [e3, sl, sm, sr, a2, a3, a4, e5, km, ap, idx_ref g6]
    · refine ⟨u2, [dictM lotD s] ++ [.lst [.tup u1, .tup u2, .tup u3]], _, ?_, hw2, l2, by rw [← List.append_assoc]; exact hF6⟩
      simp_arith [e3, sl, sm, sr, a2, a3, a4, e5, km, ap, idx_ref g6]
    · refine ⟨u3, [dictM lotD s] ++ [.lst [.tup u1, .tup u2, .tup u3]], _, ?_, hw3', l3, by rw [← List.append_assoc]; exact hF6⟩
      simp_arith [e3, sl, sm, sr, a2, a3, a4, e5, km, ap, idx_ref g6]
theorem s_make (n : Nat) (s : Sch) (nx : Int) (os : List Ob) (d : D) (vs : List D) (hd : plain d = true) (hf : fits d) (hv : ∀ v ∈ vs, ItS v) (hl : vs.length ≤ 5) (H : HOk s os) (M : MH) :
    callN T sub (n + 4) 30 [houseD s nx os, d, .tup vs] none M = toRx (madeE s nx os d vs) (M ++ [dictM lotD s]) := by
  have hs := s_made n s nx os d vs hd hf (fun v h => (hv v h).plain) (by omega) H M
  have hok := its_ok hv (by omega)
  rw [r__law_make]
  have fin : ∀ e : Except XV D, ∀ M, Mw.fin (kSt .nil ⟨callN T sub (n + 3), noAsk, none, sub⟩ (kRet [some (houseD s nx os), some d, some (.tup vs)] (toRx e M))) = toRx e M := by
    intro e M
    cases e <;> rfl
  have fin2 : ∀ (r : Ss) (e : Except XV D), ∀ M, Mw.fin (kSt r ⟨callN T sub (n + 3), noAsk, none, sub⟩ (kSt .nil ⟨callN T sub (n + 3), noAsk, none, sub⟩ (kRet [some (houseD s nx os), some d, some (.tup vs)] (toRx e M)))) = toRx e M := by
    intro r e M
    cases e <;> rfl
  match vs, hl with
  | [], _ => simp_arith [b__law_make, eq_nilT (by omega) hok, hs, fin2]
  | [a], _ => simp_arith [b__law_make, eq_nilT (by omega) hok, show (((1 : Nat) : Int) == 1) = true from rfl, hs, fin2]
  | [a, b], _ => simp_arith [b__law_make, eq_nilT (by omega) hok, show (((2 : Nat) : Int) == 1) = false from rfl, show (((2 : Nat) : Int) == 2) = true from rfl, hs, fin2]
  | [a, b, c], _ => simp_arith [b__law_make, eq_nilT (by omega) hok, show (((3 : Nat) : Int) == 1) = false from rfl, show (((3 : Nat) : Int) == 2) = false from rfl, show (((3 : Nat) : Int) == 3) = true from rfl, hs, fin2]
  | [a, b, c, e], _ => simp_arith [b__law_make, eq_nilT (by omega) hok, show (((4 : Nat) : Int) == 1) = false from rfl, show (((4 : Nat) : Int) == 2) = false from rfl, show (((4 : Nat) : Int) == 3) = false from rfl, show (((4 : Nat) : Int) == 4) = true from rfl, hs, fin2]
  | [a, b, c, e, f], _ => simp_arith [b__law_make, eq_nilT (by omega) hok, show (((5 : Nat) : Int) == 1) = false from rfl, show (((5 : Nat) : Int) == 2) = false from rfl, show (((5 : Nat) : Int) == 3) = false from rfl, show (((5 : Nat) : Int) == 4) = false from rfl, hs, fin]
  | _ :: _ :: _ :: _ :: _ :: _ :: _, h => simp at h
end Law
/-! P17: makes and other steps are right. -/
namespace Law
open PySem PySem.Spec PyProof.Rows L2 Mj Mq
local macro_rules
  | `(tactic| simp_arith [$ls,*] $[at $l]?) => `(tactic| simp only [Mq.vr_ok, Mq.up_ok, Mq.tr_ok, Mq.td_ok, Mq.td_exc, Mq.td_bad, Mq.tru1_ok, Mq.tru1_exc, Mq.tru1_bad, Mq.tnot_ok, Mq.tnot_exc, Mq.tnot_bad, Mq.ev_var, Mq.ev_const, Mq.ev_glob, Mq.kBin2_ok, Mq.kBin2_exc, Mq.kBin2_bad, Mq.kBin1_ok, Mq.kBin1_exc, Mq.kBin1_bad, Mq.ev_bin, Mq.negD_int, Mq.kNeg_ok, Mq.kNeg_exc, Mq.kNeg_bad, Mq.ev_neg, Mq.kNotE_ok, Mq.kNotE_exc, Mq.ev_not, Mq.ev_and, Mq.ev_or, Mq.brA_ok, Mq.brO_ok, Mq.kAnd_ok, Mq.kAnd_exc, Mq.evAnd_1, Mq.evAnd_2, Mq.kAndT_ok, Mq.kAndT_exc, Mq.evAndT_1, Mq.evAndT_2, Mq.kOr_ok, Mq.kOr_exc, Mq.evOr_1, Mq.evOr_2, Mq.kOrT_ok, Mq.kOrT_exc, Mq.evOrT_1, Mq.evOrT_2, Mq.kCmp2_ok, Mq.kCmp2_exc, Mq.kCmp2_bad, Mq.kCmp1_ok, Mq.kCmp1_exc, Mq.kCmp1_bad, Mq.ev_cmp, Mq.evT_cmp, Mq.kCh4_ok, Mq.kCh4_exc, Mq.kCh4_bad, Mq.kCh3_ok, Mq.kCh2_ok, Mq.kCh2_exc, Mq.kCh2_bad, Mq.kCh1_ok, Mq.kCh1_exc, Mq.kCh1_bad, Mq.ev_chain, Mq.evT_chain, Mq.kIfe_ok, Mq.kIfe_exc, Mq.ev_ife, Mq.kTup_ok, Mq.kTup_exc, Mq.ev_tup, Mq.kLst_ok, Mq.kLst_exc, Mq.ev_lst, Mq.kDict_ok, Mq.ev_dict, Mq.kIdx2_ok, Mq.kIdx2_exc, Mq.kIdx2_bad, Mq.kIdx1_ok, Mq.kIdx1_exc, Mq.kIdx1_bad, Mq.ev_idx, Mq.kSl3_ok, Mq.kSl2_ok, Mq.kSl1_ok, Mq.kSl1_exc, Mq.kSl1_bad, Mq.ev_slice, Mq.revD_tup, Mq.kRev_ok, Mq.kRev_exc, Mq.kRev_bad, Mq.ev_revT, Mq.kCall_ok, Mq.kCall_exc, Mq.ev_call, Mq.kCallV_ok, Mq.ev_callV, Mq.kCallW_ok, Mq.ev_callW, Mq.kBi_ok, Mq.kBi_exc, Mq.ev_bi, Mq.kMeth2_ok, Mq.kMeth2_exc, Mq.kMeth1_ok, Mq.kMeth1_exc, Mq.kMeth1_bad, Mq.ev_meth, Mq.kComp_ok, Mq.ev_comp, Mq.kLam_ok, Mq.ev_lamcall, Mq.lzD_ok, Mq.kLz2_ok, Mq.kLz2_exc, Mq.kLz2_bad, Mq.kLz1_ok, Mq.kLz1_exc, Mq.kLz1_bad, Mq.ev_listZip, Mq.ev_ask, Mq.isX_ok, Mq.ev_isE, Mq.evT_isE, Mq.fldX_ok, Mq.ev_fldE, Mq.evT_not, Mq.evT_and, Mq.evT_or, Mq.evT_var, Mq.evT_call, Mq.evT_callV, Mq.evT_bi, Mq.evT_idx, Mq.kEs2_ok, Mq.kEs2_exc, Mq.kEs1_ok, Mq.kEs1_exc, Mq.evs_nil, Mq.evs_cons, Mq.intO_ok, Mq.kO_ok, Mq.evo_none, Mq.evo_some, Mq.evIf_none, Mq.evIf_some, Mq.srcX_ok, Mq.kSeq_ok, Mq.evI_seq, Mq.kRng1_ok, Mq.evI_rng1, Mq.kRng22_ok, Mq.kRng21_ok, Mq.evI_rng2, Mq.zipD_tup, Mq.zipD_lst, Mq.kZip2_ok, Mq.kZip1_ok, Mq.evI_zip, Mq.enumD_lst, Mq.kEnum_ok, Mq.evI_enum, Mq.kSet_ok, Mq.kSet_exc, Mq.exS_set, Mq.kPar2_ok, Mq.kPar2_exc, Mq.kPar1_ok, Mq.kPar1_exc, Mq.exS_par, Mq.bdR_ok, Mq.kUnp_ok, Mq.kUnp_exc, Mq.exS_unp, Mq.kIx2_ok, Mq.kIx2_exc, Mq.kIx1_ok, Mq.kIx1_exc, Mq.exS_setIx, Mq.kExp_ok, Mq.kExp_exc, Mq.exS_expr, Mq.kRet_ok, Mq.kRet_exc, Mq.exS_ret, Mq.kIfs_ok, Mq.kIfs_exc, Mq.exS_ifs, Mq.kFor_ok, Mq.kFor_exc, Mq.exS_for, Mq.kRaise_ok, Mq.kRaise_exc, Mq.exS_raise, Mq.kTryE_nx, Mq.kTryE_rt, Mq.kTry_nx, Mq.kTry_rt, Mq.kTry_xc, Mq.exS_tryAs, Mq.kSt_nx, Mq.kSt_rt, Mq.kSt_xc, Mq.exSs_nil, Mq.exSs_cons, Mq.fin_nx, Mq.fin_rt, Mq.fin_xc, Mq.fin_ite, Mq.kSt_ite, Mq.kRet_ite, Mq.kSet_ite, Mq.ite_and, Mq.ite_or, Mq.ite_andD, Mq.ite_orD, Mq.bare_mk, Mq.sz_0, Mq.sz_1, Mq.sz_2, Mq.sz_3, Mq.sz_4, Mq.sz_5, Mq.sz_6, Mq.sz_7, Mq.sz_8, Mq.sz_9, Mq.sz_10, Mq.sz_11, Mq.sz_12, Mw.tru_non, Mw.tru_bl, Mw.tru_int, Mw.tru_tup, Mw.tru_lst, Mw.getL_lst, Mw.resO_some, Mw.resO_none, Mw.newL_false, Mw.newL_true, Mw.cmp_eq_int, Mw.cmp_ne_int, Mw.cmp_lt_int, Mw.cmp_le_int, Mw.cmp_gt_int, Mw.cmp_ge_int, Mw.cmp_eq_str, Mw.cmp_ne_str, Mw.bq_len, Mw.bq_isi, Mw.bq_int, Mw.bq_str, Mw.bq_ord, Mw.bq_all, Mw.bq_list, Mw.bq_tuple, Mw.bq_dict, Mw.bq_sorted, Mw.bq_repr, Mw.bq_min, Mw.bq_max, Mw.len_tup, Mw.len_lst, Mw.int_int, Mw.tuple_lst, Mw.list_tup_f, Mw.list_lst_f, Mw.idx_tup, Mw.idx_lst, Mw.src_tup, Mw.src_lst, Mw.add_int, Mw.sub_int, Mw.atI_0, Mw.atI_1, Mw.atI_2, Mw.atI_3, Mw.atI_4, Mq.ii_int, Mq.ii_bl, Mq.ii_str, Mq.ii_non, Mq.ii_tup, Mq.ii_lst, Mq.ib_int, Mq.ib_bl, Mq.ib_str, Mq.ib_non, Mq.ib_tup, Mq.ib_lst, Mq.is_int, Mq.is_bl, Mq.is_str, Mq.is_non, Mq.is_tup, Mq.is_lst, Mq.it_int, Mq.it_bl, Mq.it_str, Mq.it_non, Mq.it_tup, Mq.it_lst, Mq.il_int, Mq.il_bl, Mq.il_str, Mq.il_non, Mq.il_tup, Mq.il_lst, Mq.cis_int, Mq.cis_bl, Mq.cis_str, Mq.cis_non, Mq.cis_tup, Mq.cis_lst, Mq.cnis_int, Mq.cnis_bl, Mq.cnis_str, Mq.cnis_non, Mq.cnis_tup, Mq.cnis_lst, Mj.bindT, Mj.bindTs, Mj.wipeR, Mj.Tg.own, Mj.Tgs.own, List.getElem?_cons_zero, List.getElem?_cons_succ, List.set_cons_zero, List.set_cons_succ, if_true, Bool.false_eq_true, if_false, ite_false, ite_true, List.length_cons, List.length_nil, List.cons_append, List.nil_append, Bool.not_true, Bool.not_false, Bool.and_true, Bool.true_and, Bool.false_and, Bool.and_false, Bool.or_true, Bool.true_or, Bool.or_false, Bool.false_or, Bool.not_not, Nat.zero_add, and_self, Mj.pickAll, List.isEmpty_cons, List.isEmpty_nil, Nat.reduceAdd, Nat.reduceLeDiff, Nat.reduceEqDiff, eq_self, Int.reduceLT, Int.reduceLE, Int.reduceAdd, Int.reduceSub, Int.reduceToNat, decide_true, decide_false, Int.reduceNeg, Nat.reduceSub, $ls,*] $[at $l]?)
theorem s_out {n : Nat} {b : C} {E : EvC} {ρ : Rho} {e : Except XV D} {M M' : MH} (h : ev b E.bare ρ M = toRx e M') (he : ErrOk e) : callN T sub (n + 1) 19 [] (some (lamA b E ρ)) M = .ok (outD e) M' := s_outcome n _ e M M' h he
theorem mul2 {xs : List D} {M : MH} (h : xs.length ≤ 1000) : binD false .Mult (.lst xs) (.int 2) M = .ok (.lst (xs ++ xs)) M := by
  have e : (List.replicate (2 : Int).toNat xs).flatten = xs ++ xs := by simp [List.replicate]
  simp only [binD, getL]
  rw [if_pos ⟨by omega, lt_size _ (by show xs.length * 2 ≤ _; omega)⟩, e]
  rfl
theorem s_making_right (n : Nat) (ns : List Int) (R M : MH) (s : Sch) (nx : Int) (os : List Ob) (hM : Fed ns R M) (hP : HouseP s nx os) (h0 : 0 ≤ nx) :
    ∃ J M', callN T sub (n + 6) 31 [.ref 0, houseD s nx os] none M = .ok (.bl true) M' ∧ Fed ns (R ++ J) M' := by
  have H := hP.lok h0
  have hx : nx.natAbs < 1000 := by have := hP.nx; omega
  have hsl : (s.map fun c => D.str c.1).length ≤ 20 := by rw [List.length_map]; exact H.sl
  let xs : List D := ((s.map fun c => D.str c.1) ++ (s.map fun c => D.str c.1)) ++ [.str "zz", .str "", .non, .int 0]
  obtain ⟨d, M1, hd, e1, hF1⟩ := s_any (n + 3) ns R M xs hM (by simp [xs]) (by simp only [xs, List.length_append]; show _ + _ + 4 ≤ _; omega)
  have a1 := addL_ok (m := false) (xs := (s.map fun c => D.str c.1) ++ (s.map fun c => D.str c.1)) (ys := [.str "zz", .str "", .non, .int 0]) (M := M) (lt_size _ (by simp only [List.length_append]; show _ + _ + 4 ≤ _; omega))
  simp only [xs] at e1
  have hna : NaS d := by
    have key : ∀ f ∈ s.map (fun p => D.str p.1), NaS f := by
      intro f hf
      obtain ⟨p, hp, rfl⟩ := List.mem_map.mp hf
      exact nas_name (H.cls p hp).2.1
    rcases List.mem_append.mp hd with hd | hd
    · rcases List.mem_append.mp hd with hd | hd <;> exact key d hd
    · simp only [List.mem_cons, List.not_mem_nil, or_false] at hd
      rcases hd with rfl | rfl | rfl | rfl
      · exact nas_zz
      · exact nas_e
      · exact nas_non
      · exact nas_0
  rw [r__law_making_right]
  simp_arith [b__law_making_right, houseD, schD, q__law_making_right_0]
  rw [comp_okA clsD s Mw.SrcIs.vals (fun c => .str c.1) (fun c => [some (.ref 0), some (.tup [.tup (s.map clsD), .int nx, .tup (os.map Ob.d)]), none, none, some (.str c.1), some (lotD c.2)]) (fun c _ => ⟨rfl, by simp_arith []⟩)]
  simp_arith [mul2 (xs := s.map fun c => D.str c.1) (M := M) (by omega), a1, e1]
  have key : ∀ own : Str, (kIfe (.var 2) (.const (.str "zz")) ⟨callN T sub (n + 5), noAsk, none, sub⟩ [some (.ref 0), some (.tup [.tup (s.map clsD), .int nx, .tup (os.map Ob.d)]), some d, none, none, none] (tru1 (up (biIsi [d, .ty "str"] M1))) = .ok (.str own) M1) → ∃ J M', Mw.fin (kSt (.cons (.ret (.cmp .Eq (.bi false "repr" (.cons (.lamcall 19 (.call 30 (.cons (.var 1) (.cons (.var 2) (.cons (.var 3) .nil))))) .nil)) (.bi false "repr" (.cons (.call 22 (.cons (.var 1) (.cons (.var 2) (.cons (.var 3) .nil)))) .nil)))) .nil) ⟨callN T sub (n + 5), noAsk, none, sub⟩ (kSet 3 [some (.ref 0), some (.tup [.tup (s.map clsD), .int nx, .tup (os.map Ob.d)]), some d, none, none, none] (kCall 29 ⟨callN T sub (n + 5), noAsk, none, sub⟩ (kEs2 (.ref 0) (kEs2 (.tup [.tup (s.map clsD), .int nx, .tup (os.map Ob.d)]) (.ok [.str own] M1)))))) = .ok (.bl true) M' ∧ Fed ns (R ++ J) M' := by
    intro own _
    obtain ⟨vs, J2, M2, e2, hvs, hvl, hF2⟩ := s_some_lots n ns R M1 s nx os own hF1 hP h0
    unfold houseD schD at e2
    obtain ⟨hsz, herr⟩ := made_sz (s := s) (nx := nx) (os := os) (d := d) (vs := vs) H hx hna.1 hvs (by omega)
    have mk := s_make n s nx os d vs hna.1.ok.plain hna.1.ok.fits hvs hvl H.toHOk M2
    unfold houseD schD at mk
    have o1 := s_out (n := n + 4) (b := .call 30 (.cons (.var 1) (.cons (.var 2) (.cons (.var 3) .nil)))) (E := ⟨callN T sub (n + 5), noAsk, none, sub⟩) (ρ := [some (.ref 0), some (.tup [.tup (s.map clsD), .int nx, .tup (os.map Ob.d)]), some d, some (.tup vs), none, none]) (M := M2) (M' := M2 ++ [dictM lotD s]) (e := madeE s nx os d vs) (by
      have mk' := s_make (n + 1) s nx os d vs hna.1.ok.plain hna.1.ok.fits hvs hvl H.toHOk M2
      unfold houseD schD at mk'
      simp_arith [mk']) herr
    obtain ⟨J3, md⟩ := s_made_due (n + 2) s nx os d vs hna.2 (fun v h => (hvs v h).plain) (by omega) H.toHOk (M2 ++ [dictM lotD s])
    unfold houseD schD at md
    refine ⟨J2 ++ [dictM lotD s] ++ J3, M2 ++ [dictM lotD s] ++ J3, ?_, ?_⟩
    · simp_arith [e2, o1, hsz.repr (by omega) (by omega), md, decide_true]
    · have := fed_app (J := J3) (fed_app (J := [dictM lotD s]) hF2)
      simpa [List.append_assoc] using this
  have hown : ∃ own : Str, kIfe (.var 2) (.const (.str "zz")) ⟨callN T sub (n + 5), noAsk, none, sub⟩ [some (.ref 0), some (.tup [.tup (s.map clsD), .int nx, .tup (os.map Ob.d)]), some d, none, none, none] (tru1 (up (biIsi [d, .ty "str"] M1))) = .ok (.str own) M1 := by
    have hp := hna.1.ok.plain
    cases d with
    | str x => exact ⟨x, by simp_arith []⟩
    | _ => first | exact ⟨"zz", by simp_arith []⟩ | cases hp
  obtain ⟨own, ho⟩ := hown
  rw [ho]
  simp_arith []
  have := key own ho
  simp_arith [] at this
  exact this
theorem s_others_right (n : Nat) (ns : List Int) (R M : MH) (s : Sch) (nx : Int) (os : List Ob) (hM : Fed ns R M) (hP : HouseP s nx os) (h0 : 0 ≤ nx) :
    ∃ J M', callN T sub (n + 6) 32 [.ref 0, houseD s nx os] none M = .ok (.bl true) M' ∧ Fed ns (R ++ J) M' := by
  have H := hP.lok h0
  have hx : nx.natAbs < 1000 := by have := hP.nx; omega
  obtain ⟨d, M1, e1, hd, hF1⟩ := s_some_number (n + 2) ns R M s nx os hM H hx
  obtain ⟨f, J2, M2, e2, hf, hF2⟩ := s_some_label (n + 2) ns R M1 s nx os d hF1 hd.2 H
  obtain ⟨v, M3, e3, hv, hF3⟩ := s_some_item (n + 2) ns _ M2 s nx os hF2 H hx
  obtain ⟨J4, e4⟩ := s_written_due (n + 2) s nx os d f v hd.2 hf.2 hv.plain H M3
  obtain ⟨hsz, herr⟩ := written_sz (s := s) (nx := nx) (os := os) (d := d) (f := f) (v := v) H hx hd.1 hf.1 hv.1
  obtain ⟨hsz2, herr2⟩ := dropped_sz (s := s) (nx := nx) (os := os) (d := d) H hx hd.1
  have hE : (⟨callN T sub (n + 5), noAsk, none, sub⟩ : EvC).bare = ⟨callN T sub (n + 5), noAsk, none, sub⟩ := rfl
  have wr : ∀ M, callN T sub (n + 5) 6 [houseD s nx os, d, f, v] none M = toRx (writtenE s nx os d f v) (M ++ wJ s os d) := fun M => s_written (n + 2) s nx os d f v hd.plain (hf.1.ok.mono (by omega)) hv.plain H.toHOk M
  let due := rp (outD (writtenE s nx os d f v))
  let due2 := rp (outD (droppedE s nx os d))
  let A := M3 ++ J4 ++ wJ s os d
  have o1 := fun ρ M (h : ρ[1]? = some (some (houseD s nx os)) ∧ ρ[2]? = some (some d) ∧ ρ[5]? = some (some f) ∧ ρ[6]? = some (some v)) => s_out (n := n + 4) (b := .call 6 (.cons (.var 1) (.cons (.var 2) (.cons (.var 5) (.cons (.var 6) .nil))))) (E := ⟨callN T sub (n + 5), noAsk, none, sub⟩) (ρ := ρ) (M := M) (M' := M ++ wJ s os d) (e := writtenE s nx os d f v) (by simp_arith [h.1, h.2.1, h.2.2.1, h.2.2.2, wr]) herr
  have o2 := fun ρ M (h : ρ[1]? = some (some (houseD s nx os)) ∧ ρ[2]? = some (some d) ∧ ρ[5]? = some (some f) ∧ ρ[6]? = some (some v)) => s_out (n := n + 4) (b := .callW 6 ["value", "field", "number", "plain"] [3, 2, 1, 0] (.cons (.var 6) (.cons (.var 5) (.cons (.var 2) (.cons (.var 1) .nil))))) (E := ⟨callN T sub (n + 5), noAsk, none, sub⟩) (ρ := ρ) (M := M) (M' := M ++ wJ s os d) (e := writtenE s nx os d f v) (by simp_arith [h.1, h.2.1, h.2.2.1, h.2.2.2, wr]) herr
  have km : ∀ (A J : MH) (xs : List D), mtKind "append" (.ref A.length) (A ++ .lst xs :: J) = true := fun A J xs => kind_lst get_mid (by decide) (by decide)
  have ap : ∀ (A J : MH) (x y : D), mtD "append" (.ref A.length) [y] (A ++ .lst [x] :: J) = .ok .non (A ++ .lst [x, y] :: J) := fun A J x y => by
    rw [append_ok get_mid (by show 1 < sizeLine; decide), set_mid]
    rfl
  let B := A ++ .lst [.str due, .str due] :: wJ s os d
  obtain ⟨J5, e5⟩ := s_dropped_due (n + 2) s nx os d hd.2 H B
  obtain ⟨J6, e6⟩ := s_dropped (n + 2) s nx os d hd.plain H.toHOk (B ++ J5)
  let A2 := B ++ J5 ++ J6
  obtain ⟨J7, e7⟩ := s_dropped (n + 2) s nx os d hd.plain H.toHOk (A2 ++ [.lst [.str due2]])
  have o3 := fun ρ (h : ρ[1]? = some (some (houseD s nx os)) ∧ ρ[2]? = some (some d)) => s_out (n := n + 4) (b := .call 8 (.cons (.var 1) (.cons (.var 2) .nil))) (E := ⟨callN T sub (n + 5), noAsk, none, sub⟩) (ρ := ρ) (M := B ++ J5) (M' := B ++ J5 ++ J6) (e := droppedE s nx os d) (by simp_arith [h.1, h.2, e6]) herr2
  have o4 := fun ρ (h : ρ[1]? = some (some (houseD s nx os)) ∧ ρ[2]? = some (some d)) => s_out (n := n + 4) (b := .callW 8 ["number", "plain"] [1, 0] (.cons (.var 2) (.cons (.var 1) .nil))) (E := ⟨callN T sub (n + 5), noAsk, none, sub⟩) (ρ := ρ) (M := A2 ++ [.lst [.str due2]]) (M' := A2 ++ [.lst [.str due2]] ++ J7) (e := droppedE s nx os d) (by simp_arith [h.1, h.2, e7]) herr2
  have n1 : A ++ [.lst [.str due]] ++ wJ s os d = A ++ .lst [.str due] :: wJ s os d := by simp
  have n2 : A2 ++ [.lst [.str due2]] ++ J7 = A2 ++ .lst [.str due2] :: J7 := by simp
  have ne1 := told_ne (p := A.length) (x := due) (M := B) get_mid (asc_rp hsz.low)
  have eq2 := told_eq (p := A2.length) (x := due2) (M := A2 ++ .lst [.str due2, .str due2] :: J7) get_mid (asc_rp hsz2.low)
  rw [r__law_others_right]
  have o1' := o1 [some (.ref 0), some (houseD s nx os), some d, some (.str due), none, some f, some v] (M3 ++ J4) ⟨rfl, rfl, rfl, rfl⟩
  have o2' := o2 [some (.ref 0), some (houseD s nx os), some d, some (.str due), some (.ref A.length), some f, some v] (A ++ [.lst [.str due]]) ⟨rfl, rfl, rfl, rfl⟩
  have o3' := o3 [some (.ref 0), some (houseD s nx os), some d, some (.str due2), some (.ref A.length), some f, some v] ⟨rfl, rfl⟩
  have o4' := o4 [some (.ref 0), some (houseD s nx os), some d, some (.str due2), some (.ref A2.length), some f, some v] ⟨rfl, rfl⟩
  refine ⟨J2 ++ (J4 ++ wJ s os d ++ .lst [.str due, .str due] :: wJ s os d ++ J5 ++ J6 ++ .lst [.str due2, .str due2] :: J7), A2 ++ .lst [.str due2, .str due2] :: J7, ?_, ?_⟩
  · simp only [A, B, A2, due, due2] at *
    simp_arith [b__law_others_right, e1, e2, e3, e4, hsz.repr (by omega) (by omega), o1', o2', n1, km, ap, ne1, e5, hsz2.repr (by omega) (by omega), o3', o4', n2, eq2]
  · have := fed_app (J := J4 ++ wJ s os d ++ .lst [.str due, .str due] :: wJ s os d ++ J5 ++ J6 ++ .lst [.str due2, .str due2] :: J7) hF3
    simp only [A2, B, A]
    simpa [List.append_assoc] using this
end Law
/-! P18: the law. -/
namespace Law
open PySem PySem.Spec PyProof.Rows L2 Mj Mq
local macro_rules
  | `(tactic| simp_arith [$ls,*] $[at $l]?) => `(tactic| simp only [Mq.vr_ok, Mq.up_ok, Mq.tr_ok, Mq.td_ok, Mq.td_exc, Mq.td_bad, Mq.tru1_ok, Mq.tru1_exc, Mq.tru1_bad, Mq.tnot_ok, Mq.tnot_exc, Mq.tnot_bad, Mq.ev_var, Mq.ev_const, Mq.ev_glob, Mq.kBin2_ok, Mq.kBin2_exc, Mq.kBin2_bad, Mq.kBin1_ok, Mq.kBin1_exc, Mq.kBin1_bad, Mq.ev_bin, Mq.negD_int, Mq.kNeg_ok, Mq.kNeg_exc, Mq.kNeg_bad, Mq.ev_neg, Mq.kNotE_ok, Mq.kNotE_exc, Mq.ev_not, Mq.ev_and, Mq.ev_or, Mq.brA_ok, Mq.brO_ok, Mq.kAnd_ok, Mq.kAnd_exc, Mq.evAnd_1, Mq.evAnd_2, Mq.kAndT_ok, Mq.kAndT_exc, Mq.evAndT_1, Mq.evAndT_2, Mq.kOr_ok, Mq.kOr_exc, Mq.evOr_1, Mq.evOr_2, Mq.kOrT_ok, Mq.kOrT_exc, Mq.evOrT_1, Mq.evOrT_2, Mq.kCmp2_ok, Mq.kCmp2_exc, Mq.kCmp2_bad, Mq.kCmp1_ok, Mq.kCmp1_exc, Mq.kCmp1_bad, Mq.ev_cmp, Mq.evT_cmp, Mq.kCh4_ok, Mq.kCh4_exc, Mq.kCh4_bad, Mq.kCh3_ok, Mq.kCh2_ok, Mq.kCh2_exc, Mq.kCh2_bad, Mq.kCh1_ok, Mq.kCh1_exc, Mq.kCh1_bad, Mq.ev_chain, Mq.evT_chain, Mq.kIfe_ok, Mq.kIfe_exc, Mq.ev_ife, Mq.kTup_ok, Mq.kTup_exc, Mq.ev_tup, Mq.kLst_ok, Mq.kLst_exc, Mq.ev_lst, Mq.kDict_ok, Mq.ev_dict, Mq.kIdx2_ok, Mq.kIdx2_exc, Mq.kIdx2_bad, Mq.kIdx1_ok, Mq.kIdx1_exc, Mq.kIdx1_bad, Mq.ev_idx, Mq.kSl3_ok, Mq.kSl2_ok, Mq.kSl1_ok, Mq.kSl1_exc, Mq.kSl1_bad, Mq.ev_slice, Mq.revD_tup, Mq.kRev_ok, Mq.kRev_exc, Mq.kRev_bad, Mq.ev_revT, Mq.kCall_ok, Mq.kCall_exc, Mq.ev_call, Mq.kCallV_ok, Mq.ev_callV, Mq.kCallW_ok, Mq.ev_callW, Mq.kBi_ok, Mq.kBi_exc, Mq.ev_bi, Mq.kMeth2_ok, Mq.kMeth2_exc, Mq.kMeth1_ok, Mq.kMeth1_exc, Mq.kMeth1_bad, Mq.ev_meth, Mq.kComp_ok, Mq.ev_comp, Mq.kLam_ok, Mq.ev_lamcall, Mq.lzD_ok, Mq.kLz2_ok, Mq.kLz2_exc, Mq.kLz2_bad, Mq.kLz1_ok, Mq.kLz1_exc, Mq.kLz1_bad, Mq.ev_listZip, Mq.ev_ask, Mq.isX_ok, Mq.ev_isE, Mq.evT_isE, Mq.fldX_ok, Mq.ev_fldE, Mq.evT_not, Mq.evT_and, Mq.evT_or, Mq.evT_var, Mq.evT_call, Mq.evT_callV, Mq.evT_bi, Mq.evT_idx, Mq.kEs2_ok, Mq.kEs2_exc, Mq.kEs1_ok, Mq.kEs1_exc, Mq.evs_nil, Mq.evs_cons, Mq.intO_ok, Mq.kO_ok, Mq.evo_none, Mq.evo_some, Mq.evIf_none, Mq.evIf_some, Mq.srcX_ok, Mq.kSeq_ok, Mq.evI_seq, Mq.kRng1_ok, Mq.evI_rng1, Mq.kRng22_ok, Mq.kRng21_ok, Mq.evI_rng2, Mq.zipD_tup, Mq.zipD_lst, Mq.kZip2_ok, Mq.kZip1_ok, Mq.evI_zip, Mq.enumD_lst, Mq.kEnum_ok, Mq.evI_enum, Mq.kSet_ok, Mq.kSet_exc, Mq.exS_set, Mq.kPar2_ok, Mq.kPar2_exc, Mq.kPar1_ok, Mq.kPar1_exc, Mq.exS_par, Mq.bdR_ok, Mq.kUnp_ok, Mq.kUnp_exc, Mq.exS_unp, Mq.kIx2_ok, Mq.kIx2_exc, Mq.kIx1_ok, Mq.kIx1_exc, Mq.exS_setIx, Mq.kExp_ok, Mq.kExp_exc, Mq.exS_expr, Mq.kRet_ok, Mq.kRet_exc, Mq.exS_ret, Mq.kIfs_ok, Mq.kIfs_exc, Mq.exS_ifs, Mq.kFor_ok, Mq.kFor_exc, Mq.exS_for, Mq.kRaise_ok, Mq.kRaise_exc, Mq.exS_raise, Mq.kTryE_nx, Mq.kTryE_rt, Mq.kTry_nx, Mq.kTry_rt, Mq.kTry_xc, Mq.exS_tryAs, Mq.kSt_nx, Mq.kSt_rt, Mq.kSt_xc, Mq.exSs_nil, Mq.exSs_cons, Mq.fin_nx, Mq.fin_rt, Mq.fin_xc, Mq.fin_ite, Mq.kSt_ite, Mq.kRet_ite, Mq.kSet_ite, Mq.ite_and, Mq.ite_or, Mq.ite_andD, Mq.ite_orD, Mq.bare_mk, Mq.sz_0, Mq.sz_1, Mq.sz_2, Mq.sz_3, Mq.sz_4, Mq.sz_5, Mq.sz_6, Mq.sz_7, Mq.sz_8, Mq.sz_9, Mq.sz_10, Mq.sz_11, Mq.sz_12, Mw.tru_non, Mw.tru_bl, Mw.tru_int, Mw.tru_tup, Mw.tru_lst, Mw.getL_lst, Mw.resO_some, Mw.resO_none, Mw.newL_false, Mw.newL_true, Mw.cmp_eq_int, Mw.cmp_ne_int, Mw.cmp_lt_int, Mw.cmp_le_int, Mw.cmp_gt_int, Mw.cmp_ge_int, Mw.cmp_eq_str, Mw.cmp_ne_str, Mw.bq_len, Mw.bq_isi, Mw.bq_int, Mw.bq_str, Mw.bq_ord, Mw.bq_all, Mw.bq_list, Mw.bq_tuple, Mw.bq_dict, Mw.bq_sorted, Mw.bq_repr, Mw.bq_min, Mw.bq_max, Mw.len_tup, Mw.len_lst, Mw.int_int, Mw.tuple_lst, Mw.list_tup_f, Mw.list_lst_f, Mw.idx_tup, Mw.idx_lst, Mw.src_tup, Mw.src_lst, Mw.add_int, Mw.sub_int, Mw.atI_0, Mw.atI_1, Mw.atI_2, Mw.atI_3, Mw.atI_4, Mq.ii_int, Mq.ii_bl, Mq.ii_str, Mq.ii_non, Mq.ii_tup, Mq.ii_lst, Mq.ib_int, Mq.ib_bl, Mq.ib_str, Mq.ib_non, Mq.ib_tup, Mq.ib_lst, Mq.is_int, Mq.is_bl, Mq.is_str, Mq.is_non, Mq.is_tup, Mq.is_lst, Mq.it_int, Mq.it_bl, Mq.it_str, Mq.it_non, Mq.it_tup, Mq.it_lst, Mq.il_int, Mq.il_bl, Mq.il_str, Mq.il_non, Mq.il_tup, Mq.il_lst, Mq.cis_int, Mq.cis_bl, Mq.cis_str, Mq.cis_non, Mq.cis_tup, Mq.cis_lst, Mq.cnis_int, Mq.cnis_bl, Mq.cnis_str, Mq.cnis_non, Mq.cnis_tup, Mq.cnis_lst, Mj.bindT, Mj.bindTs, Mj.wipeR, Mj.Tg.own, Mj.Tgs.own, List.getElem?_cons_zero, List.getElem?_cons_succ, List.set_cons_zero, List.set_cons_succ, if_true, Bool.false_eq_true, if_false, ite_false, ite_true, List.length_cons, List.length_nil, List.cons_append, List.nil_append, Bool.not_true, Bool.not_false, Bool.and_true, Bool.true_and, Bool.false_and, Bool.and_false, Bool.or_true, Bool.true_or, Bool.or_false, Bool.false_or, Bool.not_not, Nat.zero_add, and_self, Mj.pickAll, List.isEmpty_cons, List.isEmpty_nil, Nat.reduceAdd, Nat.reduceLeDiff, Nat.reduceEqDiff, eq_self, Int.reduceLT, Int.reduceLE, Int.reduceAdd, Int.reduceSub, Int.reduceToNat, decide_true, decide_false, Int.reduceNeg, Nat.reduceSub, $ls,*] $[at $l]?)
def docS : Sch := [("box", [("lid", .cls "lid"), ("size", .rng 0 9)]), ("lid", [("of", .cls "box"), ("w", .rng 0 5)])]
def docO : List Ob := [⟨0, "box", [.int 1, .int 4]⟩, ⟨1, "lid", [.int 0, .int 5]⟩, ⟨2, "box", [.non, .int 9]⟩]
theorem doc_names : ((docS.all fun c => nameS c.1 && (c.2.all fun f => nameS f.1 && (match f.2 with | .cls k => nameS k | _ => true))) && decide (docS.map (·.1)).Nodup && (docS.all fun c => decide (c.2.map (·.1)).Nodup)) = true := by decide +kernel
theorem doc_ok : LOk docS docO := by
  have h := doc_names
  simp only [Bool.and_eq_true, decide_eq_true_eq] at h
  obtain ⟨⟨h1, h2⟩, h3⟩ := h
  have c1 : ∀ c ∈ docS, nameS c.1 = true ∧ ∀ f ∈ c.2, nameS f.1 = true ∧ ∀ k, f.2 = .cls k → nameS k = true := by
    intro c hc
    have := List.all_eq_true.mp h1 c hc
    rw [Bool.and_eq_true] at this
    refine ⟨this.1, fun f hf => ?_⟩
    have := List.all_eq_true.mp this.2 f hf
    rw [Bool.and_eq_true] at this
    refine ⟨this.1, fun k e => ?_⟩
    have h2 := this.2
    rw [e] at h2
    exact h2
  refine ⟨⟨fun c hc => ⟨nm_nmOk (c1 c hc).1, (c1 c hc).1, ?_, ?_, fun f hf => ⟨nm_nmOk ((c1 c hc).2 f hf).1, ((c1 c hc).2 f hf).1, fun k e => nm_nmOk (((c1 c hc).2 f hf).2 k e)⟩⟩, h2, by decide, by decide, by decide, ?_⟩, ?_, ?_, ?_, fun c hc f hf k e => ((c1 c hc).2 f hf).2 k e⟩
  · simp only [docS, List.mem_cons, List.not_mem_nil, or_false] at hc
    rcases hc with rfl | rfl <;> decide
  · have := List.all_eq_true.mp h3 c hc
    simpa using this
  · intro o ho
    simp only [docO, List.mem_cons, List.not_mem_nil, or_false] at ho
    have hb : lookS docS "box" = some ([("lid", Kd.cls "lid"), ("size", Kd.rng 0 9)] : Lot) := rfl
    have hl : lookS docS "lid" = some ([("of", Kd.cls "box"), ("w", Kd.rng 0 5)] : Lot) := rfl
    have nb : nmOk "box" := nm_nmOk (by decide +kernel)
    have nl : nmOk "lid" := nm_nmOk (by decide +kernel)
    rcases ho with rfl | rfl | rfl
    · exact ⟨nb, ⟨_, hb, rfl⟩, by intro v hv; simp only [List.mem_cons, List.not_mem_nil, or_false] at hv; rcases hv with rfl | rfl <;> rfl⟩
    · exact ⟨nl, ⟨_, hl, rfl⟩, by intro v hv; simp only [List.mem_cons, List.not_mem_nil, or_false] at hv; rcases hv with rfl | rfl <;> rfl⟩
    · exact ⟨nb, ⟨_, hb, rfl⟩, by intro v hv; simp only [List.mem_cons, List.not_mem_nil, or_false] at hv; rcases hv with rfl | rfl <;> rfl⟩
  · intro o ho
    simp only [docO, List.mem_cons, List.not_mem_nil, or_false] at ho
    rcases ho with rfl | rfl | rfl <;> decide
  · intro o ho v hv
    simp only [docO, List.mem_cons, List.not_mem_nil, or_false] at ho
    rcases ho with rfl | rfl | rfl <;> simp only [List.mem_cons, List.not_mem_nil, or_false] at hv <;> rcases hv with rfl | rfl <;> decide +kernel
  · intro c hc f hf
    simp only [docS, List.mem_cons, List.not_mem_nil, or_false] at hc
    rcases hc with rfl | rfl <;> simp only [List.mem_cons, List.not_mem_nil, or_false] at hf <;> rcases hf with rfl | rfl <;> decide +kernel
def docR : D := .tup [.tup [.str "box", .tup [.tup [.str "area", .tup [.int 0, .int 50]], .tup [.str "lid", .str "lid"]], .tup [.tup [.str "*", .tup [.str "get", .tup [.str "size"], .int 0], .tup [.str "get", .tup [.str "lid", .str "w"], .int 1]], .tup [.str "to", .tup [.str "lid"]]]]]
theorem s_document (n : Nat) (M : MH) : callN T sub (n + 1) 20 [] none M = .ok (.tup [houseD docS 3 docO, docR]) M := by
  rw [r__law_document]
  simp_arith [b__law_document]
  rfl
def dueD : D := .tup [.str "told", .tup [schD docS, .int 3, .tup [.tup [.int 0, .str "box", .tup [.non, .int 4]], .tup [.int 2, .str "box", .tup [.non, .int 9]]]]]
theorem doc_drop : outD (droppedE docS 3 docO (.int 1)) = dueD := by rfl
theorem ints_lay : ∀ ns : List Int, PyData.canLayAll0 (ns.map PyData.int) = true ∧ PyData.depthAll (ns.map PyData.int) ≤ 1
  | [] => ⟨rfl, by simp [PyData.depthAll]⟩
  | n :: ns => by
    obtain ⟨h1, h2⟩ := ints_lay ns
    refine ⟨by simp only [List.map_cons, PyData.canLayAll0, PyData.canLay0, h1, Bool.and_self], ?_⟩
    simp only [List.map_cons, PyData.depthAll, PyData.depth]
    omega
theorem ne_scr (ns : List Int) (M : MH) : cmpD .NotEq (.scr ns) (.lst []) M = some (!ns.isEmpty) := by
  have hs : SeqAt.shaped (.list (ns.map PyData.int)) = true := by
    unfold SeqAt.shaped
    have h1 : PyData.canLay0 (.list (ns.map PyData.int)) = true := (ints_lay ns).1
    have h2 : PyData.depth (.list (ns.map PyData.int)) ≤ 64 := by
      have := (ints_lay ns).2
      simp only [PyData.depth]
      omega
    rw [h1, decide_eq_true h2]
    rfl
  have hn : SeqAt.shaped (.list []) = true := rfl
  show (eqD M (.scr ns) (.lst [])).map (!·) = _
  have e1 : pyS M (.scr ns) = some (.list (ns.map PyData.int)) := rfl
  have e2 : pyS M (.lst []) = some (.list []) := rfl
  simp only [eqD, e1, e2, hs, hn, Bool.and_self, if_true]
  cases ns <;> rfl
theorem s_laps (n : Nat) (ns : List Int) (M : MH) : ∃ k : Nat, k ≤ 5 ∧ callN T sub (n + 1) 11 [.scr ns, .int 5] none M = .ok (.int k) M := by
  rw [r__law_laps]
  simp_arith [b__law_laps, ne_scr]
  cases ns with
  | nil => exact ⟨1, by omega, by simp_arith []; rfl⟩
  | cons a r => exact ⟨5, by omega, by simp_arith []; rfl⟩
/-- one lap -/
theorem s_lap (ns n0 : List Int) (d0 d2 : D) (R M : MH) (u3 u4 u5 u6 u7 : Option D) (hF : Fed n0 R M) :
    ∃ J M' v4 v6 v7, exSs l_law_1 ⟨callN T sub 30, noAsk, none, sub⟩ [some d0, some (.ref 0), some d2, u3, u4, u5, u6, u7] M = .ok (.nx [some d0, some (.ref 0), some d2, u3, v4, u5, v6, v7]) M' ∧ Fed n0 (R ++ J) M' := by
  obtain ⟨s, J1, M1, e1, hS, hF1⟩ := s_classes 26 n0 R M hF
  obtain ⟨os, nx, J2, M2, e2, hP, h0, h6, hF2⟩ := s_house 25 n0 _ M1 s 6 hF1 hS (by omega)
  have H := hP.lok h0
  have hx : nx.natAbs < 1000 := by have := hP.nx; omega
  have hz := house_sz (s := s) (os := os) (nx := nx) H (num_iB hx)
  have e1' : callN T sub 30 14 [.ref 0] none M = .ok (schD s) M1 := e1
  have e2' : callN T sub 30 17 [.ref 0, schD s, .int 6] none M1 = .ok (houseD s nx os) M2 := e2
  let ρ0 : Option D → Rho := fun u7 => [some d0, some (.ref 0), some d2, u3, some (houseD s nx os), u5, some (.str (rp (houseD s nx os))), u7]
  obtain ⟨f, M3, e3, J3, v7, rfl, hF3⟩ := for_suf (src := .vals ((List.range 6).map fun (j : Nat) => D.int (j : Int))) (M := M2) (E := ⟨callN T sub 30, noAsk, none, sub⟩) (ρ := ρ0 u7) (tg := .name 7) (body := l_law_0) (fun (j : Nat) => D.int (j : Int)) (List.range 6)
    (fun r ρ M' => ∃ J v7, ρ = ρ0 v7 ∧ Fed n0 (R ++ J1 ++ J2 ++ J) M')
    (fun f M' => ∃ J v7, f = .nx (ρ0 v7) ∧ Fed n0 (R ++ J1 ++ J2 ++ J) M')
    (fun r ρ M' h => Mw.SrcIs.vals) ⟨[], u7, rfl, by simpa using hF2⟩ (by
      rintro ρ M' ⟨J, v7, rfl, h⟩
      exact ⟨J, v7, rfl, h⟩) (by
      rintro j r ρ M' _ ⟨J, v7, rfl, h⟩
      refine ⟨_, rfl, ?_⟩
      obtain ⟨J4, M4, e4, hF4⟩ := s_making_right 24 n0 _ M' s nx os h hP h0
      obtain ⟨J5, M5, e5, hF5⟩ := s_others_right 24 n0 _ M4 s nx os hF4 hP h0
      have e4' : callN T sub 30 31 [.ref 0, houseD s nx os] none M' = .ok (.bl true) M4 := e4
      have e5' : callN T sub 30 32 [.ref 0, houseD s nx os] none M4 = .ok (.bl true) M5 := e5
      refine ⟨.nx (ρ0 (some (.int (j : Int)))), M5, ?_, J ++ J4 ++ J5, _, rfl, by simpa [List.append_assoc] using hF5⟩
      simp_arith [l_law_0, ρ0, e4', e5'])
  simp only [ρ0] at e3
  refine ⟨J1 ++ J2 ++ J3, M3, some (houseD s nx os), some (.str (rp (houseD s nx os))), v7, ?_, by simpa [List.append_assoc] using hF3⟩
  have r6 : ∀ M, rng1D (.int 6) M = .ok (.vals ((List.range 6).map fun (j : Nat) => D.int (j : Int))) M := fun M => rng1D_ok 6 M (by omega)
  simp_arith [l_law_1, e1', e2', hz.repr (by omega) (by omega), r6, e3, ρ0, decide_true]
theorem law_true (ns : List Int) (hns : ns.length ≤ 63) : ∃ M', callN T sub 31 33 [.scr ns] none [] = .ok (.bl true) M' := by
  let n0 := ns.take 63
  have hF0 : Fed n0 [] [feedO n0 0 0 0] := ⟨0, 0, 0, by omega, by simp [n0]; omega, rfl⟩
  obtain ⟨J1, e1⟩ := s_dropped 27 docS 3 docO (.int 1) rfl doc_ok.toHOk [feedO n0 0 0 0]
  have e1' : callN T sub 30 8 [houseD docS 3 docO, .int 1] none [feedO n0 0 0 0] = toRx (droppedE docS 3 docO (.int 1)) ([feedO n0 0 0 0] ++ J1) := e1
  have hsz := dropped_sz (s := docS) (nx := 3) (os := docO) (d := .int 1) doc_ok (by decide) ((Sz.int (by decide +kernel)).mono (by omega) (by omega))
  have o1 : ∀ (ρ : Rho) (h : ρ[4]? = some (some (houseD docS 3 docO))), callN T sub 30 19 [] (some (lamA (.call 8 (.cons (.var 4) (.cons (.const (.int 1)) .nil))) ⟨callN T sub 30, noAsk, none, sub⟩ ρ)) [feedO n0 0 0 0] = .ok dueD ([feedO n0 0 0 0] ++ J1) := fun ρ h => by
    rw [← doc_drop]
    exact s_out (n := 29) (b := .call 8 (.cons (.var 4) (.cons (.const (.int 1)) .nil))) (E := ⟨callN T sub 30, noAsk, none, sub⟩) (ρ := ρ) (M := [feedO n0 0 0 0]) (M' := [feedO n0 0 0 0] ++ J1) (e := droppedE docS 3 docO (.int 1)) (by simp_arith [h, e1']) hsz.2
  have e2 : callN T sub 30 9 [.scr ns] none [] = .ok (.ref 0) [feedO n0 0 0 0] := s_feed 29 ns
  have e3 : callN T sub 30 20 [] none [feedO n0 0 0 0] = .ok (.tup [houseD docS 3 docO, docR]) [feedO n0 0 0 0] := s_document 29 _
  obtain ⟨k, hk, e4⟩ := s_laps 29 ns ([feedO n0 0 0 0] ++ J1)
  have e4' : callN T sub 30 11 [.scr ns, .int 5] none ([feedO n0 0 0 0] ++ J1) = .ok (.int k) ([feedO n0 0 0 0] ++ J1) := e4
  have hok : Ok 7 dueD := by
    have := hsz.1.ok
    rw [doc_drop] at this
    exact this
  have hne : ∀ M, cmpD .NotEq dueD dueD M = some false := fun M => by
    rw [cmpNe_ok (by omega) (by omega) hok hok, eqvD_refl _ hok]
    rfl
  let ρ0 : Option D → Option D → Option D → Option D → Rho := fun u3 u4 u6 u7 => [some (.scr ns), some (.ref 0), some dueD, u3, u4, some docR, u6, u7]
  obtain ⟨f, M3, e5, v3, v4, v6, v7, rfl⟩ := for_suf (src := .vals ((List.range k).map fun (j : Nat) => D.int (j : Int))) (M := [feedO n0 0 0 0] ++ J1) (E := ⟨callN T sub 30, noAsk, none, sub⟩) (ρ := ρ0 none (some (houseD docS 3 docO)) none none) (tg := .name 3) (body := l_law_1) (fun (j : Nat) => D.int (j : Int)) (List.range k)
    (fun r ρ M' => ∃ J v3 v4 v6 v7, ρ = ρ0 v3 v4 v6 v7 ∧ Fed n0 J M')
    (fun f M' => ∃ v3 v4 v6 v7, f = .nx (ρ0 v3 v4 v6 v7))
    (fun r ρ M' h => Mw.SrcIs.vals) ⟨J1, _, _, _, _, rfl, by simpa using fed_app (J := J1) hF0⟩ (by
      rintro ρ M' ⟨J, v3, v4, v6, v7, rfl, h⟩
      exact ⟨v3, v4, v6, v7, rfl⟩) (by
      rintro j r ρ M' _ ⟨J, v3, v4, v6, v7, rfl, h⟩
      refine ⟨ρ0 (some (.int (j : Int))) v4 v6 v7, rfl, ?_⟩
      obtain ⟨J4, M4, w4, w6, w7, e6, hF4⟩ := s_lap ns n0 (.scr ns) dueD J M' (some (.int (j : Int))) v4 (some docR) v6 v7 h
      exact ⟨.nx (ρ0 (some (.int (j : Int))) w4 w6 w7), M4, e6, _, _, _, _, _, rfl, hF4⟩)
  simp only [ρ0] at e5
  refine ⟨M3, ?_⟩
  rw [show (31 : Nat) = 30 + 1 from rfl, r_law]
  have ed : dueD = .tup [.str "told", .tup [schD docS, .int 3, .tup [.tup [.int 0, .str "box", .tup [.non, .int 4]], .tup [.int 2, .str "box", .tup [.non, .int 9]]]]] := rfl
  have hix : ∀ M, idxD (houseD docS 3 docO) (.int 0) M = some (schD docS) := fun M => rfl
  simp_arith [b_law, e2, e3, hix]
  rw [← ed]
  have r5 := rng1D_ok (k : Int) ([feedO n0 0 0 0] ++ J1) (by omega)
  simp only [List.cons_append, List.nil_append] at e4' e5 r5
  simp_arith [o1, hne, e4', r5, Int.toNat_natCast, e5, ρ0]
end Law
open PySem PySem.W PyProof.Rows
set_option maxHeartbeats 0 in
theorem PySem.Challenge.cw_lateforms_k18_plain_steps_done_holds : PySem.Challenge.rw_lateforms_k18_plain_steps_done.Holds := by
  w_on; o_law; k_head; (case hw => w_witness2)
  k_fill
  refine Mj.law_of (l := PySem.Challenge.rw_lateforms_k18_plain_steps_done) (n := 63) (k := 31) (j := 33) (g := Law.cfg) (sub := Law.sub) (T := Law.T) rfl (by decide) rfl ⟨rfl, by decide, by decide⟩ (fun w h Y => PySem.W.km_in_of Y) rfl ?F ?E
  case F =>
    intro w mg h KX G
    refine' Law.facts (prog := PySem.Challenge.rw_lateforms_k18_plain_steps_done.prog) KX G ?a0 ?l0 ?c0 ?k0 ?a1 ?l1 ?c1 ?k1 ?a2 ?l2 ?c2 ?k2 ?a3 ?l3 ?c3 ?k3 ?a4 ?l4 ?c4 ?k4 ?a5 ?l5 ?c5 ?k5 ?a6 ?l6 ?c6 ?k6 ?a7 ?l7 ?c7 ?k7 ?a8 ?l8 ?c8 ?k8 ?a9 ?l9 ?c9 ?k9 ?a10 ?l10 ?c10 ?k10 ?a11 ?l11 ?c11 ?k11 ?a12 ?l12 ?c12 ?k12 ?a13 ?l13 ?c13 ?k13 ?a14 ?l14 ?c14 ?k14 ?a15 ?l15 ?c15 ?k15 ?a16 ?l16 ?c16 ?k16 ?a17 ?l17 ?c17 ?k17 ?a18 ?l18 ?c18 ?k18 ?a19 ?l19 ?c19 ?k19 ?a20 ?l20 ?c20 ?k20 ?a21 ?l21 ?c21 ?k21 ?a22 ?l22 ?c22 ?k22 ?a23 ?l23 ?c23 ?k23 ?a24 ?l24 ?c24 ?k24 ?a25 ?l25 ?c25 ?k25 ?a26 ?l26 ?c26 ?k26 ?a27 ?l27 ?c27 ?k27 ?a28 ?l28 ?c28 ?k28 ?a29 ?l29 ?c29 ?k29 ?a30 ?l30 ?c30 ?k30 ?a31 ?l31 ?c31 ?k31 ?a32 ?l32 ?c32 ?k32 ?a33 ?l33 ?c33 ?k33 ?gq0 ?gq1 ?zq0 ?zq1 ?zq2 ?zq3 ?zq4 ?zq5 ?zq6 ?zq7 ?zq8 ?zq9 ?zq10 ?zq11 ?zq12 ?zq13 ?zq14 ?ca0 ?ca1 ?ca2 ?ca3 ?ca4 ?ca5 ?ca6 ?ca7 ?ca8 ?ca9 ?ca10 ?ca11 ?ca12 ?cb0 ?cb1 ?cb2 ?cb3 ?cb4 ?cb5 ?cb6 ?cb7 ?cb8 ?cb9 ?cb10 ?cb11 ?cb12 ?sb ?xl6 ?xr6 ?xi6 ?xf6 ?xc6 ?xd6 ?xv6 ?xw6 ?xe6 ?xg6 ?xm6 ?xo6 ?xs6 ?xt6 ?xa6 ?xb6 ?xy6 ?xk6 ?xz6 ?xl5 ?xr5 ?xi5 ?xf5 ?xc5 ?xd5 ?xv5 ?xw5 ?xe5 ?xg5 ?xm5 ?xo5 ?xs5 ?xt5 ?xa5 ?xb5 ?xy5 ?xk5 ?xz5 ?tp ?tq31 ?tk31 ?tv31 ?tn31 ?tq32 ?tk32 ?tv32 ?tn32 ?tq33 ?tk33 ?tv33 ?tn33 ?tnd ?tr31 ?tr32 ?tr33
    (case a0 => k_is)
    (case l0 => k_is)
    (case c0 => k_is)
    (case k0 => k_is)
    (case a1 => k_is)
    (case l1 => k_is)
    (case c1 => k_is)
    (case k1 => k_is)
    (case a2 => k_is)
    (case l2 => k_is)
    (case c2 => k_is)
    (case k2 => k_is)
    (case a3 => k_is)
    (case l3 => k_is)
    (case c3 => k_is)
    (case k3 => k_is)
    (case a4 => k_is)
    (case l4 => k_is)
    (case c4 => k_is)
    (case k4 => k_is)
    (case a5 => k_is)
    (case l5 => k_is)
    (case c5 => k_is)
    (case k5 => k_is)
    (case a6 => k_is)
    (case l6 => k_is)
    (case c6 => k_is)
    (case k6 => k_is)
    (case a7 => k_is)
    (case l7 => k_is)
    (case c7 => k_is)
    (case k7 => k_is)
    (case a8 => k_is)
    (case l8 => k_is)
    (case c8 => k_is)
    (case k8 => k_is)
    (case a9 => k_is)
    (case l9 => k_is)
    (case c9 => k_is)
    (case k9 => k_is)
    (case a10 => k_is)
    (case l10 => k_is)
    (case c10 => k_is)
    (case k10 => k_is)
    (case a11 => k_is)
    (case l11 => k_is)
    (case c11 => k_is)
    (case k11 => k_is)
    (case a12 => k_is)
    (case l12 => k_is)
    (case c12 => k_is)
    (case k12 => k_is)
    (case a13 => k_is)
    (case l13 => k_is)
    (case c13 => k_is)
    (case k13 => k_is)
    (case a14 => k_is)
    (case l14 => k_is)
    (case c14 => k_is)
    (case k14 => k_is)
    (case a15 => k_is)
    (case l15 => k_is)
    (case c15 => k_is)
    (case k15 => k_is)
    (case a16 => k_is)
    (case l16 => k_is)
    (case c16 => k_is)
    (case k16 => k_is)
    (case a17 => k_is)
    (case l17 => k_is)
    (case c17 => k_is)
    (case k17 => k_is)
    (case a18 => k_is)
    (case l18 => k_is)
    (case c18 => k_is)
    (case k18 => k_is)
    (case a19 => k_is)
    (case l19 => k_is)
    (case c19 => k_is)
    (case k19 => k_is)
    (case a20 => k_is)
    (case l20 => k_is)
    (case c20 => k_is)
    (case k20 => k_is)
    (case a21 => k_is)
    (case l21 => k_is)
    (case c21 => k_is)
    (case k21 => k_is)
    (case a22 => k_is)
    (case l22 => k_is)
    (case c22 => k_is)
    (case k22 => k_is)
    (case a23 => k_is)
    (case l23 => k_is)
    (case c23 => k_is)
    (case k23 => k_is)
    (case a24 => k_is)
    (case l24 => k_is)
    (case c24 => k_is)
    (case k24 => k_is)
    (case a25 => k_is)
    (case l25 => k_is)
    (case c25 => k_is)
    (case k25 => k_is)
    (case a26 => k_is)
    (case l26 => k_is)
    (case c26 => k_is)
    (case k26 => k_is)
    (case a27 => k_is)
    (case l27 => k_is)
    (case c27 => k_is)
    (case k27 => k_is)
    (case a28 => k_is)
    (case l28 => k_is)
    (case c28 => k_is)
    (case k28 => k_is)
    (case a29 => k_is)
    (case l29 => k_is)
    (case c29 => k_is)
    (case k29 => k_is)
    (case a30 => k_is)
    (case l30 => k_is)
    (case c30 => k_is)
    (case k30 => k_is)
    (case a31 => k_is)
    (case l31 => k_is)
    (case c31 => k_is)
    (case k31 => k_is)
    (case a32 => k_is)
    (case l32 => k_is)
    (case c32 => k_is)
    (case k32 => k_is)
    (case a33 => k_is)
    (case l33 => k_is)
    (case c33 => k_is)
    (case k33 => k_is)
    (case gq0 => k_is)
    (case gq1 => k_is)
    (case zq0 => k_is)
    (case zq1 => k_is)
    (case zq2 => k_is)
    (case zq3 => k_is)
    (case zq4 => k_is)
    (case zq5 => k_is)
    (case zq6 => k_is)
    (case zq7 => k_is)
    (case zq8 => k_is)
    (case zq9 => k_is)
    (case zq10 => k_is)
    (case zq11 => k_is)
    (case zq12 => k_is)
    (case zq13 => k_is)
    (case zq14 => k_is)
    (case ca0 => k_is)
    (case ca1 => k_is)
    (case ca2 => k_is)
    (case ca3 => k_is)
    (case ca4 => k_is)
    (case ca5 => k_is)
    (case ca6 => k_is)
    (case ca7 => k_is)
    (case ca8 => k_is)
    (case ca9 => k_is)
    (case ca10 => k_is)
    (case ca11 => k_is)
    (case ca12 => k_is)
    (case cb0 => (first | kernel_rfl | rfl))
    (case cb1 => (first | kernel_rfl | rfl))
    (case cb2 => (first | kernel_rfl | rfl))
    (case cb3 => (first | kernel_rfl | rfl))
    (case cb4 => (first | kernel_rfl | rfl))
    (case cb5 => (first | kernel_rfl | rfl))
    (case cb6 => (first | kernel_rfl | rfl))
    (case cb7 => (first | kernel_rfl | rfl))
    (case cb8 => (first | kernel_rfl | rfl))
    (case cb9 => (first | kernel_rfl | rfl))
    (case cb10 => (first | kernel_rfl | rfl))
    (case cb11 => (first | kernel_rfl | rfl))
    (case cb12 => (first | kernel_rfl | rfl))
    (case sb => (first | kernel_rfl | rfl))
    (case xl6 => k_is)
    (case xr6 => (first | kernel_rfl | rfl))
    (case xi6 => k_is)
    (case xf6 => k_is)
    (case xc6 => k_is)
    (case xd6 => k_is)
    (case xv6 => rfl)
    (case xw6 => (first | kernel_rfl | rfl))
    (case xe6 => k_is)
    (case xg6 => k_is)
    (case xm6 => k_is)
    (case xo6 => k_is)
    (case xs6 => (first | kernel_rfl | rfl))
    (case xt6 => k_is)
    (case xa6 => k_is)
    (case xb6 => k_is)
    (case xy6 => k_is)
    (case xk6 => k_is)
    (case xz6 => k_is)
    (case xl5 => k_is)
    (case xr5 => (first | kernel_rfl | rfl))
    (case xi5 => k_is)
    (case xf5 => k_is)
    (case xc5 => k_is)
    (case xd5 => k_is)
    (case xv5 => rfl)
    (case xw5 => (first | kernel_rfl | rfl))
    (case xe5 => k_is)
    (case xg5 => k_is)
    (case xm5 => k_is)
    (case xo5 => k_is)
    (case xs5 => (first | kernel_rfl | rfl))
    (case xt5 => k_is)
    (case xa5 => k_is)
    (case xb5 => k_is)
    (case xy5 => k_is)
    (case xk5 => k_is)
    (case xz5 => k_is)
    (case tp => (first | kernel_rfl | rfl))
    (case tq31 => rfl)
    (case tk31 => k_is)
    (case tv31 => rfl)
    (case tn31 => (first | kernel_rfl | rfl))
    (case tq32 => rfl)
    (case tk32 => k_is)
    (case tv32 => rfl)
    (case tn32 => (first | kernel_rfl | rfl))
    (case tq33 => rfl)
    (case tk33 => k_is)
    (case tv33 => rfl)
    (case tn33 => (first | kernel_rfl | rfl))
    (case tnd => decide)
    (case tr31 => rfl)
    (case tr32 => rfl)
    (case tr33 => rfl)
  case E =>
    intro ns hn
    exact Law.law_true ns hn
